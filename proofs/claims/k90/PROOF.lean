import PyProof.Rows.All
import HandS.ForMost
import HandS.Exc
import HandS.TryOnly
import HandS.WordsExc
import HandS.Flow
import HandS.IsInst
import HandS.Wide
import HandS.Deep
import KE.KeyNested
import HandS.TupAny
import PyProof.ReprRoads
import HandS.CallSlots
import HandS.Style
import KE.KDictWalk
import HandS.Strs
import KE.KDictKeyed
import KE.KDictCopyH
import KE.KDictOf
import KE.KDictList
import PyProof.DictTruth
import HandS.ExcInit
import HandS.ExcField
import HandS.ExcIs
import KE.KExcIs
import OpenK.KCls
import HandS.Defaults
import HandS.MakeKwOnly
import HandS.Property
import KE.SortData
import KE.KDictSum
import HandS.Star
import HandS.DictEq
import PyProof.InstNe
import HandS.DictComp
import HandS.SetBool
import HandS.TupSets
import PySem.Challenge.RW_plancalls_k90_answers_that_are_kept
set_option Elab.async false
set_option linter.all false
set_option maxRecDepth 100000
set_option maxHeartbeats 4000000
/-! Dn: denotations of Python code as plain functions over data and a store of mutable cells, over the layer HandS. -/
namespace L2.Dn
open PySem PySem.Spec PyProof.Rows L2
/-! ### data, cells, the store -/
/-- where a cell lies: in the global store, or in the def's own -/
inductive Ix where
  | g (i : Nat)
  | l (i : Nat)
  deriving DecidableEq
inductive D where
  | p (d : PyData)
  | cell (i : Ix)
  | tup (xs : List D)
  | lst (xs : List D)
  /-- a frozen dict, an item at least no plain datum -/
  | dct (ks : List PyData) (xs : List D)
  /-- a frozen instance of a class of the module -/
  | obj (C : Str) (ns : List Str) (xs : List D)
  /-- the exception that is being handled -/
  | exn (C : Str) (ns : List Str) (xs : List D)
  /-- a def or a class of the module -/
  | fn (x : Str)
  | ty (n : String)
  /-- something at an address of which nothing is known -/
  | opq
inductive Cell where
  | lst (xs : List D)
  | dct (kvs : List (PyData × D))
  | ins (C : Str) (fs : List (Str × D))
  | gone
structure Two (α : Type) where
  g : List α
  l : List α
def Two.at_ {α : Type} (t : Two α) : Ix → Option α
  | .g i => t.g[i]?
  | .l i => t.l[i]?
def Two.set {α : Type} (t : Two α) (x : α) : Ix → Two α
  | .g i => ⟨t.g.set i x, t.l⟩
  | .l i => ⟨t.g, t.l.set i x⟩
/-- one more at the end of one of both -/
def Two.push {α : Type} (t : Two α) (x : α) (loc : Bool) : Two α := if loc then ⟨t.g, t.l ++ [x]⟩ else ⟨t.g ++ [x], t.l⟩
def Two.next {α : Type} (t : Two α) (loc : Bool) : Ix := if loc then .l t.l.length else .g t.g.length
abbrev Store := Two Cell
abbrev Anc := Two Addr
structure Exn where
  cls : Str
  fs : List (Str × D)
inductive Res (α : Type) where
  | ok (a : α) (m : Store)
  | exc (x : Exn) (m : Store)
  | stuck
def Res.bind {α β : Type} : Res α → (α → Store → Res β) → Res β
  | .ok a m, k => k a m
  | .exc x m, _ => .exc x m
  | .stuck, _ => .stuck
abbrev Rho := List (Option D)
abbrev FE := Rho → Store → Res D
/-! ### the relation to the layer's heap -/
/-- what stands written, the world (hashes of texts), the module's names -/
structure KW where
  K : PySem.W.Frag
  w : World
  mg : Str → Option Value
  hd : Option (Addr × Obj)
instance : Coe KW PySem.W.Frag := ⟨KW.K⟩
/-- the same where nothing is being handled -/
abbrev KW.cold (K : KW) : KW := ⟨K.K, K.w, K.mg, none⟩
abbrev _root_.L2.Cx.kw (X : Cx) : KW := ⟨X.K, X.w, X.mg, if X.calm then none else X.pn.head?⟩
/-- a list that is never changed any more -/
def FzL (K : PySem.W.Frag) (H : Hp) (a : Addr) (xs : List V) : Prop := (∃ o, H a = some (.frz o (.lst xs))) ∨
  ∃ (its : Array Value) (n : Nat), K.lookup a = some { cls := .type "list", data := .seq its n } ∧ its.size ≤ sizeLine ∧ Vals xs its.toList
/-- a list that may be read -/
def RdL (K : PySem.W.Frag) (H : Hp) (a : Addr) (xs : List V) : Prop := H a = some (.lst xs) ∨ FzL K H a xs
theorem FzL.rd {K : PySem.W.Frag} {H : Hp} {a : Addr} {xs : List V} (h : FzL K H a xs) : RdL K H a xs := .inr h
theorem FzL.sq {K : PySem.W.Frag} {H : Hp} {a : Addr} {xs : List V} (h : FzL K H a xs) : SqL K H a xs := by
  rcases h with h | ⟨its, n, hk, hz, hv⟩
  · exact .inl (.inr h)
  · exact .inr ⟨_, its, n, hk, rfl, rfl, rfl, hz, hv⟩
theorem RdL.sq {K : PySem.W.Frag} {H : Hp} {a : Addr} {xs : List V} (h : RdL K H a xs) : SqL K H a xs := h.elim (fun h => .inl (.inl h)) FzL.sq
theorem RdL.obj {X : Cx} {pins : List (Addr × Obj)} {σ : St} {H : Hp} {s : Shared} {a : Addr} {xs : List V} (I : Inv X pins σ H s) (h : RdL X.K H a xs) :
    xs.length ≤ sizeLine ∧ ∃ (its : List Value) (n : Nat), Vals xs its ∧ s.heap.get? a = some { cls := .type "list", data := .seq its.toArray n } := by
  rcases h with h | ⟨o, h⟩ | ⟨its, n, hk, hz, hv⟩
  · exact I.hok a _ h
  · exact (I.hok a _ h).2
  · refine ⟨by rw [hv.length]; simpa using hz, its.toList, n, hv, ?_⟩
    rw [I.kIn a _ hk]
/-- what may change -/
def liveO : HO → Bool
  | .tup _ => false
  | .frz _ _ => false
  | .xd _ => false
  | .own _ => false
  | _ => true
/-- what stays: tuples, what is frozen, the dicts of exceptions and of instances -/
def Ext (H H' : Hp) : Prop := ∀ b u, liveO u = false → H b = some u → H' b = some u
theorem Ext.refl (H : Hp) : Ext H H := fun _ _ _ h => h
theorem Ext.trans {H H1 H2 : Hp} (a : Ext H H1) (b : Ext H1 H2) : Ext H H2 := fun _ _ l h => b _ _ l (a _ _ l h)
theorem Ext.new {H : Hp} {a : Addr} {o : HO} (h : H a = none) : Ext H (upd H a o) := fun b u _ e => by rw [upd_ne (ne_of_none e h)]; exact e
theorem Ext.putO {H : Hp} {a : Addr} {o u : HO} (h : H a = some u) (l : liveO u = true) : Ext H (upd H a o) := fun b x lx e => by
  rw [upd_ne (ne_of e h (by intro z; rw [z, l] at lx; cases lx))]; exact e
theorem Ext.put {H : Hp} {a : Addr} {o : HO} {xs : List V} (h : H a = some (.lst xs)) : Ext H (upd H a o) := Ext.putO h rfl
theorem FzL.ext {K : PySem.W.Frag} {H H' : Hp} {a : Addr} {xs : List V} (h : FzL K H a xs) (e : Ext H H') : FzL K H' a xs := by
  rcases h with ⟨o, h⟩ | h
  · exact .inl ⟨o, e _ _ rfl h⟩
  · exact .inr h
theorem SqT.ext {K : PySem.W.Frag} {H H' : Hp} {a : Addr} {xs : List V} (h : SqT K H a xs) (e : Ext H H') : SqT K H' a xs := by
  rcases h with (h | ⟨o, h⟩) | h
  · exact .inl (.inl (e _ _ rfl h))
  · exact .inl (.inr ⟨o, e _ _ rfl h⟩)
  · exact .inr h
/-- a key, up to == -/
def nk : PyData → Option NestedKey
  | .none => some .none
  | .bool b => some (.num (if b then 1 else 0))
  | .int i => some (.num i)
  | .str x => some (.text x)
  | .tuple ds => (nks ds).map .tup
  | _ => none
where nks : List PyData → Option (List NestedKey)
  | [] => some []
  | d :: ds => match nk d, nks ds with
    | some k, some ks => some (k :: ks)
    | _, _ => none
/-- a dict: its entries by their own object alone -/
def gdO (w : World) (a : Addr) (es : List (NestedKey × V × V)) : HO := .ext fun h => ∃ (o : Obj) (ens : Array DictEntry) (ep : Nat), (a == sysModules) = false ∧ h.get? a = some o ∧ o.ExactDict ∧ o.data = .dict ens ep ∧ Paired (fun (e : NestedKey × V × V) (x : DictEntry) => x.hash = e.1.hash w ∧ RelV e.2.1 x.key ∧ RelV e.2.2 x.val) es ens.toList
def keyP : Key → PyData
  | .inl i => .int i
  | .inr x => .str x
mutual
/-- frozen data -/
inductive DpZ (K : KW) (H : Hp) : V → PyData → Prop
  | non : DpZ K H .non .none
  | bl (b : Bool) : DpZ K H (.bl b) (.bool b)
  | int (i : Int) : DpZ K H (.int i) (.int i)
  | str (x : Str) : DpZ K H (.str x) (.str x)
  | lst {a : Addr} {xs : List V} {ds : List PyData} : FzL K H a xs → DpZs K H xs ds → DpZ K H (.ref a) (.list ds)
  | tup {a : Addr} {xs : List V} {ds : List PyData} : SqT K H a xs → DpZs K H xs ds → DpZ K H (.ref a) (.tuple ds)
  | dG {a : Addr} {o : Obj} {es : List (NestedKey × V × V)} {ds : List (PyData × PyData)} : H a = some (.frz o (gdO K.w a es)) → es.map (fun e => some e.1) = ds.map (fun q => nk q.1) → (∀ e ∈ es, e.1.depth ≤ 8) → (es.map (·.1)).Nodup → DpZs K H (es.map (·.2.1)) (ds.map (·.1)) → DpZs K H (es.map (·.2.2)) (ds.map (·.2)) → DpZ K H (.ref a) (.dict ds)
inductive DpZs (K : KW) (H : Hp) : List V → List PyData → Prop
  | nil : DpZs K H [] []
  | cons {v : V} {vs : List V} {d : PyData} {ds : List PyData} : DpZ K H v d → DpZs K H vs ds → DpZs K H (v :: vs) (d :: ds)
end
mutual
theorem DpZ.ext {K : KW} {H H' : Hp} (e : Ext H H') : ∀ {v : V} {d : PyData}, DpZ K H v d → DpZ K H' v d
  | _, _, .non => .non
  | _, _, .bl b => .bl b
  | _, _, .int i => .int i
  | _, _, .str x => .str x
  | _, _, .lst h r => .lst (h.ext e) (DpZs.ext e r)
  | _, _, .tup h r => .tup (SqT.ext h e) (DpZs.ext e r)
    | _, _, .dG h q h8 hn r r' => .dG (e _ _ rfl h) q h8 hn (DpZs.ext e r) (DpZs.ext e r')
theorem DpZs.ext {K : KW} {H H' : Hp} (e : Ext H H') : ∀ {vs : List V} {ds : List PyData}, DpZs K H vs ds → DpZs K H' vs ds
  | _, _, .nil => .nil
  | _, _, .cons h r => .cons (DpZ.ext e h) (DpZs.ext e r)
end
mutual
/-- data hang on the written part and the world alone -/
theorem DpZ.kw {K K' : KW} {H : Hp} (hk : K'.K = K.K) (hw : K'.w = K.w) : ∀ {v : V} {d : PyData}, DpZ K H v d → DpZ K' H v d
  | _, _, .non => .non
  | _, _, .bl b => .bl b
  | _, _, .int i => .int i
  | _, _, .str x => .str x
  | _, _, .lst h r => .lst (by rw [hk]; exact h) (DpZs.kw hk hw r)
  | _, _, .tup h r => .tup (by rw [hk]; exact h) (DpZs.kw hk hw r)
  | _, _, .dG h q h8 hn r r' => .dG (by rw [hw]; exact h) q h8 hn (DpZs.kw hk hw r) (DpZs.kw hk hw r')
theorem DpZs.kw {K K' : KW} {H : Hp} (hk : K'.K = K.K) (hw : K'.w = K.w) : ∀ {vs : List V} {ds : List PyData}, DpZs K H vs ds → DpZs K' H vs ds
  | _, _, .nil => .nil
  | _, _, .cons h r => .cons (DpZ.kw hk hw h) (DpZs.kw hk hw r)
end
/-- what a dict's keys are as data -/
structure DctK (K : KW) (H : Hp) (es : List (NestedKey × V × V)) (ks : List PyData) : Prop where
  key : es.map (fun e => some e.1) = ks.map nk
  dp : ∀ e ∈ es, e.1.depth ≤ 8
  nd : (es.map (·.1)).Nodup
  kd : DpZs K H (es.map (·.2.1)) ks
theorem DctK.ext {K : KW} {H H' : Hp} {es : List (NestedKey × V × V)} {ks : List PyData} (r : DctK K H es ks) (e : Ext H H') : DctK K H' es ks := ⟨r.key, r.dp, r.nd, r.kd.ext e⟩
theorem DctK.kw {K K' : KW} {H : Hp} {es : List (NestedKey × V × V)} {ks : List PyData} (hk : K'.K = K.K) (hw : K'.w = K.w) (r : DctK K H es ks) : DctK K' H es ks := ⟨r.key, r.dp, r.nd, r.kd.kw hk hw⟩
mutual
def VD (K : KW) (H : Hp) (c : Anc) (v : V) : D → Prop
  | .p d => DpZ K H v d
  | .cell i => ∃ a, c.at_ i = some a ∧ v = .ref a
  | .tup xs => ∃ a vs, v = .ref a ∧ SqT K H a vs ∧ VDs K H c vs xs
  | .lst xs => ∃ a vs, v = .ref a ∧ FzL K H a vs ∧ VDs K H c vs xs
  | .dct ks xs => ∃ a o es, v = .ref a ∧ H a = some (.frz o (gdO K.w a es)) ∧ DctK K H es ks ∧ VDs K H c (es.map (·.2.2)) xs
  | .obj C ns xs => ∃ a o Ca dx fs, v = .ref a ∧ K.mg C = some (.ref Ca) ∧ H a = some (.frz o (.ins Ca dx fs)) ∧ fs.map (·.1) = ns ∧ VDs K H c (fs.map (·.2)) xs
  | .exn C ns xs => ∃ a oe Ca d fs, K.hd = some (a, oe) ∧ v = .ref a ∧ K.mg C = some (.ref Ca) ∧ Zc (.ref Ca) d oe ∧ (∃ vs, oe.data = .fields vs) ∧ ((ns = [] ∧ d = none ∧ fs = []) ∨ ∃ dx, d = some dx ∧ H dx = some (.xd fs) ∧ fs.map (·.1) = ns) ∧ VDs K H c (fs.map (·.2)) xs
  | .fn x => ∃ a, K.mg x = some (.ref a) ∧ v = .ref a
  | .ty n => v = .ty n
  | .opq => ∃ a, v = .ref a
def VDs (K : KW) (H : Hp) (c : Anc) (vs : List V) : List D → Prop
  | [] => vs = []
  | d :: ds => ∃ v r, vs = v :: r ∧ VD K H c v d ∧ VDs K H c r ds
end
/-- the one goes on from the other -/
def Pre (c c' : Anc) : Prop := c.g <+: c'.g ∧ c.l <+: c'.l
theorem Pre.refl (c : Anc) : Pre c c := ⟨List.prefix_refl _, List.prefix_refl _⟩
theorem Pre.trans {a b c : Anc} (h : Pre a b) (q : Pre b c) : Pre a c := ⟨h.1.trans q.1, h.2.trans q.2⟩
theorem pre_get1 {c c' : List Addr} (h : c <+: c') {i : Nat} {a : Addr} (e : c[i]? = some a) : c'[i]? = some a := by
  obtain ⟨t, rfl⟩ := h
  rw [List.getElem?_append_left (List.getElem?_eq_some_iff.mp e).1]
  exact e
theorem pre_get {c c' : Anc} (h : Pre c c') : ∀ {i : Ix} {a : Addr}, c.at_ i = some a → c'.at_ i = some a
  | .g i, a, e => pre_get1 h.1 e
  | .l i, a, e => pre_get1 h.2 e
mutual
theorem VD.mono {K : KW} {H H' : Hp} {c c' : Anc} (e : Ext H H') (h : Pre c c') : ∀ {v : V} (d : D), VD K H c v d → VD K H' c' v d
  | v, .p d, r => by unfold VD at r ⊢; exact DpZ.ext e r
  | v, .cell i, r => by
    unfold VD at r ⊢
    obtain ⟨a, h1, h2⟩ := r
    exact ⟨a, pre_get h h1, h2⟩
  | v, .tup xs, r => by
    unfold VD at r ⊢
    obtain ⟨a, vs, h1, h2, h3⟩ := r
    exact ⟨a, vs, h1, SqT.ext h2 e, VDs.mono e h xs h3⟩
  | v, .lst xs, r => by
    unfold VD at r ⊢
    obtain ⟨a, vs, h1, h2, h3⟩ := r
    exact ⟨a, vs, h1, h2.ext e, VDs.mono e h xs h3⟩
  | v, .dct ks xs, r => by
    unfold VD at r ⊢
    obtain ⟨a, o, es, h1, h2, h3, h4⟩ := r
    exact ⟨a, o, es, h1, e _ _ rfl h2, h3.ext e, VDs.mono e h xs h4⟩
  | v, .obj C ns xs, r => by
    unfold VD at r ⊢
    obtain ⟨a, o, Ca, dx, fs, h1, h2, h3, h4, h5⟩ := r
    exact ⟨a, o, Ca, dx, fs, h1, h2, e _ _ rfl h3, h4, VDs.mono e h xs h5⟩
  | v, .exn C ns xs, r => by
    unfold VD at r ⊢
    obtain ⟨a, oe, Ca, d, fs, h1, h2, h3, h4, h5, h6, h7⟩ := r
    refine ⟨a, oe, Ca, d, fs, h1, h2, h3, h4, h5, h6.imp id ?_, VDs.mono e h xs h7⟩
    rintro ⟨dx, q1, q2, q3⟩
    exact ⟨dx, q1, e _ _ rfl q2, q3⟩
  | v, .fn x, r => by unfold VD at r ⊢; exact r
  | v, .ty n, r => by unfold VD at r ⊢; exact r
  | v, .opq, r => by unfold VD at r ⊢; exact r
theorem VDs.mono {K : KW} {H H' : Hp} {c c' : Anc} (e : Ext H H') (h : Pre c c') : ∀ {vs : List V} (ds : List D), VDs K H c vs ds → VDs K H' c' vs ds
  | vs, [], r => by unfold VDs at r ⊢; exact r
  | vs, d :: ds, r => by
    unfold VDs at r ⊢
    obtain ⟨v, q, h1, h2, h3⟩ := r
    exact ⟨v, q, h1, VD.mono e h d h2, VDs.mono e h ds h3⟩
end
theorem VDs.length {K : KW} {H : Hp} {c : Anc} : ∀ {vs : List V} {ds : List D}, VDs K H c vs ds → vs.length = ds.length
  | _, [], r => by unfold VDs at r; subst r; rfl
  | _, d :: ds, r => by
    unfold VDs at r
    obtain ⟨v, q, h1, _, h3⟩ := r
    subst h1
    simp [VDs.length h3]
theorem VDs.get {K : KW} {H : Hp} {c : Anc} : ∀ {vs : List V} {ds : List D} {i : Nat} {d : D}, VDs K H c vs ds → ds[i]? = some d → ∃ v, vs[i]? = some v ∧ VD K H c v d
  | _, [], _, _, _, e => by simp at e
  | _, d :: ds, 0, d', r, e => by
    unfold VDs at r
    obtain ⟨v, q, h1, h2, h3⟩ := r
    simp at e
    subst e h1
    exact ⟨v, rfl, h2⟩
  | _, d :: ds, i + 1, d', r, e => by
    unfold VDs at r
    obtain ⟨v, q, h1, h2, h3⟩ := r
    subst h1
    simp at e
    obtain ⟨w, h4, h5⟩ := VDs.get h3 e
    exact ⟨w, by simpa using h4, h5⟩
theorem VDs.append {K : KW} {H : Hp} {c : Anc} : ∀ {vs ws : List V} {ds es : List D}, VDs K H c vs ds → VDs K H c ws es → VDs K H c (vs ++ ws) (ds ++ es)
  | _, _, [], _, r, q => by unfold VDs at r; subst r; exact q
  | _, _, d :: ds, _, r, q => by
    unfold VDs at r
    obtain ⟨v, t, h1, h2, h3⟩ := r
    subst h1
    show VDs K H c (v :: (t ++ _)) (d :: (ds ++ _))
    unfold VDs
    exact ⟨v, _, rfl, h2, VDs.append h3 q⟩
theorem VDs.set {K : KW} {H : Hp} {c : Anc} {v : V} {d : D} (h : VD K H c v d) : ∀ {vs : List V} {ds : List D} (i : Nat), VDs K H c vs ds → VDs K H c (vs.set i v) (ds.set i d)
  | _, [], _, r => by
    unfold VDs at r
    subst r
    simp [VDs]
  | _, e :: ds, 0, r => by
    unfold VDs at r
    obtain ⟨w, t, h1, h2, h3⟩ := r
    subst h1
    show VDs K H c (v :: t) (d :: ds)
    unfold VDs
    exact ⟨v, t, rfl, h, h3⟩
  | _, e :: ds, i + 1, r => by
    unfold VDs at r
    obtain ⟨w, t, h1, h2, h3⟩ := r
    subst h1
    show VDs K H c (w :: t.set i v) (e :: ds.set i d)
    unfold VDs
    exact ⟨w, _, rfl, h2, VDs.set h i h3⟩
theorem VDs.drop {K : KW} {H : Hp} {c : Anc} : ∀ {vs : List V} {ds : List D} (n : Nat), VDs K H c vs ds → VDs K H c (vs.drop n) (ds.drop n)
  | _, _, 0, r => r
  | _, [], n + 1, r => by unfold VDs at r; subst r; simp [VDs]
  | _, e :: ds, n + 1, r => by
    unfold VDs at r
    obtain ⟨w, t, h1, h2, h3⟩ := r
    subst h1
    exact VDs.drop n h3
theorem VDs.take {K : KW} {H : Hp} {c : Anc} : ∀ {vs : List V} {ds : List D} (n : Nat), VDs K H c vs ds → VDs K H c (vs.take n) (ds.take n)
  | _, _, 0, r => by simp [VDs]
  | _, [], n + 1, r => by unfold VDs at r; subst r; simp [VDs]
  | _, e :: ds, n + 1, r => by
    unfold VDs at r
    obtain ⟨w, t, h1, h2, h3⟩ := r
    subst h1
    show VDs K H c (w :: t.take n) (e :: ds.take n)
    unfold VDs
    exact ⟨w, _, rfl, h2, VDs.take n h3⟩
theorem VDs.one {K : KW} {H : Hp} {c : Anc} {v : V} {d : D} (h : VD K H c v d) : VDs K H c [v] [d] := by
  unfold VDs
  exact ⟨v, [], rfl, h, by unfold VDs; rfl⟩
theorem VDs.ofp {K : KW} {H : Hp} {c : Anc} : ∀ {vs : List V} {ds : List PyData}, DpZs K H vs ds → VDs K H c vs (ds.map D.p)
  | _, _, .nil => by simp [VDs]
  | _, _, .cons h r => by
    show VDs K H c _ (D.p _ :: _)
    unfold VDs
    exact ⟨_, _, rfl, by unfold VD; exact h, VDs.ofp r⟩
theorem VDs.top {K : KW} {H : Hp} {c : Anc} : ∀ {vs : List V} {ds : List PyData}, VDs K H c vs (ds.map D.p) → DpZs K H vs ds
  | _, [], r => by
    simp [VDs] at r
    subst r
    exact .nil
  | _, d :: ds, r => by
    simp only [List.map_cons] at r
    unfold VDs at r
    obtain ⟨w, t, h1, h2, h3⟩ := r
    subst h1
    unfold VD at h2
    exact .cons h2 (VDs.top h3)
/-- what a dict's entries are as data -/
structure DctR (K : KW) (H : Hp) (c : Anc) (es : List (NestedKey × V × V)) (kvs : List (PyData × D)) : Prop where
  key : es.map (fun e => some e.1) = kvs.map (fun q => nk q.1)
  dp : ∀ e ∈ es, e.1.depth ≤ 8
  nd : (es.map (·.1)).Nodup
  kd : DpZs K H (es.map (·.2.1)) (kvs.map (·.1))
  vd : VDs K H c (es.map (·.2.2)) (kvs.map (·.2))
theorem DctR.mono {K : KW} {H H' : Hp} {c c' : Anc} {es : List (NestedKey × V × V)} {kvs : List (PyData × D)} (r : DctR K H c es kvs) (ex : Ext H H') (p : Pre c c') : DctR K H' c' es kvs := ⟨r.key, r.dp, r.nd, r.kd.ext ex, VDs.mono ex p _ r.vd⟩
def CellR (K : KW) (H : Hp) (c : Anc) (a : Addr) : Cell → Prop
  | .lst ds => ∃ xs, H a = some (.lst xs) ∧ VDs K H c xs ds
  | .dct kvs => ∃ es, H a = some (gdO K.w a es) ∧ DctR K H c es kvs
  | .ins C fs => ∃ Ca dx vs, H a = some (.ins Ca dx vs) ∧ K.mg C = some (.ref Ca) ∧ vs.map (·.1) = fs.map (·.1) ∧ VDs K H c (vs.map (·.2)) (fs.map (·.2))
  | .gone => ∃ o u, H a = some (.frz o u)
/-- what the contents of a cell may name: a global cell no cell of the def's own -/
def glob {α : Type} (c : Two α) : Two α := ⟨c.g, []⟩
def forI (c : Anc) : Ix → Anc
  | .g _ => glob c
  | .l _ => c
theorem glob_pre (c : Anc) : Pre (glob c) c := ⟨List.prefix_refl _, List.nil_prefix⟩
theorem forI_pre {c c' : Anc} (p : Pre c c') : ∀ i, Pre (forI c i) (forI c' i)
  | .g _ => ⟨p.1, List.prefix_refl _⟩
  | .l _ => p
theorem forI_le (c : Anc) : ∀ i, Pre (forI c i) c
  | .g _ => glob_pre c
  | .l _ => Pre.refl c
mutual
/-- names no cell of the def's own -/
def nl : D → Bool
  | .p _ => true
  | .cell (.g _) => true
  | .cell (.l _) => false
  | .tup xs => nls xs
  | .lst xs => nls xs
  | .dct _ xs => nls xs
  | .obj _ _ xs => nls xs
  | .exn _ _ _ => false
  | .fn _ => true
  | .ty _ => true
  | .opq => true
def nls : List D → Bool
  | [] => true
  | d :: ds => nl d && nls ds
end
mutual
theorem VD.nl {K : KW} {H : Hp} {c : Anc} : ∀ {v : V} (d : D), VD K H c v d → nl d = true → VD K H (glob c) v d
  | v, .p d, r, _ => by unfold VD at r ⊢; exact r
  | v, .cell (.g i), r, _ => by unfold VD at r ⊢; exact r
  | v, .cell (.l i), r, e => by simp [Dn.nl] at e
  | v, .tup xs, r, e => by
    unfold VD at r ⊢
    obtain ⟨a, vs, h1, h2, h3⟩ := r
    exact ⟨a, vs, h1, h2, VDs.nl xs h3 (by simpa [Dn.nl] using e)⟩
  | v, .lst xs, r, e => by
    unfold VD at r ⊢
    obtain ⟨a, vs, h1, h2, h3⟩ := r
    exact ⟨a, vs, h1, h2, VDs.nl xs h3 (by simpa [Dn.nl] using e)⟩
  | v, .dct ks xs, r, e => by
    unfold VD at r ⊢
    obtain ⟨a, o, es, h1, h2, h3, h4⟩ := r
    exact ⟨a, o, es, h1, h2, h3, VDs.nl xs h4 (by simpa [Dn.nl] using e)⟩
  | v, .obj C ns xs, r, e => by
    unfold VD at r ⊢
    obtain ⟨a, o, Ca, dx, fs, h1, h2, h3, h4, h5⟩ := r
    exact ⟨a, o, Ca, dx, fs, h1, h2, h3, h4, VDs.nl xs h5 (by simpa [Dn.nl] using e)⟩
  | v, .exn C ns xs, r, e => by simp [Dn.nl] at e
  | v, .fn x, r, _ => by unfold VD at r ⊢; exact r
  | v, .ty n, r, _ => by unfold VD at r ⊢; exact r
  | v, .opq, r, _ => by unfold VD at r ⊢; exact r
theorem VDs.nl {K : KW} {H : Hp} {c : Anc} : ∀ {vs : List V} (ds : List D), VDs K H c vs ds → nls ds = true → VDs K H (glob c) vs ds
  | vs, [], r, _ => by unfold VDs at r ⊢; exact r
  | vs, d :: ds, r, e => by
    unfold VDs at r ⊢
    obtain ⟨v, q, h1, h2, h3⟩ := r
    simp only [nls, Bool.and_eq_true] at e
    exact ⟨v, q, h1, VD.nl d h2 e.1, VDs.nl ds h3 e.2⟩
end
mutual
/-- names no exception that is being handled -/
def nx : D → Bool
  | .tup xs => nxs xs
  | .lst xs => nxs xs
  | .dct _ xs => nxs xs
  | .obj _ _ xs => nxs xs
  | .exn _ _ _ => false
  | _ => true
def nxs : List D → Bool
  | [] => true
  | d :: ds => nx d && nxs ds
end
mutual
theorem VD.kw {K K' : KW} {H : Hp} {c : Anc} (hk : K'.K = K.K) (hw : K'.w = K.w) (hm : K'.mg = K.mg) : ∀ {v : V} (d : D), VD K H c v d → nx d = true → VD K' H c v d
  | v, .p d, r, _ => by unfold VD at r ⊢; exact r.kw hk hw
  | v, .cell i, r, _ => by unfold VD at r ⊢; exact r
  | v, .tup xs, r, e => by
    unfold VD at r ⊢
    obtain ⟨a, vs, h1, h2, h3⟩ := r
    exact ⟨a, vs, h1, by rw [hk]; exact h2, VDs.kw hk hw hm xs h3 (by simpa [nx] using e)⟩
  | v, .lst xs, r, e => by
    unfold VD at r ⊢
    obtain ⟨a, vs, h1, h2, h3⟩ := r
    exact ⟨a, vs, h1, by rw [hk]; exact h2, VDs.kw hk hw hm xs h3 (by simpa [nx] using e)⟩
  | v, .dct ks xs, r, e => by
    unfold VD at r ⊢
    obtain ⟨a, o, es, h1, h2, h3, h4⟩ := r
    exact ⟨a, o, es, h1, by rw [hw]; exact h2, h3.kw hk hw, VDs.kw hk hw hm xs h4 (by simpa [nx] using e)⟩
  | v, .obj C ns xs, r, e => by
    unfold VD at r ⊢
    obtain ⟨a, o, Ca, dx, fs, h1, h2, h3, h4, h5⟩ := r
    exact ⟨a, o, Ca, dx, fs, h1, by rw [hm]; exact h2, h3, h4, VDs.kw hk hw hm xs h5 (by simpa [nx] using e)⟩
  | v, .exn C ns xs, r, e => by simp [nx] at e
  | v, .fn x, r, _ => by unfold VD at r ⊢; rw [hm]; exact r
  | v, .ty n, r, _ => by unfold VD at r ⊢; exact r
  | v, .opq, r, _ => by unfold VD at r ⊢; exact r
theorem VDs.kw {K K' : KW} {H : Hp} {c : Anc} (hk : K'.K = K.K) (hw : K'.w = K.w) (hm : K'.mg = K.mg) : ∀ {vs : List V} (ds : List D), VDs K H c vs ds → nxs ds = true → VDs K' H c vs ds
  | vs, [], r, _ => by unfold VDs at r ⊢; exact r
  | vs, d :: ds, r, e => by
    unfold VDs at r ⊢
    obtain ⟨v, q, h1, h2, h3⟩ := r
    simp only [nxs, Bool.and_eq_true] at e
    exact ⟨v, q, h1, VD.kw hk hw hm d h2 e.1, VDs.kw hk hw hm ds h3 e.2⟩
end
mutual
theorem VD.nx {K : KW} (hh : K.hd = none) {H : Hp} {c : Anc} : ∀ {v : V} (d : D), VD K H c v d → nx d = true
  | v, .p d, r => by simp [Dn.nx]
  | v, .cell i, r => by simp [Dn.nx]
  | v, .tup xs, r => by
    unfold VD at r
    obtain ⟨a, vs, h1, h2, h3⟩ := r
    simpa [Dn.nx] using VDs.nx hh xs h3
  | v, .lst xs, r => by
    unfold VD at r
    obtain ⟨a, vs, h1, h2, h3⟩ := r
    simpa [Dn.nx] using VDs.nx hh xs h3
  | v, .dct ks xs, r => by
    unfold VD at r
    obtain ⟨a, o, es, h1, h2, h3, h4⟩ := r
    simpa [Dn.nx] using VDs.nx hh xs h4
  | v, .obj C ns xs, r => by
    unfold VD at r
    obtain ⟨a, o, Ca, dx, fs, h1, h2, h3, h4, h5⟩ := r
    simpa [Dn.nx] using VDs.nx hh xs h5
  | v, .exn C ns xs, r => by
    unfold VD at r
    obtain ⟨a, oe, Ca, d, fs, h1, _⟩ := r
    rw [hh] at h1
    cases h1
  | v, .fn x, r => by simp [Dn.nx]
  | v, .ty n, r => by simp [Dn.nx]
  | v, .opq, r => by simp [Dn.nx]
theorem VDs.nx {K : KW} (hh : K.hd = none) {H : Hp} {c : Anc} : ∀ {vs : List V} (ds : List D), VDs K H c vs ds → nxs ds = true
  | vs, [], r => by simp [nxs]
  | vs, d :: ds, r => by
    unfold VDs at r
    obtain ⟨v, q, h1, h2, h3⟩ := r
    simp only [nxs, Bool.and_eq_true]
    exact ⟨VD.nx hh d h2, VDs.nx hh ds h3⟩
end
mutual
theorem nx_of_nl : ∀ d : D, nl d = true → nx d = true
  | .p d, _ => by simp [nx]
  | .cell i, _ => by simp [nx]
  | .tup xs, e => by simp only [nl, nx] at e ⊢; exact nxs_of_nls xs e
  | .lst xs, e => by simp only [nl, nx] at e ⊢; exact nxs_of_nls xs e
  | .dct ks xs, e => by simp only [nl, nx] at e ⊢; exact nxs_of_nls xs e
  | .obj C ns xs, e => by simp only [nl, nx] at e ⊢; exact nxs_of_nls xs e
  | .exn C ns xs, e => by simp [nl] at e
  | .fn x, _ => by simp [nx]
  | .ty n, _ => by simp [nx]
  | .opq, _ => by simp [nx]
theorem nxs_of_nls : ∀ ds : List D, nls ds = true → nxs ds = true
  | [], _ => by simp [nxs]
  | d :: ds, e => by
    simp only [nls, nxs, Bool.and_eq_true] at e ⊢
    exact ⟨nx_of_nl d e.1, nxs_of_nls ds e.2⟩
end
theorem VD.cold {K : KW} {H : Hp} {c : Anc} {v : V} {d : D} (h : VD K H c v d) (e : Dn.nx d = true) : VD K.cold H c v d := VD.kw (K := K) (K' := K.cold) rfl rfl rfl d h e
theorem VDs.cold {K : KW} {H : Hp} {c : Anc} {v : List V} {d : List D} (h : VDs K H c v d) (e : nxs d = true) : VDs K.cold H c v d := VDs.kw (K := K) (K' := K.cold) rfl rfl rfl d h e
theorem VD.warm {K : KW} {H : Hp} {c : Anc} {v : V} {d : D} (h : VD K.cold H c v d) : VD K H c v d := VD.kw (K := K.cold) (K' := K) rfl rfl rfl d h (VD.nx rfl d h)
theorem VDs.warm {K : KW} {H : Hp} {c : Anc} {v : List V} {d : List D} (h : VDs K.cold H c v d) : VDs K H c v d := VDs.kw (K := K.cold) (K' := K) rfl rfl rfl d h (VDs.nx rfl d h)
def Has (c : Anc) (a : Addr) : Prop := ∃ i, c.at_ i = some a
structure RelS (K : KW) (c : Anc) (m : Store) (H : Hp) : Prop where
  len : c.g.length = m.g.length ∧ c.l.length = m.l.length
  inj : ∀ (i j : Ix) (a : Addr), c.at_ i = some a → c.at_ j = some a → i = j
  at_ : ∀ (i : Ix) (a : Addr) (x : Cell), c.at_ i = some a → m.at_ i = some x → CellR K.cold H (forI c i) a x
structure Gd (K : KW) (c c' : Anc) (m' : Store) (H H' : Hp) : Prop where
  pre : Pre c c'
  ext : Ext H H'
  new : ∀ a, Has c' a → Has c a ∨ H a = none
  frame : ∀ b o, ¬ Has c b → H b = some o → H' b = some o
  rel : RelS K c' m' H'
theorem Has.pre {c c' : Anc} {a : Addr} (h : Has c a) (p : Pre c c') : Has c' a := let ⟨i, e⟩ := h; ⟨i, pre_get p e⟩
theorem Gd.refl {K : KW} {c : Anc} {m : Store} {H : Hp} (r : RelS K c m H) : Gd K c c m H H := ⟨Pre.refl _, Ext.refl _, fun _ h => .inl h, fun _ _ _ h => h, r⟩
theorem Gd.trans {K : KW} {c c1 c2 : Anc} {m1 m2 : Store} {H H1 H2 : Hp} (a : Gd K c c1 m1 H H1) (b : Gd K c1 c2 m2 H1 H2) : Gd K c c2 m2 H H2 := by
  refine ⟨a.pre.trans b.pre, a.ext.trans b.ext, fun p hp => ?_, fun p o hn ho => ?_, b.rel⟩
  · rcases b.new p hp with h | h
    · exact a.new p h
    · by_cases hc : Has c p
      · exact .inl hc
      · right
        cases e : H p with
        | none => rfl
        | some o => rw [a.frame p o hc e] at h; cases h
  · have h1 := a.frame p o hn ho
    refine b.frame p o (fun z => ?_) h1
    rcases a.new p z with q | q
    · exact hn q
    · rw [ho] at q; cases q
theorem Gd.vd {K : KW} {c c' : Anc} {m' : Store} {H H' : Hp} (g : Gd K c c' m' H H') {v : V} {d : D} (h : VD K H c v d) : VD K H' c' v d := VD.mono g.ext g.pre d h
theorem Gd.vds {K : KW} {c c' : Anc} {m' : Store} {H H' : Hp} (g : Gd K c c' m' H H') {vs : List V} {ds : List D} (h : VDs K H c vs ds) : VDs K H' c' vs ds := VDs.mono g.ext g.pre ds h
structure Slo (K : KW) (H : Hp) (c : Anc) (ρ : Rho) (σ : St) : Prop where
  len : ρ.length = σ.length
  at_ : ∀ (i : Nat) (d : D), ρ[i]? = some (some d) → ∃ v, σ[i]? = some (some v) ∧ VD K H c v d
theorem Gd.slots {K : KW} {c c' : Anc} {m' : Store} {H H' : Hp} {ρ : Rho} {σ : St} (g : Gd K c c' m' H H') (s : Slo K H c ρ σ) : Slo K H' c' ρ σ :=
  ⟨s.len, fun i d e => let ⟨v, h1, h2⟩ := s.at_ i d e; ⟨v, h1, g.vd h2⟩⟩
theorem Slo.set {K : KW} {H : Hp} {c : Anc} {ρ : Rho} {σ : St} (s : Slo K H c ρ σ) (i : Nat) {v : V} {d : D} (h : VD K H c v d) : Slo K H c (ρ.set i (some d)) (σ.set i (some v)) := by
  refine ⟨by simp [s.len], fun j d' e => ?_⟩
  by_cases hj : j = i
  · subst hj
    by_cases hl : j < ρ.length
    · rw [List.getElem?_set_self hl] at e
      cases e
      exact ⟨v, List.getElem?_set_self (by rw [← s.len]; exact hl), h⟩
    · rw [List.getElem?_eq_none (by simpa using Nat.le_of_not_lt hl)] at e
      cases e
  · rw [List.getElem?_set_ne (Ne.symm hj)] at e ⊢
    exact s.at_ j d' e
theorem RelS.trk {K : KW} {c : Anc} {m : Store} {H : Hp} (r : RelS K c m H) {a : Addr} (h : Has c a) : ∃ o, H a = some o := by
  obtain ⟨i, e⟩ := h
  have hm : ∃ x, m.at_ i = some x := by
    cases i with
    | g i =>
      have : i < m.g.length := by rw [← r.len.1]; exact (List.getElem?_eq_some_iff.mp e).1
      exact ⟨_, List.getElem?_eq_getElem this⟩
    | l i =>
      have : i < m.l.length := by rw [← r.len.2]; exact (List.getElem?_eq_some_iff.mp e).1
      exact ⟨_, List.getElem?_eq_getElem this⟩
  obtain ⟨x, hx⟩ := hm
  have q := r.at_ i a x e hx
  cases x with
  | lst ds => obtain ⟨xs, h, _⟩ := q; exact ⟨_, h⟩
  | dct kvs => obtain ⟨xs, h, _⟩ := q; exact ⟨_, h⟩
  | ins C fs => obtain ⟨_, _, xs, h, _⟩ := q; exact ⟨_, h⟩
  | gone => obtain ⟨o, u, h⟩ := q; exact ⟨_, h⟩
theorem RelS.not {K : KW} {c : Anc} {m : Store} {H : Hp} (r : RelS K c m H) {a : Addr} (h : H a = none) : ¬ Has c a := fun z => by
  obtain ⟨o, e⟩ := r.trk z
  rw [h] at e; cases e
theorem push_pre (c : Anc) (a : Addr) (loc : Bool) : Pre c (c.push a loc) := by
  cases loc with
  | true => exact ⟨List.prefix_refl _, List.prefix_append _ _⟩
  | false => exact ⟨List.prefix_append _ _, List.prefix_refl _⟩
theorem app_split {α : Type} {l : List α} {x y : α} {i : Nat} (h : (l ++ [x])[i]? = some y) : l[i]? = some y ∨ (i = l.length ∧ y = x) := by
  by_cases hi : i < l.length
  · rw [List.getElem?_append_left hi] at h
    exact .inl h
  · have hl : i < (l ++ [x]).length := (List.getElem?_eq_some_iff.mp h).1
    have e : i = l.length := by simp at hl; omega
    subst e
    rw [List.getElem?_append_right (Nat.le_refl _)] at h
    simp at h
    exact .inr ⟨rfl, h.symm⟩
theorem push_split {α : Type} {t : Two α} {x y : α} {loc : Bool} {i : Ix} (h : (t.push x loc).at_ i = some y) : t.at_ i = some y ∨ (i = t.next loc ∧ y = x) := by
  cases loc with
  | true =>
    cases i with
    | g i => exact .inl h
    | l i =>
      rcases app_split (l := t.l) h with q | ⟨q1, q2⟩
      · exact .inl q
      · exact .inr ⟨by rw [q1]; rfl, q2⟩
  | false =>
    cases i with
    | l i => exact .inl h
    | g i =>
      rcases app_split (l := t.g) h with q | ⟨q1, q2⟩
      · exact .inl q
      · exact .inr ⟨by rw [q1]; rfl, q2⟩
theorem push_next {α : Type} (t : Two α) (x : α) (loc : Bool) : (t.push x loc).at_ (t.next loc) = some x := by
  cases loc with
  | true => show (t.l ++ [x])[t.l.length]? = some x; simp
  | false => show (t.g ++ [x])[t.g.length]? = some x; simp
theorem next_none {α : Type} (t : Two α) (loc : Bool) : t.at_ (t.next loc) = none := by
  cases loc with
  | true => show t.l[t.l.length]? = none; simp
  | false => show t.g[t.g.length]? = none; simp
theorem next_eq {K : KW} {c : Anc} {m : Store} {H : Hp} (r : RelS K c m H) (loc : Bool) : c.next loc = m.next loc := by
  cases loc with
  | true => show Ix.l _ = Ix.l _; rw [r.len.2]
  | false => show Ix.g _ = Ix.g _; rw [r.len.1]
theorem set_split {t : Store} {x y : Cell} {i j : Ix} (h : (t.set x i).at_ j = some y) : (j = i ∧ y = x) ∨ (j ≠ i ∧ t.at_ j = some y) := by
  cases i with
  | g i =>
    cases j with
    | l j => exact .inr ⟨(by intro z; cases z), h⟩
    | g j =>
      by_cases hj : j = i
      · subst hj
        have h' : (t.g.set j x)[j]? = some y := h
        have hl : j < (t.g.set j x).length := (List.getElem?_eq_some_iff.mp h').1
        rw [List.getElem?_set_self (by simpa using hl)] at h'
        exact .inl ⟨rfl, (Option.some.inj h').symm⟩
      · have h' : (t.g.set i x)[j]? = some y := h
        rw [List.getElem?_set_ne (Ne.symm hj)] at h'
        exact .inr ⟨(by intro z; cases z; exact hj rfl), h'⟩
  | l i =>
    cases j with
    | g j => exact .inr ⟨(by intro z; cases z), h⟩
    | l j =>
      by_cases hj : j = i
      · subst hj
        have h' : (t.l.set j x)[j]? = some y := h
        have hl : j < (t.l.set j x).length := (List.getElem?_eq_some_iff.mp h').1
        rw [List.getElem?_set_self (by simpa using hl)] at h'
        exact .inl ⟨rfl, (Option.some.inj h').symm⟩
      · have h' : (t.l.set i x)[j]? = some y := h
        rw [List.getElem?_set_ne (Ne.symm hj)] at h'
        exact .inr ⟨(by intro z; cases z; exact hj rfl), h'⟩
theorem set_len (t : Store) (x : Cell) (i : Ix) : (t.set x i).g.length = t.g.length ∧ (t.set x i).l.length = t.l.length := by
  cases i with
  | g i => exact ⟨List.length_set .., rfl⟩
  | l i => exact ⟨rfl, List.length_set ..⟩
theorem CellR.mono {K : KW} {H H' : Hp} {c c' : Anc} {a : Addr} {x : Cell} (h : CellR K H c a x) (ex : Ext H H') (p : Pre c c') (k : ∀ u, liveO u = true → H a = some u → H' a = some u) : CellR K H' c' a x := by
  cases x with
  | lst ds => obtain ⟨xs, e, hv⟩ := h; exact ⟨xs, k _ rfl e, VDs.mono ex p _ hv⟩
  | dct kvs => obtain ⟨es, e, hv⟩ := h; exact ⟨es, k _ rfl e, hv.mono ex p⟩
  | ins C fs => obtain ⟨Ca, dx, vs, e, e1, e2, hv⟩ := h; exact ⟨Ca, dx, vs, k _ rfl e, e1, e2, VDs.mono ex p _ hv⟩
  | gone => obtain ⟨o, u, e⟩ := h; exact ⟨o, u, ex _ _ rfl e⟩
/-- a tracked object becomes a cell -/
theorem RelS.adoptC {K : KW} {c : Anc} {m : Store} {H : Hp} (r : RelS K c m H) (loc : Bool) {a : Addr} {x0 : Cell} (hn : ¬ Has c a) (h : CellR K.cold H (forI c (c.next loc)) a x0) : RelS K (c.push a loc) (m.push x0 loc) H := by
  have pr := push_pre c a loc
  refine ⟨?_, fun i j b h1 h2 => ?_, fun i b x h1 h2 => ?_⟩
  · cases loc with
    | true => exact ⟨r.len.1, by show (c.l ++ [a]).length = (m.l ++ [_]).length; simp [r.len.2]⟩
    | false => exact ⟨by show (c.g ++ [a]).length = (m.g ++ [_]).length; simp [r.len.1], r.len.2⟩
  · rcases push_split h1 with p1 | ⟨p1, p2⟩
    · rcases push_split h2 with q1 | ⟨q1, q2⟩
      · exact r.inj i j b p1 q1
      · subst q2; exact absurd ⟨i, p1⟩ hn
    · rcases push_split h2 with q1 | ⟨q1, q2⟩
      · subst p2; exact absurd ⟨j, q1⟩ hn
      · rw [p1, q1]
  · rcases push_split h2 with q1 | ⟨q1, q2⟩
    · rcases push_split h1 with p1 | ⟨p1, p2⟩
      · exact (r.at_ i b x p1 q1).mono (Ext.refl _) (forI_pre pr i) fun _ _ e => e
      · rw [p1, next_eq r, next_none] at q1; cases q1
    · rcases push_split h1 with p1 | ⟨p1, p2⟩
      · rw [q1, ← next_eq r, next_none] at p1; cases p1
      · subst p2 q2 p1
        exact h.mono (Ext.refl _) (forI_pre pr _) fun _ _ e => e
/-- a tracked list becomes a cell -/
theorem RelS.adopt {K : KW} {c : Anc} {m : Store} {H : Hp} (r : RelS K c m H) (loc : Bool) {a : Addr} {xs : List V} {ds : List D} (hn : ¬ Has c a) (ha : H a = some (.lst xs)) (h : VDs K.cold H (forI c (c.next loc)) xs ds) : RelS K (c.push a loc) (m.push (.lst ds) loc) H := r.adoptC loc hn ⟨xs, ha, h⟩
theorem has_push {c : Anc} {a b : Addr} {loc : Bool} (h : Has (c.push a loc) b) : Has c b ∨ b = a := by
  obtain ⟨i, e⟩ := h
  rcases push_split e with q | ⟨_, q⟩
  · exact .inl ⟨i, q⟩
  · exact .inr q
/-- a new object that is no cell -/
theorem RelS.lay {K : KW} {c : Anc} {m : Store} {H : Hp} (r : RelS K c m H) {a : Addr} {o : HO} (hn : H a = none) : Gd K c c m H (upd H a o) := by
  have ex : Ext H (upd H a o) := Ext.new hn
  exact ⟨Pre.refl _, ex, fun _ h => .inl h, fun b u _ e => by rw [upd_ne (ne_of_none e hn)]; exact e, r.len, r.inj, fun i b x h1 h2 => (r.at_ i b x h1 h2).mono ex (Pre.refl _) fun u _ e => by rw [upd_ne (ne_of_none e hn)]; exact e⟩
/-- a cell is new -/
theorem RelS.new {K : KW} {c : Anc} {m : Store} {H : Hp} (r : RelS K c m H) (loc : Bool) {a : Addr} {xs : List V} {ds : List D} (hn : H a = none) (h : VDs K.cold H (forI c (c.next loc)) xs ds) : Gd K c (c.push a loc) (m.push (.lst ds) loc) H (upd H a (.lst xs)) := by
  have g : Gd K c c m H (upd H a (.lst xs)) := r.lay hn
  have r2 := g.rel.adopt loc (r.not hn) upd_same (VDs.mono g.ext (Pre.refl _) _ h)
  exact ⟨push_pre _ _ _, g.ext, fun b hb => (has_push hb).elim .inl fun e => .inr (by rw [e]; exact hn), g.frame, r2⟩
/-- a cell of any form is new -/
theorem RelS.newC {K : KW} {c : Anc} {m : Store} {H : Hp} (r : RelS K c m H) (loc : Bool) {a : Addr} {u : HO} {x0 : Cell} (hn : H a = none) (h : CellR K.cold (upd H a u) (forI c (c.next loc)) a x0) : Gd K c (c.push a loc) (m.push x0 loc) H (upd H a u) := by
  have g : Gd K c c m H (upd H a u) := r.lay hn
  exact ⟨push_pre _ _ _, g.ext, fun b hb => (has_push hb).elim .inl fun e => .inr (by rw [e]; exact hn), g.frame, g.rel.adoptC loc (r.not hn) h⟩
theorem RelS.other {K : KW} {c : Anc} {m : Store} {H : Hp} (r : RelS K c m H) {i j : Ix} {a b : Addr} {x y : Cell} {o : HO} (hi : c.at_ i = some a) (hx : m.at_ i = some x) (lx : x ≠ .gone) (hj : c.at_ j = some b) (hy : m.at_ j = some y) (h : j ≠ i) :
    ∀ u, liveO u = true → H b = some u → (upd H a o) b = some u := fun zs lz e => by
  have ne : b ≠ a := fun z => h (r.inj j i b hj (z ▸ hi))
  rw [upd_ne ne]
  exact e
/-- a cell is written, whatever it is -/
theorem RelS.putC {K : KW} {c : Anc} {m : Store} {H : Hp} (r : RelS K c m H) {i : Ix} {a : Addr} {u0 u1 : HO} {x0 x1 : Cell} (hi : c.at_ i = some a) (hm : m.at_ i = some x0) (lx : x0 ≠ .gone) (ha : H a = some u0) (l0 : liveO u0 = true) (h : CellR K.cold (upd H a u1) (forI c i) a x1) :
    Gd K c c (m.set x1 i) H (upd H a u1) := by
  have ex : Ext H (upd H a u1) := Ext.putO ha l0
  refine ⟨Pre.refl _, ex, fun _ h => .inl h, fun b u hb e => ?_, ?_, fun j k b h1 h2 => ?_, fun j b x h1 h2 => ?_⟩
  · rw [upd_ne (fun z => hb ⟨i, by rw [z]; exact hi⟩)]; exact e
  · rw [(set_len m x1 i).1, (set_len m x1 i).2]; exact r.len
  · exact r.inj j k b h1 h2
  · rcases set_split h2 with ⟨p1, p2⟩ | ⟨p1, p2⟩
    · subst p1 p2
      rw [hi] at h1
      cases h1
      exact h
    · exact (r.at_ j b x h1 p2).mono ex (Pre.refl _) (r.other hi hm lx h1 p2 p1)
/-- a list is written -/
theorem RelS.put {K : KW} {c : Anc} {m : Store} {H : Hp} (r : RelS K c m H) {i : Ix} {a : Addr} {ys xs : List V} {ds es : List D} (hi : c.at_ i = some a) (hm : m.at_ i = some (.lst es)) (ha : H a = some (.lst ys)) (h : VDs K.cold H (forI c i) xs ds) :
    Gd K c c (m.set (.lst ds) i) H (upd H a (.lst xs)) := r.putC hi hm (by intro z; cases z) ha rfl ⟨xs, upd_same, VDs.mono (Ext.put ha) (Pre.refl _) _ h⟩
/-- a cell is frozen -/
theorem RelS.freezeC {K : KW} {c : Anc} {m : Store} {H : Hp} (r : RelS K c m H) {i : Ix} {a : Addr} {u : HO} {x0 : Cell} {o : Obj} (hi : c.at_ i = some a) (hm : m.at_ i = some x0) (lx : x0 ≠ .gone) (ha : H a = some u) (lu : liveO u = true) :
    Gd K c c (m.set .gone i) H (upd H a (.frz o u)) := by
  have ex : Ext H (upd H a (.frz o u)) := Ext.putO ha lu
  refine ⟨Pre.refl _, ex, fun _ h => .inl h, fun b u hb e => ?_, ?_, fun j k b h1 h2 => ?_, fun j b x h1 h2 => ?_⟩
  · rw [upd_ne (fun z => hb ⟨i, by rw [z]; exact hi⟩)]; exact e
  · rw [(set_len m .gone i).1, (set_len m .gone i).2]; exact r.len
  · exact r.inj j k b h1 h2
  · rcases set_split h2 with ⟨p1, p2⟩ | ⟨p1, p2⟩
    · subst p1 p2
      rw [hi] at h1
      cases h1
      exact ⟨o, _, upd_same⟩
    · exact (r.at_ j b x h1 p2).mono ex (Pre.refl _) (r.other hi hm lx h1 p2 p1)
end L2.Dn
namespace L2.Dn
open PySem PySem.Spec PyProof.Rows L2
/-! ### access -/
def lstOf : D → Store → Option (List D)
  | .p (.list ds), _ => some (ds.map D.p)
  | .lst xs, _ => some xs
  | .cell i, m => match m.at_ i with
    | some (.lst xs) => some xs
    | _ => none
  | _, _ => none
def tupOf : D → Option (List D)
  | .p (.tuple ds) => some (ds.map D.p)
  | .tup xs => some xs
  | _ => none
section
variable {K : KW} {H : Hp} {c : Anc} {m : Store} {v : V} {d : D} {ds : List D}
theorem VD.int {i : Int} : VD K H c v (.p (.int i)) ↔ v = .int i := by
  unfold VD
  exact ⟨fun h => by cases h; rfl, fun h => by subst h; exact .int i⟩
theorem VD.str {x : Str} : VD K H c v (.p (.str x)) ↔ v = .str x := by
  unfold VD
  exact ⟨fun h => by cases h; rfl, fun h => by subst h; exact .str x⟩
theorem VD.bl {b : Bool} : VD K H c v (.p (.bool b)) ↔ v = .bl b := by
  unfold VD
  exact ⟨fun h => by cases h; rfl, fun h => by subst h; exact .bl b⟩
theorem VD.non : VD K H c v (.p .none) ↔ v = .non := by
  unfold VD
  exact ⟨fun h => by cases h; rfl, fun h => by subst h; exact .non⟩
theorem lstOf_ok (r : RelS K c m H) (h : VD K H c v d) (e : lstOf d m = some ds) : ∃ a vs, v = .ref a ∧ RdL K H a vs ∧ VDs K H c vs ds := by
  unfold lstOf at e
  split at e
  · cases e
    unfold VD at h
    cases h with
    | lst f q => exact ⟨_, _, rfl, f.rd, VDs.ofp q⟩
  · cases e
    unfold VD at h
    obtain ⟨a, vs, h1, h2, h3⟩ := h
    exact ⟨a, vs, h1, h2.rd, h3⟩
  · unfold VD at h
    obtain ⟨a, h1, h2⟩ := h
    split at e
    · rename_i h3
      cases e
      obtain ⟨xs, h4, h5⟩ := r.at_ _ _ _ h1 h3
      exact ⟨a, xs, h2, .inl h4, VDs.mono (Ext.refl _) (forI_le _ _) _ h5.warm⟩
    · cases e
  · cases e
theorem tupOf_ok (h : VD K H c v d) (e : tupOf d = some ds) : ∃ a vs, v = .ref a ∧ SqT K H a vs ∧ VDs K H c vs ds := by
  unfold tupOf at e
  split at e
  · cases e
    unfold VD at h
    cases h with
    | tup f q => exact ⟨_, _, rfl, f, VDs.ofp q⟩
  · cases e
    unfold VD at h
    obtain ⟨a, vs, h1, h2, h3⟩ := h
    exact ⟨a, vs, h1, h2, h3⟩
  · cases e
end
/-! ### making -/
def pures : List D → Option (List PyData)
  | [] => some []
  | .p d :: r => match pures r with
    | some ds => some (d :: ds)
    | none => none
  | _ :: _ => none
theorem pures_map : ∀ ds : List PyData, pures (ds.map D.p) = some ds
  | [] => rfl
  | d :: ds => by simp [pures, pures_map ds]
theorem of_pures : ∀ {xs : List D} {ds : List PyData}, pures xs = some ds → xs = ds.map D.p
  | [], ds, e => by simp [pures] at e; subst e; rfl
  | .p d :: r, ds, e => by
    unfold pures at e
    split at e
    · rename_i es h
      cases e
      rw [of_pures h]
      rfl
    · cases e
  | .cell _ :: _, _, e => by simp [pures] at e
  | .tup _ :: _, _, e => by simp [pures] at e
  | .lst _ :: _, _, e => by simp [pures] at e
  | .dct _ _ :: _, _, e => by simp [pures] at e
  | .obj _ _ _ :: _, _, e => by simp [pures] at e
  | .exn _ _ _ :: _, _, e => by simp [pures] at e
  | .fn _ :: _, _, e => by simp [pures] at e
  | .ty _ :: _, _, e => by simp [pures] at e
  | .opq :: _, _, e => by simp [pures] at e
def mkLst (xs : List D) : D := match pures xs with
  | some ds => .p (.list ds)
  | none => .lst xs
def mkTup (xs : List D) : D := match pures xs with
  | some ds => .p (.tuple ds)
  | none => .tup xs
theorem mkLst_p (ds : List PyData) : mkLst (ds.map D.p) = .p (.list ds) := by unfold mkLst; rw [pures_map]
theorem mkTup_p (ds : List PyData) : mkTup (ds.map D.p) = .p (.tuple ds) := by unfold mkTup; rw [pures_map]
theorem mkLst_ok {K : KW} {H : Hp} {c : Anc} {a : Addr} {vs : List V} {xs : List D} (h : VDs K H c vs xs) (f : FzL K H a vs) : VD K H c (.ref a) (mkLst xs) := by
  unfold mkLst
  split
  · rename_i ds e
    have := of_pures e
    subst this
    unfold VD
    exact .lst f (VDs.top h)
  · unfold VD
    exact ⟨a, vs, rfl, f, h⟩
theorem mkTup_ok {K : KW} {H : Hp} {c : Anc} {a : Addr} {vs : List V} {xs : List D} (h : VDs K H c vs xs) (f : SqT K H a vs) : VD K H c (.ref a) (mkTup xs) := by
  unfold mkTup
  split
  · rename_i ds e
    have := of_pures e
    subst this
    unfold VD
    exact .tup f (VDs.top h)
  · unfold VD
    exact ⟨a, vs, rfl, f, h⟩
/-- how a new list is kept: frozen at once, a cell of the def, a global cell -/
inductive Md where
  | z | l | g
def newL : Md → List D → Store → Res D
  | .z, xs, m => .ok (mkLst xs) m
  | .l, xs, m => if nxs xs then .ok (.cell (m.next true)) (m.push (.lst xs) true) else .stuck
  | .g, xs, m => if nls xs then .ok (.cell (m.next false)) (m.push (.lst xs) false) else .stuck
/-! ### the ghost step -/
section
variable {X : Cx} {pins : List (Addr × Obj)} {σ : St} {H : Hp} {s : Shared}
/-- Q, or Q behind the freezing of the value -/
def QF (Q : VK) : VK := fun v H => Q v H ∨ ∃ a u, v = .ref a ∧ H a = some u ∧ Mut (some u) ∧ ∀ o, Q v (upd H a (.frz o u))
theorem EP.frz {Q : VK} {u : Value} (h : EP X pins σ (QF Q) u s) : EP X pins σ Q u s := by
  obtain ⟨v, H', I, r, q | ⟨a, xs, e, h1, mu, q⟩⟩ := h
  · exact ⟨v, H', I, r, q⟩
  · obtain ⟨o, I'⟩ := Inv.lock I h1 mu
    exact ⟨v, _, I', r, q o⟩
end
/-! ### what is wanted -/
def ExcV (K : KW) (H : Hp) (c : Anc) (x : Exn) (cls : Value) (dd : Option Addr) : Prop :=
  ∃ C, K.mg x.cls = some (.ref C) ∧ cls = .ref C ∧ ((x.fs = [] ∧ dd = none) ∨ ∃ dx vs, dd = some dx ∧ H dx = some (.xd vs) ∧ vs.map (·.1) = x.fs.map (·.1) ∧ VDs K H c (vs.map (·.2)) (x.fs.map (·.2)))
/-- what is wanted behind r -/
def Want (X : Cx) (W : WX) (c : Anc) (H : Hp) (σ : St) (r : Res D) (Q : VK) : Prop := match r with
  | .ok d m' => ∀ c' v H', Gd X.kw c c' m' H H' → VD X.kw H' c' v d → Q v H'
  | .exc x m' => ∀ c' cls dd H', Gd X.kw c c' m' H H' → ExcV X.kw H' c' x cls dd → W cls dd σ H'
  | .stuck => False
def WantL (X : Cx) (W : WX) (c : Anc) (H : Hp) (σ : St) (r : Res (List D)) (Q : List V → Hp → Prop) : Prop := match r with
  | .ok ds m' => ∀ c' vs H', Gd X.kw c c' m' H H' → VDs X.kw H' c' vs ds → Q vs H'
  | .exc x m' => ∀ c' cls dd H', Gd X.kw c c' m' H H' → ExcV X.kw H' c' x cls dd → W cls dd σ H'
  | .stuck => False
def WantB (X : Cx) (W : WX) (c : Anc) (H : Hp) (σ : St) (r : Res Bool) (Q : Bool → Hp → Prop) : Prop := match r with
  | .ok b m' => ∀ c' H', Gd X.kw c c' m' H H' → Q b H'
  | .exc x m' => ∀ c' cls dd H', Gd X.kw c c' m' H H' → ExcV X.kw H' c' x cls dd → W cls dd σ H'
  | .stuck => False
section
variable {X : Cx} {W : WX} {c c' : Anc} {H H' : Hp} {σ : St} {m m' : Store}
theorem Want.shift {r : Res D} {Q : VK} (g : Gd X.kw c c' m' H H') (h : Want X W c H σ r Q) : Want X W c' H' σ r Q := by
  cases r with
  | ok d m1 => exact fun c1 v H1 g1 hv => h c1 v H1 (g.trans g1) hv
  | exc x m1 => exact fun c1 cls dd H1 g1 hv => h c1 cls dd H1 (g.trans g1) hv
  | stuck => exact h
theorem WantL.shift {r : Res (List D)} {Q : List V → Hp → Prop} (g : Gd X.kw c c' m' H H') (h : WantL X W c H σ r Q) : WantL X W c' H' σ r Q := by
  cases r with
  | ok d m1 => exact fun c1 v H1 g1 hv => h c1 v H1 (g.trans g1) hv
  | exc x m1 => exact fun c1 cls dd H1 g1 hv => h c1 cls dd H1 (g.trans g1) hv
  | stuck => exact h
theorem WantB.shift {r : Res Bool} {Q : Bool → Hp → Prop} (g : Gd X.kw c c' m' H H') (h : WantB X W c H σ r Q) : WantB X W c' H' σ r Q := by
  cases r with
  | ok d m1 => exact fun c1 H1 g1 => h c1 H1 (g.trans g1)
  | exc x m1 => exact fun c1 cls dd H1 g1 hv => h c1 cls dd H1 (g.trans g1) hv
  | stuck => exact h
/-- at once -/
theorem Want.now {Q : VK} {v : V} {d : D} (r : RelS X.kw c m H) (h : Want X W c H σ (.ok d m) Q) (hv : VD X.kw H c v d) : Q v H := h c v H (Gd.refl r) hv
theorem newL_ok {z : Md} {ds : List D} {xs : List V} {Q : VK} (r : RelS X.kw c m H) (hv : VDs X.kw H c xs ds) (h : Want X W c H σ (newL z ds m) Q) : ∀ p, H p = none → QF Q (.ref p) (upd H p (.lst xs)) := by
  intro p hp
  cases z with
  | z =>
    right
    refine ⟨p, _, rfl, upd_same, trivial, fun o => ?_⟩
    rw [upd_upd]
    have g : Gd X.kw c c m H (upd H p (.frz o (.lst xs))) := r.lay hp
    exact h c _ _ g (mkLst_ok (g.vds hv) (.inl ⟨o, upd_same⟩))
  | l =>
    left
    cases hn : nxs ds with
    | false => rw [newL, hn] at h; exact h.elim
    | true =>
      rw [newL, hn] at h
      have g := r.new true (ds := ds) hp (hv.cold hn)
      refine h _ _ _ g ?_
      unfold VD
      exact ⟨p, by rw [← next_eq r]; exact push_next _ _ _, rfl⟩
  | g =>
    left
    cases hn : nls ds with
    | false => rw [newL, hn] at h; exact h.elim
    | true =>
      rw [newL, hn] at h
      have g := r.new false (ds := ds) hp ((VDs.nl ds hv hn).cold (nxs_of_nls _ hn))
      refine h _ _ _ g ?_
      unfold VD
      exact ⟨p, by rw [← next_eq r]; exact push_next _ _ _, rfl⟩
theorem newT_ok {ds : List D} {xs : List V} {Q : VK} (r : RelS X.kw c m H) (hv : VDs X.kw H c xs ds) (h : Want X W c H σ (.ok (mkTup ds) m) Q) : ∀ p, H p = none → Q (.ref p) (upd H p (.tup xs)) := by
  intro p hp
  have g : Gd X.kw c c m H (upd H p (.tup xs)) := r.lay hp
  exact h c _ _ g (mkTup_ok (g.vds hv) (SqT.of upd_same))
end
/-! ### the judgements -/
structure WE (X : Cx) (e : Expr) (σ : St) (H : Hp) (Q : VK) : Prop where
  go : ∀ (pins : List (Addr × Obj)) (s : Shared), Inv X pins σ H s → wpAny (model X.prog X.w) X.A (eval e X.env) (EP X pins σ Q) X.xe s
structure WT (X : Cx) (e : Expr) (σ : St) (H : Hp) (Q : Bool → Hp → Prop) : Prop where
  go : ∀ (pins : List (Addr × Obj)) (s : Shared), Inv X pins σ H s → wpAny (model X.prog X.w) X.A (isTrue e X.env (eval e X.env)) (TP X pins σ Q) X.xe s
structure WW (X : Cx) (e : Expr) (σ : St) (H : Hp) (Q : Bool → Hp → Prop) : Prop where
  go : ∀ (whole : Sem Value) (pins : List (Addr × Obj)) (s : Shared), Inv X pins σ H s → wpAny (model X.prog X.w) X.A (isTrue e X.env whole) (TP X pins σ Q) X.xe s
structure WA (X : Cx) (es : List Expr) (σ : St) (H : Hp) (Q : List V → Hp → Prop) : Prop where
  go : ∀ (pos : Pos) (pins : List (Addr × Obj)) (s : Shared), Inv X pins σ H s → wpAny (model X.prog X.w) X.A (spliced (backTo pos (starEach es X.env))) (AP X pins σ Q) X.xe s
structure WSt (X : Cx) (st : Stmt) (D : Ends) (σ : St) (H : Hp) : Prop where
  go : ∀ (pins : List (Addr × Obj)) (s : Shared), Inv X pins σ H s → wpAny (model X.prog X.w) X.A (exec st X.env) (SP X pins D) X.xe s
structure WSs (X : Cx) (st : List Stmt) (D : Ends) (σ : St) (H : Hp) : Prop where
  go : ∀ (pins : List (Addr × Obj)) (s : Shared), Inv X pins σ H s → wpAny (model X.prog X.w) X.A (execs st X.env) (SP X pins D) X.xe s
section
variable {X : Cx} {e : Expr} {es : List Expr} {st : Stmt} {sts : List Stmt} {σ : St} {H : Hp}
theorem pe_w : PE X e (WE X e) := ⟨fun pins s σ H Q I h => h.go pins s I⟩
theorem pt_w : PT X e (WT X e) := ⟨fun pins s σ H Q I h => h.go pins s I⟩
theorem pw_w : PW X e (WW X e) := ⟨fun w pins s σ H Q I h => h.go w pins s I⟩
theorem pa_w : PA X es (WA X es) := ⟨fun pos pins s σ H Q I h => h.go pos pins s I⟩
theorem ps_w : PS X st (WSt X st) := ⟨fun pins s σ H D I h => h.go pins s I⟩
theorem pss_w : PSs X sts (WSs X sts) := ⟨fun pins s σ H D I h => h.go pins s I⟩
theorem we_of {t : TE} (h : PE X e t) {Q : VK} (q : t σ H Q) : WE X e σ H Q := ⟨fun pins s I => h.run pins s σ H Q I q⟩
theorem wt_of {t : TT} (h : PT X e t) {Q : Bool → Hp → Prop} (q : t σ H Q) : WT X e σ H Q := ⟨fun pins s I => h.run pins s σ H Q I q⟩
theorem ww_of {t : TT} (h : PW X e t) {Q : Bool → Hp → Prop} (q : t σ H Q) : WW X e σ H Q := ⟨fun w pins s I => h.run w pins s σ H Q I q⟩
theorem wa_of {t : TA} (h : PA X es t) {Q : List V → Hp → Prop} (q : t σ H Q) : WA X es σ H Q := ⟨fun pos pins s I => h.run pos pins s σ H Q I q⟩
theorem wst_of {t : TS} (h : PS X st t) {D : Ends} (q : t D σ H) : WSt X st D σ H := ⟨fun pins s I => h.run pins s σ H D I q⟩
theorem wss_of {t : TS} (h : PSs X sts t) {D : Ends} (q : t D σ H) : WSs X sts D σ H := ⟨fun pins s I => h.run pins s σ H D I q⟩
theorem WE.mono {Q Q' : VK} (h : WE X e σ H Q) (hq : ∀ v H', Q v H' → Q' v H') : WE X e σ H Q' := ⟨fun pins s I => thn (h.go pins s I) fun u s' ⟨v, H', I', r, q⟩ => ⟨v, H', I', r, hq v H' q⟩⟩
theorem WE.frz {Q : VK} (h : WE X e σ H (QF Q)) : WE X e σ H Q := ⟨fun pins s I => thn (h.go pins s I) fun u s' q => EP.frz q⟩
theorem WA.mono {Q Q' : List V → Hp → Prop} (h : WA X es σ H Q) (hq : ∀ v H', Q v H' → Q' v H') : WA X es σ H Q' := ⟨fun pos pins s I => thn (h.go pos pins s I) fun u s' ⟨v, H', I', r, q⟩ => ⟨v, H', I', r, hq v H' q⟩⟩
theorem WT.mono {Q Q' : Bool → Hp → Prop} (h : WT X e σ H Q) (hq : ∀ v H', Q v H' → Q' v H') : WT X e σ H Q' := ⟨fun pins s I => thn (h.go pins s I) fun u s' ⟨H', I', q⟩ => ⟨H', I', hq u H' q⟩⟩
end
def DE (X : Cx) (W : WX) (e : Expr) (f : FE) : Prop := ∀ (c : Anc) (ρ : Rho) (m : Store) (σ : St) (H : Hp) (Q : VK), RelS X.kw c m H → Slo X.kw H c ρ σ → Want X W c H σ (f ρ m) Q → WE X e σ H Q
def DT (X : Cx) (W : WX) (e : Expr) (f : Rho → Store → Res Bool) : Prop := ∀ (c : Anc) (ρ : Rho) (m : Store) (σ : St) (H : Hp) (Q : Bool → Hp → Prop), RelS X.kw c m H → Slo X.kw H c ρ σ → WantB X W c H σ (f ρ m) Q → WT X e σ H Q
def DW (X : Cx) (W : WX) (e : Expr) (f : Rho → Store → Res Bool) : Prop := ∀ (c : Anc) (ρ : Rho) (m : Store) (σ : St) (H : Hp) (Q : Bool → Hp → Prop), RelS X.kw c m H → Slo X.kw H c ρ σ → WantB X W c H σ (f ρ m) Q → WW X e σ H Q
def DA (X : Cx) (W : WX) (es : List Expr) (f : Rho → Store → Res (List D)) : Prop := ∀ (c : Anc) (ρ : Rho) (m : Store) (σ : St) (H : Hp) (Q : List V → Hp → Prop), RelS X.kw c m H → Slo X.kw H c ρ σ → WantL X W c H σ (f ρ m) Q → WA X es σ H Q
section
variable {X : Cx} {W : WX} {a b e : Expr} {es : List Expr} {fa fb f : FE} {pos : Pos} {c : Anc} {ρ : Rho} {m : Store} {σ : St} {H : Hp}
/-- first a, then on -/
theorem DE.then_ {β : Type} {k : D → Store → Res β} {WB : Anc → Hp → Res β → Prop} {Q : VK} (h : DE X W a fa) (r : RelS X.kw c m H) (s : Slo X.kw H c ρ σ) (hb : WB c H ((fa ρ m).bind k))
    (hs : ∀ c H, WB c H .stuck → False) (he : ∀ c H x m1, WB c H (.exc x m1) → ∀ c' cls dd H', Gd X.kw c c' m1 H H' → ExcV X.kw H' c' x cls dd → W cls dd σ H') (hsh : ∀ {c c' : Anc} {H H' : Hp} {m' : Store} {r : Res β}, Gd X.kw c c' m' H H' → WB c H r → WB c' H' r)
    (q : ∀ d m1 c1 v H1, RelS X.kw c1 m1 H1 → Slo X.kw H1 c1 ρ σ → Gd X.kw c c1 m1 H H1 → VD X.kw H1 c1 v d → WB c1 H1 (k d m1) → Q v H1) : WE X a σ H Q := by
  refine h c ρ m σ H Q r s ?_
  cases e : fa ρ m with
  | ok d m1 =>
    rw [e] at hb
    exact fun c1 v H1 g hv => q d m1 c1 v H1 g.rel (g.slots s) g hv (hsh g hb)
  | exc x m1 =>
    rw [e] at hb
    exact he c H x m1 hb
  | stuck =>
    rw [e] at hb
    exact hs c H hb
theorem DE.thenE {k : D → Store → Res D} {Q Q' : VK} (h : DE X W a fa) (r : RelS X.kw c m H) (s : Slo X.kw H c ρ σ) (hb : Want X W c H σ ((fa ρ m).bind k) Q')
    (q : ∀ d m1 c1 v H1, RelS X.kw c1 m1 H1 → Slo X.kw H1 c1 ρ σ → Gd X.kw c c1 m1 H H1 → VD X.kw H1 c1 v d → Want X W c1 H1 σ (k d m1) Q' → Q v H1) : WE X a σ H Q :=
  h.then_ (WB := fun c H r => Want X W c H σ r Q') r s hb (fun _ _ z => z) (fun _ _ _ _ z => z) (fun g z => z.shift g) q
theorem DE.thenL {k : D → Store → Res (List D)} {Q : VK} {Q' : List V → Hp → Prop} (h : DE X W a fa) (r : RelS X.kw c m H) (s : Slo X.kw H c ρ σ) (hb : WantL X W c H σ ((fa ρ m).bind k) Q')
    (q : ∀ d m1 c1 v H1, RelS X.kw c1 m1 H1 → Slo X.kw H1 c1 ρ σ → Gd X.kw c c1 m1 H H1 → VD X.kw H1 c1 v d → WantL X W c1 H1 σ (k d m1) Q' → Q v H1) : WE X a σ H Q :=
  h.then_ (WB := fun c H r => WantL X W c H σ r Q') r s hb (fun _ _ z => z) (fun _ _ _ _ z => z) (fun g z => z.shift g) q
theorem DE.thenB {k : D → Store → Res Bool} {Q : VK} {Q' : Bool → Hp → Prop} (h : DE X W a fa) (r : RelS X.kw c m H) (s : Slo X.kw H c ρ σ) (hb : WantB X W c H σ ((fa ρ m).bind k) Q')
    (q : ∀ d m1 c1 v H1, RelS X.kw c1 m1 H1 → Slo X.kw H1 c1 ρ σ → Gd X.kw c c1 m1 H H1 → VD X.kw H1 c1 v d → WantB X W c1 H1 σ (k d m1) Q' → Q v H1) : WE X a σ H Q :=
  h.then_ (WB := fun c H r => WantB X W c H σ r Q') r s hb (fun _ _ z => z) (fun _ _ _ _ z => z) (fun g z => z.shift g) q
theorem DA.thenE {fl : Rho → Store → Res (List D)} {k : List D → Store → Res D} {Q : List V → Hp → Prop} {Q' : VK} (h : DA X W es fl) (r : RelS X.kw c m H) (s : Slo X.kw H c ρ σ) (hb : Want X W c H σ ((fl ρ m).bind k) Q')
    (q : ∀ d m1 c1 v H1, RelS X.kw c1 m1 H1 → Slo X.kw H1 c1 ρ σ → Gd X.kw c c1 m1 H H1 → VDs X.kw H1 c1 v d → Want X W c1 H1 σ (k d m1) Q' → Q v H1) : WA X es σ H Q := by
  refine h c ρ m σ H Q r s ?_
  cases e : fl ρ m with
  | ok d m1 =>
    rw [e] at hb
    exact fun c1 v H1 g hv => q d m1 c1 v H1 g.rel (g.slots s) g hv (Want.shift g hb)
  | exc x m1 => rw [e] at hb; exact hb
  | stuck => rw [e] at hb; exact hb
theorem DA.thenL {fl : Rho → Store → Res (List D)} {k : List D → Store → Res (List D)} {Q : List V → Hp → Prop} {Q' : List V → Hp → Prop} (h : DA X W es fl) (r : RelS X.kw c m H) (s : Slo X.kw H c ρ σ) (hb : WantL X W c H σ ((fl ρ m).bind k) Q')
    (q : ∀ d m1 c1 v H1, RelS X.kw c1 m1 H1 → Slo X.kw H1 c1 ρ σ → Gd X.kw c c1 m1 H H1 → VDs X.kw H1 c1 v d → WantL X W c1 H1 σ (k d m1) Q' → Q v H1) : WA X es σ H Q := by
  refine h c ρ m σ H Q r s ?_
  cases e : fl ρ m with
  | ok d m1 =>
    rw [e] at hb
    exact fun c1 v H1 g hv => q d m1 c1 v H1 g.rel (g.slots s) g hv (WantL.shift g hb)
  | exc x m1 => rw [e] at hb; exact hb
  | stuck => rw [e] at hb; exact hb
theorem DT.thenE {ft : Rho → Store → Res Bool} {k : Bool → Store → Res D} {Q : Bool → Hp → Prop} {Q' : VK} (h : DT X W a ft) (r : RelS X.kw c m H) (s : Slo X.kw H c ρ σ) (hb : Want X W c H σ ((ft ρ m).bind k) Q')
    (q : ∀ d m1 c1 H1, RelS X.kw c1 m1 H1 → Slo X.kw H1 c1 ρ σ → Gd X.kw c c1 m1 H H1 → Want X W c1 H1 σ (k d m1) Q' → Q d H1) : WT X a σ H Q := by
  refine h c ρ m σ H Q r s ?_
  cases e : ft ρ m with
  | ok d m1 =>
    rw [e] at hb
    exact fun c1 H1 g => q d m1 c1 H1 g.rel (g.slots s) g (Want.shift g hb)
  | exc x m1 => rw [e] at hb; exact hb
  | stuck => rw [e] at hb; exact hb
theorem DT.thenB {ft : Rho → Store → Res Bool} {k : Bool → Store → Res Bool} {Q Q' : Bool → Hp → Prop} (h : DT X W a ft) (r : RelS X.kw c m H) (s : Slo X.kw H c ρ σ) (hb : WantB X W c H σ ((ft ρ m).bind k) Q')
    (q : ∀ d m1 c1 H1, RelS X.kw c1 m1 H1 → Slo X.kw H1 c1 ρ σ → Gd X.kw c c1 m1 H H1 → WantB X W c1 H1 σ (k d m1) Q' → Q d H1) : WT X a σ H Q := by
  refine h c ρ m σ H Q r s ?_
  cases e : ft ρ m with
  | ok d m1 =>
    rw [e] at hb
    exact fun c1 H1 g => q d m1 c1 H1 g.rel (g.slots s) g (WantB.shift g hb)
  | exc x m1 => rw [e] at hb; exact hb
  | stuck => rw [e] at hb; exact hb
/-! ### constants, names -/
def cE (d : PyData) : FE := fun _ m => .ok (.p d) m
theorem de_int {i : Int} {j : Nat} : DE X W (.Constant (.int i) j pos) (cE (.int i)) := fun c ρ m σ H Q r s h => we_of pe_int (h.now r (VD.int.mpr rfl))
theorem de_bl {i : Bool} {j : Nat} : DE X W (.Constant (.bool i) j pos) (cE (.bool i)) := fun c ρ m σ H Q r s h => we_of pe_bl (h.now r (VD.bl.mpr rfl))
theorem de_non {j : Nat} : DE X W (.Constant .none j pos) (cE .none) := fun c ρ m σ H Q r s h => we_of pe_non (h.now r (VD.non.mpr rfl))
theorem de_str {x : Str} {j : Nat} : DE X W (.Constant (.str x) j pos) (cE (.str x)) := fun c ρ m σ H Q r s h => we_of pe_str (h.now r (VD.str.mpr rfl))
def vE (i : Nat) : FE := fun ρ m => match ρ[i]? with
  | some (some d) => .ok d m
  | _ => .stuck
theorem de_var (i : Nat) {x : Str} (hN : X.N[i]? = some x := by rfl) (hv : Vis X.env.scope x := by first | exact Or.inl rfl | exact Or.inr (Or.inl rfl) | exact Or.inr (Or.inr rfl)) (hd : (x == ("__debug__" : Str)) = false := by decide)
    (hcd : (x == ("__classdict__" : Str)) = false := by decide) : DE X W (.Name x pos) (vE i) := fun c ρ m σ H Q r s h => by
  unfold vE at h
  cases e : ρ[i]? with
  | none => rw [e] at h; exact h.elim
  | some o =>
    cases o with
    | none => rw [e] at h; exact h.elim
    | some d =>
      rw [e] at h
      obtain ⟨v, h1, h2⟩ := s.at_ i d e
      exact we_of (pe_var hN hv hd hcd) ⟨v, h1, h.now r h2⟩
/-- a name of the module whose value is a datum that stands in the written part -/
theorem de_glob {x : Str} {v : V} {u : Value} {d : PyData} (hg : Gl X x) (hm : X.mg x = some u) (r : RelV v u) (hv : ∀ H, DpZ X.kw H v d) (hd : (x == ("__debug__" : Str)) = false := by decide) : DE X W (.Name x pos) (cE d) := fun c ρ m σ H Q rr s h =>
  we_of (pe_glob hg hm r hd) (h.now rr (by unfold VD; exact hv H))
def tyE (n : String) : FE := fun _ m => .ok (.ty n) m
theorem de_ty {x : Str} {n : String} (hg : Gl X x) (hm : X.mg x = none) (hv : bootBuiltins x = some (.type n)) (hn : x ≠ "__name__" := by decide) (hd : (x == ("__debug__" : Str)) = false := by decide) : DE X W (.Name x pos) (tyE n) := fun c ρ m σ H Q rr s h =>
  we_of (pe_bltn hg hm hv (v := .ty n) rfl hn hd) (h.now rr (by unfold VD; rfl))
/-! ### arguments, displays -/
def nilA : Rho → Store → Res (List D) := fun _ m => .ok [] m
def consA (f : FE) (g : Rho → Store → Res (List D)) : Rho → Store → Res (List D) := fun ρ m => (f ρ m).bind fun d m1 => (g ρ m1).bind fun ds m2 => .ok (d :: ds) m2
theorem da_nil : DA X W [] nilA := fun c ρ m σ H Q r s h => wa_of pa_nil (h c [] H (Gd.refl r) (by unfold VDs; rfl))
theorem da_cons {g : Rho → Store → Res (List D)} (ha : DE X W e f) (hr : DA X W es g) (hs : starEach (e :: es) X.env = (false, eval e X.env) :: starEach es X.env := by rfl) : DA X W (e :: es) (consA f g) := fun c ρ m σ H Q r s h =>
  wa_of (pa_cons pe_w pa_w hs) (ha.thenL r s h fun d m1 c1 v H1 r1 s1 g1 h1 w1 => hr.thenL r1 s1 w1 fun ds m2 c2 vs H2 r2 s2 g2 h2 w2 =>
    w2 c2 _ H2 (Gd.refl r2) (by unfold VDs; exact ⟨v, vs, rfl, g2.vd h1, h2⟩))
def tupE (g : Rho → Store → Res (List D)) : FE := fun ρ m => (g ρ m).bind fun ds m1 => if ds.length ≤ sizeLine then .ok (mkTup ds) m1 else .stuck
theorem de_tup {g : Rho → Store → Res (List D)} {x1 : Nat} (h : DA X W es g) : DE X W (.Tuple es x1 pos) (tupE g) := fun c ρ m σ H Q r s w =>
  we_of (pe_tup pa_w) (h.thenE r s w fun ds m1 c1 vs H1 r1 s1 g1 h1 w1 => by
    by_cases hl : ds.length ≤ sizeLine
    · rw [if_pos hl] at w1
      exact ⟨by rw [h1.length]; exact hl, newT_ok r1 h1 w1⟩
    · rw [if_neg hl] at w1
      exact w1.elim)
def lstE (z : Md) (g : Rho → Store → Res (List D)) : FE := fun ρ m => (g ρ m).bind fun ds m1 => if ds.length ≤ sizeLine then newL z ds m1 else .stuck
theorem de_lst (z : Md) {g : Rho → Store → Res (List D)} (h : DA X W es g) : DE X W (.List es pos) (lstE z g) := fun c ρ m σ H Q r s w =>
  WE.frz (we_of (pe_lst pa_w) (h.thenE r s w fun ds m1 c1 vs H1 r1 s1 g1 h1 w1 => by
    by_cases hl : ds.length ≤ sizeLine
    · rw [if_pos hl] at w1
      exact ⟨by rw [h1.length]; exact hl, newL_ok r1 h1 w1⟩
    · rw [if_neg hl] at w1
      exact w1.elim))
end
end L2.Dn
namespace L2.Dn
open PySem PySem.Spec PyProof.Rows L2
abbrev OD := Option (D × Store)
def lift : OD → Res D
  | some (d, m) => .ok d m
  | none => .stuck
/-- d, m is wanted behind c, H -/
def WantO (K : KW) (c : Anc) (H : Hp) (o : OD) (Q : VK) : Prop := match o with
  | some (d, m') => ∀ c' v H', Gd K c c' m' H H' → VD K H' c' v d → Q v H'
  | none => False
theorem Want.o {X : Cx} {W : WX} {c : Anc} {H : Hp} {σ : St} {o : OD} {Q : VK} (h : Want X W c H σ (lift o) Q) : WantO X.kw c H o Q := by
  cases o with
  | none => exact h
  | some p => exact h
theorem WantO.now {K : KW} {c : Anc} {H : Hp} {m : Store} {Q : VK} {v : V} {d : D} (r : RelS K c m H) (h : WantO K c H (some (d, m)) Q) (hv : VD K H c v d) : Q v H := h c v H (Gd.refl r) hv
def newO : Md → List D → Store → OD
  | .z, xs, m => some (mkLst xs, m)
  | .l, xs, m => if nxs xs then some (.cell (m.next true), m.push (.lst xs) true) else none
  | .g, xs, m => if nls xs then some (.cell (m.next false), m.push (.lst xs) false) else none
theorem newO_ok {K : KW} {c : Anc} {H : Hp} {m : Store} {z : Md} {ds : List D} {xs : List V} {Q : VK} (r : RelS K c m H) (hv : VDs K H c xs ds) (h : WantO K c H (newO z ds m) Q) : ∀ p, H p = none → QF Q (.ref p) (upd H p (.lst xs)) := by
  intro p hp
  cases z with
  | z =>
    right
    refine ⟨p, _, rfl, upd_same, trivial, fun o => ?_⟩
    rw [upd_upd]
    have g : Gd K c c m H (upd H p (.frz o (.lst xs))) := r.lay hp
    exact h c _ _ g (mkLst_ok (g.vds hv) (.inl ⟨o, upd_same⟩))
  | l =>
    left
    cases hn : nxs ds with
    | false => rw [newO, hn] at h; exact h.elim
    | true =>
      rw [newO, hn] at h
      have g := r.new true (ds := ds) hp (hv.cold hn)
      refine h _ _ _ g ?_
      unfold VD
      exact ⟨p, by rw [← next_eq r]; exact push_next _ _ _, rfl⟩
  | g =>
    left
    cases hn : nls ds with
    | false => rw [newO, hn] at h; exact h.elim
    | true =>
      rw [newO, hn] at h
      have g := r.new false (ds := ds) hp ((VDs.nl ds hv hn).cold (nxs_of_nls _ hn))
      refine h _ _ _ g ?_
      unfold VD
      exact ⟨p, by rw [← next_eq r]; exact push_next _ _ _, rfl⟩
theorem newTO_ok {K : KW} {c : Anc} {H : Hp} {m : Store} {ds : List D} {xs : List V} {Q : VK} (r : RelS K c m H) (hv : VDs K H c xs ds) (h : WantO K c H (some (mkTup ds, m)) Q) : ∀ p, H p = none → Q (.ref p) (upd H p (.tup xs)) := by
  intro p hp
  have g : Gd K c c m H (upd H p (.tup xs)) := r.lay hp
  exact h c _ _ g (mkTup_ok (g.vds hv) (SqT.of upd_same))
theorem QF.in_ {Q : VK} {v : V} {H : Hp} (h : Q v H) : QF Q v H := .inl h
/-! ### readings from functions over data -/
def rOf (K : KW) (g : D → D → Store → OD) : R2 := fun x y H Q => ∃ c m dx dy, RelS K c m H ∧ VD K H c x dx ∧ VD K H c y dy ∧ WantO K c H (g dx dy m) Q
def rOf1 (K : KW) (g : D → Store → OD) : V → Hp → VK → Prop := fun x H Q => ∃ c m dx, RelS K c m H ∧ VD K H c x dx ∧ WantO K c H (g dx m) Q
def rOfL (K : KW) (g : List D → Store → OD) : List V → Hp → VK → Prop := fun xs H Q => ∃ c m ds, RelS K c m H ∧ VDs K H c xs ds ∧ WantO K c H (g ds m) Q
def rOfM (K : KW) (g : D → List D → Store → OD) : V → List V → Hp → VK → Prop := fun x xs H Q => ∃ c m dx ds, RelS K c m H ∧ VD K H c x dx ∧ VDs K H c xs ds ∧ WantO K c H (g dx ds m) Q
def rOfS (K : KW) (g : D → Option Int → Option Int → Store → OD) : V → Option Int → Option Int → Hp → VK → Prop := fun x lo hi H Q => ∃ c m dx, RelS K c m H ∧ VD K H c x dx ∧ WantO K c H (g dx lo hi m) Q
section
variable {X : Cx} {W : WX} {a b e e3 : Expr} {es : List Expr} {fa fb fc f : FE} {pos : Pos} {c : Anc} {ρ : Rho} {m : Store} {σ : St} {H : Hp}
theorem OpR.by_ {fn : Value → Value → Sem Value} {r r' : R2} (ho : OpR X fn r) (h : ∀ x y H Q, r' x y H Q → r x y H (QF Q)) : OpR X fn r' :=
  fun pins s σ H x y v u Q I rx ry w => thn (ho pins s σ H x y v u (QF Q) I rx ry (h x y H Q w)) fun _ _ q => EP.frz q
theorem CallR.by_ {fv : Value} {r r' : List V → Hp → VK → Prop} (ho : CallR X fv r) (h : ∀ x H Q, r' x H Q → r x H (QF Q)) : CallR X fv r' :=
  fun pins s σ H x v Q I rx w => thn (ho pins s σ H x v (QF Q) I rx (h x H Q w)) fun _ _ q => EP.frz q
theorem UnR.by_ {fv : Value → Sem Value} {r r' : V → Hp → VK → Prop} (ho : UnR X fv r) (h : ∀ x H Q, r' x H Q → r x H (QF Q)) : UnR X fv r' :=
  fun pins s σ H x v Q I rx w => thn (ho pins s σ H x v (QF Q) I rx (h x H Q w)) fun _ _ q => EP.frz q
theorem MtR.by_ {id : String} {r r' : V → List V → Hp → VK → Prop} (ho : MtR X id r) (h : ∀ x xs H Q, r' x xs H Q → r x xs H (QF Q)) : MtR X id r' :=
  fun pins s σ H x xs v us Q I rx rs w => thn (ho pins s σ H x xs v us (QF Q) I rx rs (h x xs H Q w)) fun _ _ q => EP.frz q
theorem IxR.by_ {r r' : R2} (ho : IxR X r) (h : ∀ x y H Q, r' x y H Q → r x y H (QF Q)) : IxR X r' :=
  fun value slice pins s σ H x y v u Q I rx ry w hs => thn (ho value slice pins s σ H x y v u (QF Q) I rx ry (h x y H Q w) hs) fun _ _ q => EP.frz q
theorem SlR.by_ {r r' : V → Option Int → Option Int → Hp → VK → Prop} (ho : SlR X r) (h : ∀ x lo hi H Q, r' x lo hi H Q → r x lo hi H (QF Q)) : SlR X r' :=
  fun pins s σ H x v vl vu lo hi sl Q I rx hs pl pu w => by
    obtain ⟨T, id, h1, h2, h3⟩ := ho pins s σ H x v vl vu lo hi sl (QF Q) I rx hs pl pu (h x lo hi H Q w)
    exact ⟨T, id, h1, h2, thn h3 fun _ _ q => EP.frz q⟩
/-! ### two-place operations -/
def opE (g : D → D → Store → OD) (fa fb : FE) : FE := fun ρ m => (fa ρ m).bind fun x m1 => (fb ρ m1).bind fun y m2 => lift (g x y m2)
theorem two {g : D → D → Store → OD} (ha : DE X W a fa) (hb : DE X W b fb) {Q : VK} (r : RelS X.kw c m H) (s : Slo X.kw H c ρ σ) (w : Want X W c H σ (opE g fa fb ρ m) Q) : tOp (rOf X.kw g) (WE X a) (WE X b) σ H Q :=
  ha.thenE r s w fun x m1 c1 vx H1 r1 s1 g1 h1 w1 => hb.thenE r1 s1 w1 fun y m2 c2 vy H2 r2 s2 g2 h2 w2 => ⟨c2, m2, x, y, r2, g2.vd h1, h2, w2.o⟩
theorem de_op {op : Operator} {g : D → D → Store → OD} (ho : OpR X (binaryOp op) (rOf X.kw g)) (ha : DE X W a fa) (hb : DE X W b fb) : DE X W (.BinOp a op b pos) (opE g fa fb) := fun c ρ m σ H Q r s w =>
  we_of (pe_op ho pe_w pe_w) (two ha hb r s w)
theorem de_cmp {op : CmpOp} {g : D → D → Store → OD} (ho : OpR X (compareOp op) (rOf X.kw g)) (ha : DE X W a fa) (hb : DE X W b fb) (hm : behindInMarks op b = false := by first | exact nomark _ | rfl) : DE X W (.Compare a [op] [b] pos) (opE g fa fb) := fun c ρ m σ H Q r s w =>
  we_of (pe_cmpR ho pe_w pe_w hm) (two ha hb r s w)
theorem de_ix {g : D → D → Store → OD} (ho : IxR X (rOf X.kw g)) (ha : DE X W a fa) (hb : DE X W b fb) (hs : PlainIx b := by exact fun _ _ => rfl) : DE X W (.Subscript a b pos) (opE g fa fb) := fun c ρ m σ H Q r s w =>
  we_of (pe_ix ho pe_w pe_w hs) (two ha hb r s w)
def testR : Res D → Res Bool
  | .ok (.p (.bool b)) m => .ok b m
  | .ok _ _ => .stuck
  | .exc x m => .exc x m
  | .stuck => .stuck
def testE (f : FE) : Rho → Store → Res Bool := fun ρ m => testR (f ρ m)
/-- what is wanted of a test by a value -/
theorem WantB.val {r : Res D} {Q : Bool → Hp → Prop} (h : WantB X W c H σ (testR r) Q) : Want X W c H σ r (fun v H' => ∃ k, v = .bl k ∧ Q k H') := by
  unfold testR at h
  split at h
  · intro c' v H' g hv
    exact ⟨_, VD.bl.mp hv, h c' H' g⟩
  · exact h.elim
  · exact h
  · exact h.elim
theorem dt_cmp {op : CmpOp} {g : D → D → Store → OD} (ho : OpR X (compareOp op) (rOf X.kw g)) (ha : DE X W a fa) (hb : DE X W b fb) (hm : behindInMarks op b = false := by first | exact nomark _ | rfl) : DT X W (.Compare a [op] [b] pos) (testE (opE g fa fb)) := fun c ρ m σ H Q r s w =>
  wt_of (pt_cmpR ho pe_w pe_w hm) (two ha hb r s w.val)
def chE (g g' : D → D → Store → OD) (fa fb fc : FE) : FE := fun ρ m => (fa ρ m).bind fun x m1 => (fb ρ m1).bind fun y m2 => (lift (g x y m2)).bind fun t m3 => match t with
  | .p (.bool true) => (fc ρ m3).bind fun z m4 => lift (g' y z m4)
  | .p (.bool false) => .ok (.p (.bool false)) m3
  | _ => .stuck
theorem three {g g' : D → D → Store → OD} (ha : DE X W a fa) (hb : DE X W b fb) (hc : DE X W e3 fc) {Q : VK} (r : RelS X.kw c m H) (s : Slo X.kw H c ρ σ) (w : Want X W c H σ (chE g g' fa fb fc ρ m) Q) : tChain (rOf X.kw g) (rOf X.kw g') (WE X a) (WE X b) (WE X e3) σ H Q :=
  ha.thenE r s w fun x m1 c1 vx H1 r1 s1 g1 h1 w1 => hb.thenE r1 s1 w1 fun y m2 c2 vy H2 r2 s2 g2 h2 w2 => by
    cases e : g x y m2 with
    | none => rw [e] at w2; exact w2.elim
    | some p =>
      obtain ⟨t, m3⟩ := p
      rw [e] at w2
      refine ⟨c2, m2, x, y, r2, g2.vd h1, h2, ?_⟩
      rw [e]
      intro c3 v H3 g3 hv
      have w3 := Want.shift g3 w2
      simp only [lift, Res.bind] at w3
      split at w3
      · refine ⟨true, VD.bl.mp hv, ?_⟩
        rw [if_pos rfl]
        exact hc.thenE g3.rel (g3.slots s2) w3 fun z m4 c4 vz H4 r4 s4 g4 h4 w4 => ⟨c4, m4, y, z, r4, g4.vd (g3.vd h2), h4, w4.o⟩
      · refine ⟨false, VD.bl.mp hv, ?_⟩
        rw [if_neg Bool.false_ne_true]
        exact w3.now g3.rel (VD.bl.mpr rfl)
      · exact w3.elim
theorem de_chain {op op' : CmpOp} {g g' : D → D → Store → OD} (ho : OpR X (compareOp op) (rOf X.kw g)) (ho' : OpR X (compareOp op') (rOf X.kw g')) (ha : DE X W a fa) (hb : DE X W b fb) (hc : DE X W e3 fc)
    (hm : lastMarks [op, op'] [b, e3] = false := by with_unfolding_all rfl) : DE X W (.Compare a [op, op'] [b, e3] pos) (chE g g' fa fb fc) := fun c ρ m σ H Q r s w =>
  we_of (pe_chain ho ho' pe_w pe_w pe_w hm) (three ha hb hc r s w)
theorem dt_chain {op op' : CmpOp} {g g' : D → D → Store → OD} (ho : OpR X (compareOp op) (rOf X.kw g)) (ho' : OpR X (compareOp op') (rOf X.kw g')) (ha : DE X W a fa) (hb : DE X W b fb) (hc : DE X W e3 fc)
    (hm : lastMarks [op, op'] [b, e3] = false := by with_unfolding_all rfl) : DT X W (.Compare a [op, op'] [b, e3] pos) (testE (chE g g' fa fb fc)) := fun c ρ m σ H Q r s w =>
  wt_of (pt_chain ho ho' pe_w pe_w pe_w hm) (three ha hb hc r s w.val)
def unE (g : D → Store → OD) (fa : FE) : FE := fun ρ m => (fa ρ m).bind fun x m1 => lift (g x m1)
theorem de_un {op : UnaryOp} {g : D → Store → OD} (ho : UnR X (unaryOp op) (rOf1 X.kw g)) (ha : DE X W a fa) : DE X W (.UnaryOp op a pos) (unE g fa) := fun c ρ m σ H Q r s w =>
  we_of (pe_un ho pe_w) (ha.thenE r s w fun x m1 c1 vx H1 r1 s1 g1 h1 w1 => ⟨c1, m1, x, r1, h1, w1.o⟩)
/-! ### tests -/
def andT (f g : Rho → Store → Res Bool) : Rho → Store → Res Bool := fun ρ m => (f ρ m).bind fun b m1 => if b then g ρ m1 else .ok false m1
def orT (f g : Rho → Store → Res Bool) : Rho → Store → Res Bool := fun ρ m => (f ρ m).bind fun b m1 => if b then .ok true m1 else g ρ m1
def notT (f : Rho → Store → Res Bool) : Rho → Store → Res Bool := fun ρ m => (f ρ m).bind fun b m1 => .ok (!b) m1
variable {ft gt : Rho → Store → Res Bool} {rest : List Expr}
theorem DW.dt (h : DW X W e ft) : DT X W e ft := fun c ρ m σ H Q r s w => .mk fun pins st I => (h c ρ m σ H Q r s w).go _ pins st I
theorem dw_and1 (h : DT X W a ft) : DW X W (.BoolOp .And [a] pos) ft := fun c ρ m σ H Q r s w => ww_of (pw_and1 pt_w) (h c ρ m σ H Q r s w)
theorem dw_or1 (h : DT X W a ft) : DW X W (.BoolOp .Or [a] pos) ft := fun c ρ m σ H Q r s w => ww_of (pw_or1 pt_w) (h c ρ m σ H Q r s w)
theorem dw_and (h : DT X W a ft) (h2 : DW X W (.BoolOp .And (b :: rest) pos) gt) : DW X W (.BoolOp .And (a :: b :: rest) pos) (andT ft gt) := fun c ρ m σ H Q r s w =>
  ww_of (pw_and pt_w pw_w) (h.thenB r s w fun k m1 c1 H1 r1 s1 g1 w1 => by
    cases k with
    | true => rw [if_pos rfl]; exact h2 c1 ρ m1 σ H1 Q r1 s1 w1
    | false => rw [if_neg Bool.false_ne_true]; exact w1 c1 H1 (Gd.refl r1))
theorem dw_or (h : DT X W a ft) (h2 : DW X W (.BoolOp .Or (b :: rest) pos) gt) : DW X W (.BoolOp .Or (a :: b :: rest) pos) (orT ft gt) := fun c ρ m σ H Q r s w =>
  ww_of (pw_or pt_w pw_w) (h.thenB r s w fun k m1 c1 H1 r1 s1 g1 w1 => by
    cases k with
    | true => rw [if_pos rfl]; exact w1 c1 H1 (Gd.refl r1)
    | false => rw [if_neg Bool.false_ne_true]; exact h2 c1 ρ m1 σ H1 Q r1 s1 w1)
theorem dt_not (h : DT X W a ft) : DT X W (.UnaryOp .Not a pos) (notT ft) := fun c ρ m σ H Q r s w =>
  wt_of (pt_not pt_w) (h.thenB r s w fun k m1 c1 H1 r1 s1 g1 w1 => w1 c1 H1 (Gd.refl r1))
/-- truth of a datum -/
def truD : D → Store → Option Bool
  | .p .none, _ => some false
  | .p (.bool b), _ => some b
  | .p (.int i), _ => some (i != 0)
  | .p (.str x), _ => if x.length ≤ sizeLine then some ((x.length : Int) != 0) else none
  | .p (.tuple ds), _ => some (!ds.isEmpty)
  | .tup ds, _ => some (!ds.isEmpty)
  | d, m => match lstOf d m with
    | some xs => some (!xs.isEmpty)
    | none => none
theorem truD_ok {v : V} {d : D} {k : Bool} (r : RelS X.kw c m H) (hv : VD X.kw H c v d) (e : truD d m = some k) : TruV X.K v H k := by
  have emp : ∀ {vs : List V} {ds : List D}, VDs X.kw H c vs ds → (!ds.isEmpty) = !vs.isEmpty := fun {vs ds} h => by
    have := h.length
    cases vs <;> cases ds <;> simp at this <;> rfl
  unfold truD at e
  split at e
  · cases VD.non.mp hv; cases e; rfl
  · cases VD.bl.mp hv; cases e; rfl
  · cases VD.int.mp hv; cases e; rfl
  · cases VD.str.mp hv
    split at e
    · rename_i h; cases e; exact ⟨h, rfl⟩
    · cases e
  · rename_i ds
    obtain ⟨a, vs, h1, h2, h3⟩ := tupOf_ok (ds := ds.map D.p) hv rfl
    subst h1
    cases e
    refine .inr (.inl ⟨vs, h2, ?_⟩)
    rw [← emp h3]
    cases ds <;> rfl
  · rename_i ds
    obtain ⟨a, vs, h1, h2, h3⟩ := tupOf_ok (ds := ds) hv rfl
    subst h1
    cases e
    exact .inr (.inl ⟨vs, h2, emp h3⟩)
  · split at e
    · rename_i xs h
      obtain ⟨a, vs, h1, h2, h3⟩ := lstOf_ok r hv h
      subst h1
      cases e
      exact .inl ⟨vs, RdL.sq h2, emp h3⟩
    · cases e
def truE (f : FE) : Rho → Store → Res Bool := fun ρ m => (f ρ m).bind fun d m1 => match truD d m1 with
  | some k => .ok k m1
  | none => .stuck
theorem dt_val (h : DE X W e f) (he : ∀ whole, isTrue e X.env whole = (do let v ← whole; standAt e.pos; holding [v] (truthy v)) := by intro _; rfl) : DT X W e (truE f) := fun c ρ m σ H Q r s w =>
  wt_of (pt_truth pe_w he) (h.thenB r s w fun d m1 c1 v H1 r1 s1 g1 h1 w1 => by
    cases q : truD d m1 with
    | none => rw [q] at w1; exact w1.elim
    | some k => rw [q] at w1; exact ⟨k, truD_ok r1 h1 q, w1 c1 H1 (Gd.refl r1)⟩)
/-! ### and, or, not, if as values -/
def oneE (f : FE) : FE := f
def andE (f g : FE) : FE := fun ρ m => (f ρ m).bind fun x m1 => match x with
  | .p (.bool true) => g ρ m1
  | .p (.bool false) => .ok (.p (.bool false)) m1
  | _ => .stuck
def orE (f g : FE) : FE := fun ρ m => (f ρ m).bind fun x m1 => match x with
  | .p (.bool true) => .ok (.p (.bool true)) m1
  | .p (.bool false) => g ρ m1
  | _ => .stuck
def notE (f : FE) : FE := fun ρ m => (f ρ m).bind fun x m1 => match x with
  | .p (.bool b) => .ok (.p (.bool (!b))) m1
  | _ => .stuck
theorem de_one {op : BoolOp} (h : DE X W a fa) : DE X W (.BoolOp op [a] pos) fa := fun c ρ m σ H Q r s w => we_of (pe_one pe_w) (h c ρ m σ H Q r s w)
theorem de_and (h : DE X W a fa) (h2 : DE X W (.BoolOp .And (b :: rest) pos) fb) : DE X W (.BoolOp .And (a :: b :: rest) pos) (andE fa fb) := fun c ρ m σ H Q r s w =>
  we_of (pe_and pe_w pe_w) (h.thenE r s w fun x m1 c1 v H1 r1 s1 g1 h1 w1 => by
    split at w1
    · exact ⟨true, VD.bl.mp h1, by rw [if_pos rfl]; exact h2 c1 ρ m1 σ H1 Q r1 s1 w1⟩
    · exact ⟨false, VD.bl.mp h1, by rw [if_neg Bool.false_ne_true]; exact w1.now r1 (VD.bl.mpr rfl)⟩
    · exact w1.elim)
theorem de_or (h : DE X W a fa) (h2 : DE X W (.BoolOp .Or (b :: rest) pos) fb) : DE X W (.BoolOp .Or (a :: b :: rest) pos) (orE fa fb) := fun c ρ m σ H Q r s w =>
  we_of (pe_or pe_w pe_w) (h.thenE r s w fun x m1 c1 v H1 r1 s1 g1 h1 w1 => by
    split at w1
    · exact ⟨true, VD.bl.mp h1, by rw [if_pos rfl]; exact w1.now r1 (VD.bl.mpr rfl)⟩
    · exact ⟨false, VD.bl.mp h1, by rw [if_neg Bool.false_ne_true]; exact h2 c1 ρ m1 σ H1 Q r1 s1 w1⟩
    · exact w1.elim)
theorem de_not (h : DE X W a fa) : DE X W (.UnaryOp .Not a pos) (notE fa) := fun c ρ m σ H Q r s w =>
  we_of (pe_not pe_w) (h.thenE r s w fun x m1 c1 v H1 r1 s1 g1 h1 w1 => by
    split at w1
    · exact ⟨_, VD.bl.mp h1, w1.now r1 (VD.bl.mpr rfl)⟩
    · exact w1.elim)
def ifE (t : Rho → Store → Res Bool) (fa fb : FE) : FE := fun ρ m => (t ρ m).bind fun k m1 => if k then fa ρ m1 else fb ρ m1
theorem de_if (h : DT X W e ft) (ha : DE X W a fa) (hb : DE X W b fb) : DE X W (.IfExp e a b pos) (ifE ft fa fb) := fun c ρ m σ H Q r s w =>
  we_of (pe_ifExp pt_w pe_w pe_w) (h.thenE r s w fun k m1 c1 H1 r1 s1 g1 w1 => by
    cases k with
    | true => rw [if_pos rfl]; exact ha c1 ρ m1 σ H1 Q r1 s1 w1
    | false => rw [if_neg Bool.false_ne_true]; exact hb c1 ρ m1 σ H1 Q r1 s1 w1)
/-! ### built-in functions, types, methods -/
def calE (g : List D → Store → OD) (fl : Rho → Store → Res (List D)) : FE := fun ρ m => (fl ρ m).bind fun ds m1 => lift (g ds m1)
variable {fl : Rho → Store → Res (List D)} {x : Str} {p : Pos}
theorem de_callB {id : String} {g : List D → Store → OD} (hc : CallR X (.builtin id) (rOfL X.kw g)) (hg : Gl X x) (hm : X.mg x = none) (hv : bootBuiltins x = some (.builtin id)) (ha : DA X W (e :: es) fl) (hn : x ≠ "__name__" := by decide) (hdb : (x == ("__debug__" : Str)) = false := by decide)
    (he : starEach (e :: es) X.env = (false, eval e X.env) :: starEach es X.env := by rfl) (hpl : (backTo pos (starEach es X.env)).any (·.1) = false := by rfl) : DE X W (.Call (.Name x p) (e :: es) [] pos) (calE g fl) := fun c ρ m σ H Q r s w =>
  we_of (pe_callB hc hg hm hv pa_w hn hdb he hpl) (ha.thenE r s w fun ds m1 c1 vs H1 r1 s1 g1 h1 w1 => ⟨c1, m1, ds, r1, h1, w1.o⟩)
theorem de_callTy {T : String} {g : List D → Store → OD} (hc : CallR X (.type T) (rOfL X.kw g)) (hg : Gl X x) (hm : X.mg x = none) (hv : bootBuiltins x = some (.type T)) (ha : DA X W (e :: es) fl) (hn : x ≠ "__name__" := by decide) (hdb : (x == ("__debug__" : Str)) = false := by decide)
    (he : starEach (e :: es) X.env = (false, eval e X.env) :: starEach es X.env := by rfl) (hpl : (backTo pos (starEach es X.env)).any (·.1) = false := by rfl) : DE X W (.Call (.Name x p) (e :: es) [] pos) (calE g fl) := fun c ρ m σ H Q r s w =>
  we_of (pe_callTy hc hg hm hv pa_w hn hdb he hpl) (ha.thenE r s w fun ds m1 c1 vs H1 r1 s1 g1 h1 w1 => ⟨c1, m1, ds, r1, h1, w1.o⟩)
/-- the type that a method is looked up in -/
def isTy (T : String) : D → Store → Bool
  | .p (.str _), _ => T == "str"
  | .p (.int _), _ => T == "int"
  | d, m => T == "list" && (lstOf d m).isSome
theorem isTy_ok {T : String} {d : D} {v : V} (r : RelS X.kw c m H) (hv : VD X.kw H c v d) (e : isTy T d m = true) : tyV X.K T v H := by
  unfold isTy at e
  split at e
  · cases VD.str.mp hv; exact beq_iff_eq.mp e
  · cases VD.int.mp hv; exact beq_iff_eq.mp e
  · rw [Bool.and_eq_true] at e
    obtain ⟨xs, q⟩ := Option.isSome_iff_exists.mp e.2
    obtain ⟨a, vs, h1, h2, h3⟩ := lstOf_ok r hv q
    subst h1
    exact .inl ⟨beq_iff_eq.mp e.1, vs, RdL.sq h2⟩
def metE (T : String) (g : D → List D → Store → OD) (fo : FE) (fl : Rho → Store → Res (List D)) : FE := fun ρ m => (fo ρ m).bind fun d m1 => if isTy T d m1 then (fl ρ m1).bind fun ds m2 => lift (g d ds m2) else .stuck
variable {o : Expr} {fo : FE} {name : Str} {apos cpos : Pos}
theorem de_bm {T id : String} {g : D → List D → Store → OD} (pa : PlainAttrs T) (slot : Slot T name id) (hty : typeOf (.builtin id) = pure (.type "method_descriptor")) (hm : MtR X id (rOfM X.kw g)) (ho : DE X W o fo) (ha : DA X W (e :: es) fl)
    (hbase : attributeBase o name X.env (eval o X.env) = eval o X.env := by rfl)
    (hfew : ((backTo cpos (starEach (e :: es) X.env)).all (fun x => !x.1) && (backToKw cpos (keywordEach [] X.env)).all (fun x => x.1.isSome)
      && decide ((e :: es).length + ([] : List Keyword).length + (if ([] : List Keyword).isEmpty then 0 else 1) < 30)) = true := by rfl)
    (hline : (apos.endLine == cpos.line) = true := by rfl) (hs : starEach (e :: es) X.env = (false, eval e X.env) :: starEach es X.env := by rfl) (hplain : (backTo cpos (starEach es X.env)).any (·.1) = false := by rfl) :
    DE X W (.Call (.Attribute o name apos) (e :: es) [] cpos) (metE T g fo fl) := fun c ρ m σ H Q r s w =>
  we_of (pe_bm pa slot hty hm pe_w pa_w hbase hfew hline hs hplain) (ho.thenE r s w fun d m1 c1 v H1 r1 s1 g1 h1 w1 => by
    cases q : isTy T d m1 with
    | false => rw [q] at w1; exact w1.elim
    | true =>
      rw [q] at w1
      exact ⟨isTy_ok r1 h1 q, ha.thenE r1 s1 w1 fun ds m2 c2 vs H2 r2 s2 g2 h2 w2 => ⟨c2, m2, d, ds, r2, g2.vd h1, h2, w2.o⟩⟩)
theorem de_bm0 {T id : String} {g : D → List D → Store → OD} (pa : PlainAttrs T) (slot : Slot T name id) (hty : typeOf (.builtin id) = pure (.type "method_descriptor")) (hm : MtR X id (rOfM X.kw g)) (ho : DE X W o fo)
    (hbase : attributeBase o name X.env (eval o X.env) = eval o X.env := by rfl) (hline : (apos.endLine == cpos.line) = true := by rfl) : DE X W (.Call (.Attribute o name apos) [] [] cpos) (metE T g fo nilA) := fun c ρ m σ H Q r s w =>
  we_of (pe_bm0 pa slot hty hm pe_w hbase hline) (ho.thenE r s w fun d m1 c1 v H1 r1 s1 g1 h1 w1 => by
    cases q : isTy T d m1 with
    | false => rw [q] at w1; exact w1.elim
    | true =>
      rw [q] at w1
      exact ⟨isTy_ok r1 h1 q, c1, m1, d, [], r1, h1, (by unfold VDs; rfl), Want.o w1⟩)
/-! ### slices -/
def FO := Rho → Store → Res (Option Int)
def noO : FO := fun _ m => .ok none m
def someO (f : FE) : FO := fun ρ m => (f ρ m).bind fun d m1 => match d with
  | .p (.int i) => .ok (some i) m1
  | _ => .stuck
def slE (g : D → Option Int → Option Int → Store → OD) (fa : FE) (fl fh : FO) : FE := fun ρ m => (fa ρ m).bind fun d m1 => (fl ρ m1).bind fun lo m2 => (fh ρ m2).bind fun hi m3 => lift (g d lo hi m3)
/-- a slice's part -/
def DO (X : Cx) (W : WX) (e : Option Expr) (f : FO) : Prop := ∀ {c : Anc} {ρ : Rho} {m : Store} {σ : St} {H : Hp} {Q : VK} {k : Option Int → Store → Res D} {R : Option Int → Hp → Prop}, RelS X.kw c m H → Slo X.kw H c ρ σ → Want X W c H σ ((f ρ m).bind k) Q →
  (∀ i m1 c1 H1, RelS X.kw c1 m1 H1 → Slo X.kw H1 c1 ρ σ → Gd X.kw c c1 m1 H H1 → Want X W c1 H1 σ (k i m1) Q → R i H1) → ∃ t, PO X e t ∧ t σ H R
theorem do_none : DO X W none noO := fun {c ρ m σ H Q k R} r s w q => ⟨_, po_none, q none m c H r s (Gd.refl r) w⟩
theorem do_some (h : DE X W e f) : DO X W (some e) (someO f) := fun {c ρ m σ H Q k R} r s w q => by
  refine ⟨_, po_some pe_w, ?_⟩
  have w' : Want X W c H σ ((f ρ m).bind fun d m1 => match d with | .p (.int i) => k (some i) m1 | _ => .stuck) Q := by
    have e1 : ((someO f ρ m).bind k) = ((f ρ m).bind fun d m1 => match d with | .p (.int i) => k (some i) m1 | _ => .stuck) := by
      unfold someO
      cases f ρ m with
      | ok d m1 =>
        show Res.bind (match d with | .p (.int i) => Res.ok (some i) m1 | _ => .stuck) k = (match d with | .p (.int i) => k (some i) m1 | _ => .stuck)
        split <;> rfl
      | exc x m1 => rfl
      | stuck => rfl
    rw [← e1]
    exact w
  exact h.thenE r s w' fun d m1 c1 v H1 r1 s1 g1 h1 w1 => by
    split at w1
    · exact ⟨_, VD.int.mp h1, q _ m1 c1 H1 r1 s1 g1 w1⟩
    · exact w1.elim
variable {lo hi : Option Expr} {flo fhi : FO} {p2 : Pos}
theorem de_slice {g : D → Option Int → Option Int → Store → OD} (hr : SlR X (rOfS X.kw g)) (ha : DE X W a fa) (hl : DO X W lo flo) (hh : DO X W hi fhi) : DE X W (.Subscript a (.Slice lo hi none p2) pos) (slE g fa flo fhi) := fun c ρ m σ H Q r s w => by
  -- the parts' readings hang on the state: go by the run
  have PL : PO X lo (fun σ H R => ∀ (pins : List (Addr × Obj)) (s : Shared), Inv X pins σ H s → wpAny (model X.prog X.w) X.A (evalPart lo X.env) (fun u s' => ∃ o H', Inv X pins σ H' s' ∧ IsPart u o ∧ R o H') X.xe s) := ⟨fun pins s σ H Q I h => h pins s I⟩
  have PH : PO X hi (fun σ H R => ∀ (pins : List (Addr × Obj)) (s : Shared), Inv X pins σ H s → wpAny (model X.prog X.w) X.A (evalPart hi X.env) (fun u s' => ∃ o H', Inv X pins σ H' s' ∧ IsPart u o ∧ R o H') X.xe s) := ⟨fun pins s σ H Q I h => h pins s I⟩
  refine we_of (pe_slice hr pe_w PL PH) (ha.thenE r s w fun d m1 c1 v H1 r1 s1 g1 h1 w1 => ?_)
  intro pins st I
  obtain ⟨t, P, q⟩ := hl (R := fun l H2 => ∀ (pins : List (Addr × Obj)) (s : Shared), Inv X pins σ H2 s → wpAny (model X.prog X.w) X.A (evalPart hi X.env) (fun u s' => ∃ o H', Inv X pins σ H' s' ∧ IsPart u o ∧ rOfS X.kw g v l o H' Q) X.xe s) r1 s1 w1 (fun i m2 c2 H2 r2 s2 g2 w2 => by
    intro pins2 st2 I2
    obtain ⟨t, P, q⟩ := hh (R := fun u H3 => rOfS X.kw g v i u H3 Q) r2 s2 w2 (fun j m3 c3 H3 r3 s3 g3 w3 => ⟨c3, m3, d, r3, g3.vd (g2.vd h1), w3.o⟩)
    exact P.run pins2 st2 σ H2 _ I2 q)
  exact P.run pins st σ H1 _ I q
end
end L2.Dn
namespace L2.Dn
open PySem PySem.Spec PyProof.Rows L2
/-! ### ghost steps upon a value -/
def mkDct (kvs : List (PyData × D)) : D := match pures (kvs.map (·.2)) with
  | some vs => .p (.dict ((kvs.map (·.1)).zip vs))
  | none => .dct (kvs.map (·.1)) (kvs.map (·.2))
theorem pures_len : ∀ {xs : List D} {ds : List PyData}, pures xs = some ds → ds.length = xs.length := fun {xs ds} e => by rw [of_pures e, List.length_map]
theorem mkDct_ok {K : KW} {H : Hp} {c : Anc} {a : Addr} {o : Obj} {es : List (NestedKey × V × V)} {kvs : List (PyData × D)} (h : DctR K H c es kvs) (f : H a = some (.frz o (gdO K.w a es))) : VD K H c (.ref a) (mkDct kvs) := by
  unfold mkDct
  split
  · rename_i vs e
    have e1 := of_pures e
    have hv := h.vd
    rw [e1] at hv
    have hl : vs.length = kvs.length := by rw [pures_len e, List.length_map]
    have z1 : ((kvs.map (·.1)).zip vs).map (·.1) = kvs.map (·.1) := List.map_fst_zip (by rw [List.length_map]; omega)
    have z2 : ((kvs.map (·.1)).zip vs).map (·.2) = vs := List.map_snd_zip (by rw [List.length_map]; omega)
    unfold VD
    refine .dG f ?_ h.dp h.nd ?_ ?_
    · have := congrArg (List.map nk) z1
      simp only [List.map_map] at this
      rw [h.key]
      exact this.symm
    · rw [z1]; exact h.kd
    · rw [z2]; exact VDs.top hv
  · unfold VD
    exact ⟨a, o, es, rfl, f, ⟨by rw [h.key, List.map_map]; rfl, h.dp, h.nd, h.kd⟩, h.vd⟩
def frzC (x : Cell) : Option D := match x with
  | .lst xs => some (mkLst xs)
  | .dct kvs => some (mkDct kvs)
  | .ins C fs => some (.obj C (fs.map (·.1)) (fs.map (·.2)))
  | .gone => none
def frzR : Res D → Res D
  | .ok (.cell i) m => match m.at_ i with
    | some x => match frzC x with
      | some d => .ok d (m.set .gone i)
      | none => .stuck
    | none => .stuck
  | r => r
def frzE (f : FE) : FE := fun ρ m => frzR (f ρ m)
theorem DctR.warm {K : KW} {H : Hp} {c : Anc} {es : List (NestedKey × V × V)} {kvs : List (PyData × D)} (h : DctR K.cold H c es kvs) : DctR K H c es kvs := ⟨h.key, h.dp, h.nd, DpZs.kw (K := K.cold) (K' := K) rfl rfl h.kd, h.vd.warm⟩
/-- a live cell's object, and what it is once it is frozen -/
theorem frzC_ok {K : KW} {H : Hp} {c : Anc} {m : Store} {i : Ix} {a : Addr} {x : Cell} {d : D} (r : RelS K c m H) (h1 : c.at_ i = some a) (h2 : m.at_ i = some x) (e : frzC x = some d) :
    ∃ u, H a = some u ∧ Mut (some u) ∧ ∀ o, Gd K c c (m.set .gone i) H (upd H a (.frz o u)) ∧ VD K (upd H a (.frz o u)) c (.ref a) d := by
  have q := r.at_ i a x h1 h2
  cases x with
  | lst xs =>
    cases e
    obtain ⟨vs, h3, h4⟩ := q
    refine ⟨_, h3, trivial, fun o => ?_⟩
    have g := r.freezeC (o := o) h1 h2 (by intro z; cases z) h3 rfl
    exact ⟨g, mkLst_ok (VDs.mono g.ext (forI_le _ _) _ h4.warm) (.inl ⟨o, upd_same⟩)⟩
  | dct kvs =>
    cases e
    obtain ⟨es, h3, h4⟩ := q
    refine ⟨_, h3, trivial, fun o => ?_⟩
    have g := r.freezeC (o := o) h1 h2 (by intro z; cases z) h3 rfl
    exact ⟨g, mkDct_ok (h4.warm.mono g.ext (forI_le _ _)) upd_same⟩
  | ins C fs =>
    cases e
    obtain ⟨Ca, dx, vs, h3, h4, h5, h6⟩ := q
    refine ⟨_, h3, trivial, fun o => ?_⟩
    have g := r.freezeC (o := o) h1 h2 (by intro z; cases z) h3 rfl
    refine ⟨g, ?_⟩
    unfold VD
    exact ⟨a, o, Ca, dx, vs, rfl, h4, upd_same, h5, VDs.mono g.ext (forI_le _ _) _ h6.warm⟩
  | gone => cases e
section
variable {X : Cx} {W : WX} {a b e : Expr} {es : List Expr} {fa fb f : FE} {pos : Pos} {c : Anc} {ρ : Rho} {m : Store} {σ : St} {H : Hp}
theorem de_frz (h : DE X W e f) : DE X W e (frzE f) := fun c ρ m σ H Q r s w => by
  refine WE.frz (h c ρ m σ H (QF Q) r s ?_)
  unfold frzE at w
  cases q : f ρ m with
  | stuck => rw [q] at w; exact w
  | exc x m1 => rw [q] at w; exact w
  | ok d m1 =>
    rw [q] at w
    intro c1 v H1 g hv
    cases d with
    | cell i =>
      unfold VD at hv
      obtain ⟨b, h1, rfl⟩ := hv
      cases q2 : m1.at_ i with
      | none => simp only [frzR, q2] at w; exact w.elim
      | some x =>
        cases q3 : frzC x with
        | none => simp only [frzR, q2, q3] at w; exact w.elim
        | some d =>
          simp only [frzR, q2, q3] at w
          obtain ⟨u, h3, mu, k⟩ := frzC_ok g.rel h1 q2 q3
          exact .inr ⟨b, u, rfl, h3, mu, fun o => w _ _ _ (g.trans (k o).1) (k o).2⟩
    | p d => exact .inl (w c1 v H1 g hv)
    | tup d => exact .inl (w c1 v H1 g hv)
    | lst d => exact .inl (w c1 v H1 g hv)
    | dct d d' => exact .inl (w c1 v H1 g hv)
    | obj d d' d'' => exact .inl (w c1 v H1 g hv)
    | exn d d' d'' => exact .inl (w c1 v H1 g hv)
    | fn d => exact .inl (w c1 v H1 g hv)
    | ty d => exact .inl (w c1 v H1 g hv)
    | opq => exact .inl (w c1 v H1 g hv)
end
/-! ### statements -/
inductive SRes where
  | nx (ρ : Rho) (m : Store)
  | rt (d : Dn.D) (m : Store)
  | bk (ρ : Rho) (m : Store)
  | ct (ρ : Rho) (m : Store)
  | exc (x : Exn) (ρ : Rho) (m : Store)
  | stuck
abbrev FS := Rho → Store → SRes
def Res.bindS {α : Type} (r : Res α) (ρ : Rho) (k : α → Store → SRes) : SRes := match r with
  | .ok a m => k a m
  | .exc x m => .exc x ρ m
  | .stuck => .stuck
def WantS (X : Cx) (W : WX) (c : Anc) (H : Hp) (r : SRes) (En : Ends) : Prop := match r with
  | .nx ρ' m' => ∀ c' σ' H', Gd X.kw c c' m' H H' → Slo X.kw H' c' ρ' σ' → En.nx σ' H'
  | .rt d m' => ∀ c' v H', Gd X.kw c c' m' H H' → VD X.kw H' c' v d → En.rt v H'
  | .bk ρ' m' => ∀ c' σ' H', Gd X.kw c c' m' H H' → Slo X.kw H' c' ρ' σ' → En.bk σ' H'
  | .ct ρ' m' => ∀ c' σ' H', Gd X.kw c c' m' H H' → Slo X.kw H' c' ρ' σ' → En.ct σ' H'
  | .exc x ρ' m' => ∀ c' σ' cls dd H', Gd X.kw c c' m' H H' → Slo X.kw H' c' ρ' σ' → ExcV X.kw H' c' x cls dd → W cls dd σ' H'
  | .stuck => False
def DS (X : Cx) (W : WX) (st : Stmt) (g : FS) : Prop := ∀ (c : Anc) (ρ : Rho) (m : Store) (σ : St) (H : Hp) (En : Ends), RelS X.kw c m H → Slo X.kw H c ρ σ → WantS X W c H (g ρ m) En → WSt X st En σ H
def DSs (X : Cx) (W : WX) (st : List Stmt) (g : FS) : Prop := ∀ (c : Anc) (ρ : Rho) (m : Store) (σ : St) (H : Hp) (En : Ends), RelS X.kw c m H → Slo X.kw H c ρ σ → WantS X W c H (g ρ m) En → WSs X st En σ H
section
variable {X : Cx} {W : WX} {a b e : Expr} {es : List Expr} {fa fb f : FE} {pos : Pos} {c c' : Anc} {ρ : Rho} {m m' : Store} {σ : St} {H H' : Hp} {En : Ends} {st : Stmt} {sts els : List Stmt} {g gs ge : FS}
theorem WantS.shift {r : SRes} (gd : Gd X.kw c c' m' H H') (h : WantS X W c H r En) : WantS X W c' H' r En := by
  cases r with
  | nx ρ m1 => exact fun c1 v H1 g1 hv => h c1 v H1 (gd.trans g1) hv
  | rt d m1 => exact fun c1 v H1 g1 hv => h c1 v H1 (gd.trans g1) hv
  | bk ρ m1 => exact fun c1 v H1 g1 hv => h c1 v H1 (gd.trans g1) hv
  | ct ρ m1 => exact fun c1 v H1 g1 hv => h c1 v H1 (gd.trans g1) hv
  | exc x ρ m1 => exact fun c1 σ1 cls dd H1 g1 hs hv => h c1 σ1 cls dd H1 (gd.trans g1) hs hv
  | stuck => exact h
theorem DE.thenS {k : Dn.D → Store → SRes} {Q : VK} (h : DE X W a fa) (r : RelS X.kw c m H) (s : Slo X.kw H c ρ σ) (hb : WantS X W c H ((fa ρ m).bindS ρ k) En)
    (q : ∀ d m1 c1 v H1, RelS X.kw c1 m1 H1 → Slo X.kw H1 c1 ρ σ → Gd X.kw c c1 m1 H H1 → VD X.kw H1 c1 v d → WantS X W c1 H1 (k d m1) En → Q v H1) : WE X a σ H Q := by
  refine h c ρ m σ H Q r s ?_
  cases e : fa ρ m with
  | ok d m1 =>
    rw [e] at hb
    exact fun c1 v H1 g hv => q d m1 c1 v H1 g.rel (g.slots s) g hv (WantS.shift g hb)
  | exc x m1 =>
    rw [e] at hb
    exact fun c1 cls dd H1 g hv => hb c1 σ cls dd H1 g (g.slots s) hv
  | stuck => rw [e] at hb; exact hb
theorem DA.thenS {fl : Rho → Store → Res (List Dn.D)} {k : List Dn.D → Store → SRes} {Q : List V → Hp → Prop} (h : DA X W es fl) (r : RelS X.kw c m H) (s : Slo X.kw H c ρ σ) (hb : WantS X W c H ((fl ρ m).bindS ρ k) En)
    (q : ∀ d m1 c1 v H1, RelS X.kw c1 m1 H1 → Slo X.kw H1 c1 ρ σ → Gd X.kw c c1 m1 H H1 → VDs X.kw H1 c1 v d → WantS X W c1 H1 (k d m1) En → Q v H1) : WA X es σ H Q := by
  refine h c ρ m σ H Q r s ?_
  cases e : fl ρ m with
  | ok d m1 =>
    rw [e] at hb
    exact fun c1 v H1 g hv => q d m1 c1 v H1 g.rel (g.slots s) g hv (WantS.shift g hb)
  | exc x m1 =>
    rw [e] at hb
    exact fun c1 cls dd H1 g hv => hb c1 σ cls dd H1 g (g.slots s) hv
  | stuck => rw [e] at hb; exact hb
theorem DT.thenS {ft : Rho → Store → Res Bool} {k : Bool → Store → SRes} {Q : Bool → Hp → Prop} (h : DT X W a ft) (r : RelS X.kw c m H) (s : Slo X.kw H c ρ σ) (hb : WantS X W c H ((ft ρ m).bindS ρ k) En)
    (q : ∀ d m1 c1 H1, RelS X.kw c1 m1 H1 → Slo X.kw H1 c1 ρ σ → Gd X.kw c c1 m1 H H1 → WantS X W c1 H1 (k d m1) En → Q d H1) : WT X a σ H Q := by
  refine h c ρ m σ H Q r s ?_
  cases e : ft ρ m with
  | ok d m1 =>
    rw [e] at hb
    exact fun c1 H1 g => q d m1 c1 H1 g.rel (g.slots s) g (WantS.shift g hb)
  | exc x m1 =>
    rw [e] at hb
    exact fun c1 cls dd H1 g hv => hb c1 σ cls dd H1 g (g.slots s) hv
  | stuck => rw [e] at hb; exact hb
theorem WantS.now {En : Ends} (r : RelS X.kw c m H) (s : Slo X.kw H c ρ σ) (h : WantS X W c H (.nx ρ m) En) : En.nx σ H := h c σ H (Gd.refl r) s
def nilS : FS := fun ρ m => .nx ρ m
def SRes.seq (r : SRes) (k : FS) : SRes := match r with
  | .nx ρ m => k ρ m
  | r => r
def seqS (g h : FS) : FS := fun ρ m => (g ρ m).seq h
theorem dss_nil : DSs X W [] nilS := fun c ρ m σ H En r s w => wss_of pss_nil (w.now r s)
theorem dss_cons (h1 : DS X W st g) (h2 : DSs X W sts gs) : DSs X W (st :: sts) (seqS g gs) := fun c ρ m σ H En r s w => by
  refine wss_of (pss_cons ps_w pss_w) (h1 c ρ m σ H _ r s ?_)
  unfold seqS at w
  cases e : g ρ m with
  | nx ρ1 m1 => rw [e] at w; exact fun c1 σ1 H1 g1 s1 => h2 c1 ρ1 m1 σ1 H1 En g1.rel s1 (WantS.shift g1 w)
  | rt d m1 => rw [e] at w; exact w
  | bk d m1 => rw [e] at w; exact w
  | ct d m1 => rw [e] at w; exact w
  | exc x d m1 => rw [e] at w; exact w
  | stuck => rw [e] at w; exact w
theorem dss_one (h1 : DS X W st g) : DSs X W [st] g := fun c ρ m σ H En r s w => wss_of (pss_one ps_w) (h1 c ρ m σ H En r s w)
theorem ds_pass : DS X W (.Pass pos) nilS := fun c ρ m σ H En r s w => wst_of ps_pass (w.now r s)
def bkS : FS := fun ρ m => .bk ρ m
def ctS : FS := fun ρ m => .ct ρ m
theorem ds_break : DS X W (.Break pos) bkS := fun c ρ m σ H En r s w => wst_of ps_break (w c σ H (Gd.refl r) s)
theorem ds_continue : DS X W (.Continue pos) ctS := fun c ρ m σ H En r s w => wst_of ps_continue (w c σ H (Gd.refl r) s)
def exprS (f : FE) : FS := fun ρ m => (f ρ m).bindS ρ fun _ m1 => .nx ρ m1
theorem ds_expr (h : DE X W e f) (hs : swapsWith e none pos.line X.env = pure false := by rfl) : DS X W (.Expr e pos) (exprS f) := fun c ρ m σ H En r s w =>
  wst_of (ps_expr pe_w hs) (h.thenS r s w fun d m1 c1 v H1 r1 s1 g1 h1 w1 => w1.now r1 s1)
def retS (f : FE) : FS := fun ρ m => (f ρ m).bindS ρ fun d m1 => .rt d m1
theorem ds_ret (h : DE X W e f) : DS X W (.Return (some e) pos) (retS f) := fun c ρ m σ H En r s w =>
  wst_of (ps_ret pe_w) (h.thenS r s w fun d m1 c1 v H1 r1 s1 g1 h1 w1 => w1 c1 v H1 (Gd.refl r1) h1)
def retN : FS := fun ρ m => .rt (.p .none) m
theorem ds_retN : DS X W (.Return none pos) retN := fun c ρ m σ H En r s w => wst_of ps_retN (w c .non H (Gd.refl r) (VD.non.mpr rfl))
def ifS (t : Rho → Store → Res Bool) (g h : FS) : FS := fun ρ m => (t ρ m).bindS ρ fun b m1 => if b then g ρ m1 else h ρ m1
theorem ds_if {ft : Rho → Store → Res Bool} (h : DT X W e ft) (h1 : DSs X W sts gs) (h2 : DSs X W els ge) : DS X W (.If e sts els pos) (ifS ft gs ge) := fun c ρ m σ H En r s w =>
  wst_of (ps_if pt_w pss_w pss_w) (h.thenS r s w fun k m1 c1 H1 r1 s1 g1 w1 => by
    cases k with
    | true => rw [if_pos rfl]; exact h1 c1 ρ m1 σ H1 En r1 s1 w1
    | false => rw [if_neg Bool.false_ne_true]; exact h2 c1 ρ m1 σ H1 En r1 s1 w1)
def setS (i : Nat) (f : FE) : FS := fun ρ m => (f ρ m).bindS ρ fun d m1 => .nx (ρ.set i (some d)) m1
theorem ds_set (i : Nat) {x : Str} {pos' : Pos} (hN : X.N.Nodup) (he : DE X W e f) (hi : X.N[i]? = some x := by rfl) (hx : Loc X.env.scope x := by first | exact Or.inl rfl | exact Or.inr rfl) (hs : swapsWith e (some (.Name x pos')) pos.line X.env = pure false := by rfl)
    (hf : X.fn x = true ∨ X.env.scope.names.lookup x = some .local := by first | exact .inl rfl | exact .inr rfl | assumption) : DS X W (.Assign [.Name x pos'] e pos) (setS i f) := fun c ρ m σ H En r s w =>
  wst_of (ps_set hN hi hx pe_w hs hf) (he.thenS r s w fun d m1 c1 v H1 r1 s1 g1 h1 w1 => w1 c1 _ H1 (Gd.refl r1) (s1.set i h1))
def parS (i j : Nat) (fl : Rho → Store → Res (List Dn.D)) : FS := fun ρ m => (fl ρ m).bindS ρ fun ds m1 => match ds with
  | [d, d'] => .nx ((ρ.set i (some d)).set j (some d')) m1
  | _ => .stuck
theorem VDs.two {K : KW} {vs : List V} {d d' : Dn.D} (h : VDs K H c vs [d, d']) : ∃ v v', vs = [v, v'] ∧ VD K H c v d ∧ VD K H c v' d' := by
  unfold VDs at h
  obtain ⟨v, r, h1, h2, h3⟩ := h
  unfold VDs at h3
  obtain ⟨v', r', h4, h5, h6⟩ := h3
  unfold VDs at h6
  subst h6 h4 h1
  exact ⟨v, v', rfl, h2, h5⟩
theorem VDs.onlyOne {K : KW} {vs : List V} {d : Dn.D} (h : VDs K H c vs [d]) : ∃ v, vs = [v] ∧ VD K H c v d := by
  unfold VDs at h
  obtain ⟨v, r, h1, h2, h3⟩ := h
  unfold VDs at h3
  subst h3 h1
  exact ⟨v, rfl, h2⟩
theorem ds_par (i j : Nat) {x y : Str} {fl : Rho → Store → Res (List Dn.D)} {px py pt : Pos} {kt k2 pt2} (hN : X.N.Nodup) (ha : DA X W [a, b] fl) (hw : swappedStores [.Tuple [.Name x px, .Name y py] kt pt] (.Tuple [a, b] k2 pt2) X.env = pure (some [x, y]) := by rfl)
    (hc : X.calm = true := by rfl) (hi : X.N[i]? = some x := by rfl) (hj : X.N[j]? = some y := by rfl) (hij : i ≠ j := by decide)
    (hx : X.env.scope.names.lookup x = some .local := by rfl) (hy : X.env.scope.names.lookup y = some .local := by rfl)
    (hs : swapsWithSole [.Tuple [.Name x px, .Name y py] kt pt] (.Tuple [a, b] k2 pt2) pos.line X.env = pure false := by rfl) :
    DS X W (.Assign [.Tuple [.Name x px, .Name y py] kt pt] (.Tuple [a, b] k2 pt2) pos) (parS i j fl) := fun c ρ m σ H En r s w =>
  wst_of (ps_par hc hN hi hj hij hx hy pa_w hw hs) (ha.thenS r s w fun ds m1 c1 vs H1 r1 s1 g1 h1 w1 => by
    split at w1
    · obtain ⟨v, v', h2, h3, h4⟩ := VDs.two h1
      exact ⟨v, v', h2, w1 c1 _ H1 (Gd.refl r1) ((s1.set i h3).set j h4)⟩
    · exact w1.elim)
def par3S (i j l : Nat) (fl : Rho → Store → Res (List Dn.D)) : FS := fun ρ m => (fl ρ m).bindS ρ fun ds m1 => match ds with
  | [d, d', d''] => .nx (((ρ.set i (some d)).set j (some d')).set l (some d'')) m1
  | _ => .stuck
theorem ds_par3 (i j l : Nat) {x y z : Str} {e3 : Expr} {fl : Rho → Store → Res (List Dn.D)} {px py pz pt : Pos} {kt k2 pt2} (hN : X.N.Nodup) (ha : DA X W [a, b, e3] fl) (hw : swappedStores [.Tuple [.Name x px, .Name y py, .Name z pz] kt pt] (.Tuple [a, b, e3] k2 pt2) X.env = pure (some [x, y, z]) := by rfl)
    (hc : X.calm = true := by rfl) (hi : X.N[i]? = some x := by rfl) (hj : X.N[j]? = some y := by rfl) (hl : X.N[l]? = some z := by rfl) (hij : i ≠ j := by decide) (hil : i ≠ l := by decide) (hjl : j ≠ l := by decide)
    (hx : X.env.scope.names.lookup x = some .local := by rfl) (hy : X.env.scope.names.lookup y = some .local := by rfl) (hz : X.env.scope.names.lookup z = some .local := by rfl)
    (hs : swapsWithSole [.Tuple [.Name x px, .Name y py, .Name z pz] kt pt] (.Tuple [a, b, e3] k2 pt2) pos.line X.env = pure false := by rfl) :
    DS X W (.Assign [.Tuple [.Name x px, .Name y py, .Name z pz] kt pt] (.Tuple [a, b, e3] k2 pt2) pos) (par3S i j l fl) := fun c ρ m σ H En r s w =>
  wst_of (ps_par3 hc hN hi hj hl hij hil hjl hx hy hz pa_w hw hs) (ha.thenS r s w fun ds m1 c1 vs H1 r1 s1 g1 h1 w1 => by
    split at w1
    · unfold VDs at h1
      obtain ⟨v, r0, e1, h2, h3⟩ := h1
      obtain ⟨v', v'', e2, h4, h5⟩ := VDs.two h3
      subst e1 e2
      exact ⟨v, v', v'', rfl, w1 c1 _ H1 (Gd.refl r1) (((s1.set i h2).set j h4).set l h5)⟩
    · exact w1.elim)
/-! ### targets -/
structure WG (X : Cx) (tg : Expr) (v : V) (σ : St) (H : Hp) (R : St → Hp → Prop) : Prop where
  go : ∀ (pins : List (Addr × Obj)) (s : Shared) (u : Value), Inv X pins σ H s → RelV v u → wpAny (model X.prog X.w) X.A (assign tg X.env u) (fun _ s' => ∃ σ' H', Inv X pins σ' H' s' ∧ R σ' H') X.xe s
theorem pg_w {tg : Expr} : PG X tg (WG X tg) := ⟨fun pins s σ H v u Q I r h => h.go pins s u I r⟩
theorem wg_of {tg : Expr} {t : TG} {v : V} {R : St → Hp → Prop} (h : PG X tg t) (q : t v σ H R) : WG X tg v σ H R := ⟨fun pins s u I r => h.run pins s σ H v u R I r q⟩
abbrev FG := Dn.D → Rho → Store → SRes
def endN (R : St → Hp → Prop) : Ends := { nx := R, rt := fun _ _ => False }
def DG (X : Cx) (W : WX) (tg : Expr) (ga : FG) : Prop := ∀ (c : Anc) (ρ : Rho) (m : Store) (σ : St) (H : Hp) (v : V) (d : Dn.D) (En : Ends), RelS X.kw c m H → Slo X.kw H c ρ σ → VD X.kw H c v d → WantS X W c H (ga d ρ m) En → WG X tg v σ H En.nx
def nameG (i : Nat) : FG := fun d ρ m => .nx (ρ.set i (some d)) m
theorem dg_name (i : Nat) {x : Str} (hN : X.N.Nodup) (hi : X.N[i]? = some x := by rfl) (hx : Loc X.env.scope x := by first | exact Or.inl rfl | exact Or.inr rfl) (hf : X.fn x = true ∨ X.env.scope.names.lookup x = some .local := by first | exact .inl rfl | exact .inr rfl | assumption) : DG X W (.Name x pos) (nameG i) :=
  fun c ρ m σ H v d En r s hv w => wg_of (pg_name hN hi hx hf) (w c _ H (Gd.refl r) (s.set i hv))
/-- several names -/
structure WGs (X : Cx) (ts : List Expr) (vs : List V) (σ : St) (H : Hp) (R : St → Hp → Prop) : Prop where
  go : ∀ (pins : List (Addr × Obj)) (s : Shared) (us : List Value), Inv X pins σ H s → Vals vs us → wpAny (model X.prog X.w) X.A (assignInOrder ((assignEach ts X.env).map (·.2)) us) (fun _ s' => ∃ σ' H', Inv X pins σ' H' s' ∧ R σ' H') X.xe s
theorem pgs_w {ts : List Expr} : PGs X ts (WGs X ts) := ⟨fun pins s σ H v u Q I r h => h.go pins s u I r⟩
theorem wgs_of {ts : List Expr} {t : TGs} {v : List V} {R : St → Hp → Prop} (h : PGs X ts t) (q : t v σ H R) : WGs X ts v σ H R := ⟨fun pins s u I r => h.run pins s σ H v u R I r q⟩
abbrev FGs := List Dn.D → Rho → Store → SRes
def DGs (X : Cx) (W : WX) (ts : List Expr) (ga : FGs) : Prop := ∀ (c : Anc) (ρ : Rho) (m : Store) (σ : St) (H : Hp) (v : List V) (d : List Dn.D) (En : Ends), RelS X.kw c m H → Slo X.kw H c ρ σ → VDs X.kw H c v d → WantS X W c H (ga d ρ m) En → WGs X ts v σ H En.nx
def nilG : FGs := fun ds ρ m => match ds with
  | [] => .nx ρ m
  | _ => .stuck
def consG (g : FG) (h : FGs) : FGs := fun ds ρ m => match ds with
  | d :: r => (g d ρ m).seq (h r)
  | _ => .stuck
theorem dgs_nil : DGs X W [] nilG := fun c ρ m σ H v d En r s hv w => by
  cases d with
  | nil => unfold VDs at hv; subst hv; exact wgs_of pgs_nil ⟨rfl, w.now r s⟩
  | cons => exact w.elim
theorem dgs_cons {ts : List Expr} {g : FG} {h : FGs} (h1 : DG X W e g) (h2 : DGs X W ts h) (hs : (assignEach (e :: ts) X.env).map (·.2) = assign e X.env :: (assignEach ts X.env).map (·.2) := by rfl) : DGs X W (e :: ts) (consG g h) := fun c ρ m σ H v d En r s hv w => by
  cases d with
  | nil => exact w.elim
  | cons d ds =>
    unfold VDs at hv
    obtain ⟨v1, vr, e1, hv1, hvr⟩ := hv
    subst e1
    refine wgs_of (pgs_cons pg_w pgs_w hs) ⟨v1, vr, rfl, ?_⟩
    refine h1 c ρ m σ H v1 d { nx := fun σ' H' => WGs X ts vr σ' H' En.nx, rt := En.rt, bk := En.bk, ct := En.ct } r s hv1 ?_
    change WantS X W c H ((g d ρ m).seq (h ds)) En at w
    cases q : g d ρ m with
    | nx ρ1 m1 => rw [q] at w; exact fun c1 σ1 H1 g1 s1 => h2 c1 ρ1 m1 σ1 H1 vr ds En g1.rel s1 (g1.vds hvr) (WantS.shift g1 w)
    | rt x m1 => rw [q] at w; exact w
    | bk x m1 => rw [q] at w; exact w
    | ct x m1 => rw [q] at w; exact w
    | exc y x m1 => rw [q] at w; exact w
    | stuck => rw [q] at w; exact w
def tupG (n : Nat) (h : FGs) : FG := fun d ρ m => match tupOf d with
  | some ds => if ds.length = n then h ds ρ m else .stuck
  | none => .stuck
theorem dg_tup {ts : List Expr} {k n : Nat} {h : FGs} (h1 : DGs X W ts h) (hc : X.calm = true := by rfl) (hn : (assignEach ts X.env).length = n := by rfl) (hst : (assignEach ts X.env).findIdx? (·.1) = none := by rfl) : DG X W (.Tuple ts k pos) (tupG n h) := fun c ρ m σ H v d En r s hv w => by
  unfold tupG at w
  cases q : tupOf d with
  | none => rw [q] at w; exact w.elim
  | some ds =>
    rw [q] at w
    obtain ⟨a, vs, e1, h2, h3⟩ := tupOf_ok hv q
    change WantS X W c H (if ds.length = n then h ds ρ m else .stuck) En at w
    by_cases hl : ds.length = n
    · rw [if_pos hl] at w
      exact wg_of (pg_tup hc pgs_w hn hst) ⟨a, vs, e1, h2, by rw [h3.length]; exact hl, h1 c ρ m σ H vs ds En r s h3 w⟩
    · rw [if_neg hl] at w; exact w.elim
def asgS (f : FE) (g : FG) : FS := fun ρ m => (f ρ m).bindS ρ fun d m1 => g d ρ m1
theorem ds_asg {tg : Expr} {g : FG} (he : DE X W e f) (hg : DG X W tg g) (hs : swapsWithSole [tg] e pos.line X.env = pure false := by rfl) (hw : swappedStores [tg] e X.env = pure none := by rfl) (h1 : (assignEach [tg] X.env).map (·.2) = [assign tg X.env] := by rfl) : DS X W (.Assign [tg] e pos) (asgS f g) := fun c ρ m σ H En r s w =>
  wst_of (ps_asg pe_w pg_w hs hw h1) (he.thenS r s w fun d m1 c1 v H1 r1 s1 g1 h1 w1 => hg c1 ρ m1 σ H1 v d En r1 s1 h1 w1)
/-- o[i] = .., a list -/
def okIn (d : Dn.D) : Ix → Bool
  | .g _ => Dn.nl d
  | .l _ => Dn.nx d
def setItemD (o i d : Dn.D) (m : Store) : Option Store := match o, i with
  | .cell x, .p (.int k) => match m.at_ x with
    | some (.lst xs) => match ixN xs.length k with
      | some j => if okIn d x then some (m.set (.lst (xs.set j d)) x) else none
      | none => none
    | _ => none
  | _, _ => none
theorem VD.forI {K : KW} {v : V} {d : Dn.D} {x : Ix} (h : VD K H c v d) (hn : okIn d x = true) : VD K.cold H (forI c x) v d := by
  cases x with
  | g i => exact (VD.nl d h hn).cold (nx_of_nl d hn)
  | l i => exact h.cold hn
theorem setItemD_ok {vo vi v : V} {o i d : Dn.D} {m2 : Store} {R : Hp → Prop} (r : RelS X.kw c m H) (ho : VD X.kw H c vo o) (hi : VD X.kw H c vi i) (hd : VD X.kw H c v d) (e : setItemD o i d m = some m2) (q : ∀ H', Gd X.kw c c m2 H H' → R H') : rSetL vo vi v H R := by
  unfold setItemD at e
  split at e
  · rename_i x k
    split at e
    · rename_i xs hm
      split at e
      · rename_i j hj
        split at e
        · rename_i hn
          cases e
          unfold VD at ho
          obtain ⟨a, h1, h2⟩ := ho
          obtain ⟨vs, h3, h4⟩ := r.at_ x a _ h1 hm
          refine ⟨a, vs, k, j, h2, VD.int.mp hi, h3, by rw [h4.length]; exact hj, ?_⟩
          exact q _ (r.put h1 hm h3 (h4.set (VD.forI hd hn) j))
        · cases e
      · cases e
    · cases e
  · cases e
/-- o[i] = v, by data -/
abbrev SetD := Dn.D → Dn.D → Dn.D → Store → Option Store
def rSetOf (K : KW) (st : SetD) : V → V → V → Hp → (Hp → Prop) → Prop := fun o i v H R => ∃ (c : Anc) (m m' : Store) (do_ di dd : Dn.D), RelS K c m H ∧ VD K H c o do_ ∧ VD K H c i di ∧ VD K H c v dd ∧ st do_ di dd m = some m' ∧ ∀ H', Gd K c c m' H H' → R H'
theorem set_L : PSet X (rSetOf X.kw setItemD) := fun pins s σ H o i v ov iv u Q I ro ri rv ⟨c, m, m', do_, di, dd, r, h1, h2, h3, e, q⟩ =>
  set_list pins s σ H o i v ov iv u Q I ro ri rv (setItemD_ok r h1 h2 h3 e q)
def subG (st : SetD) (fo fi : FE) : FG := fun d ρ m => (fo ρ m).bindS ρ fun o m1 => (fi ρ m1).bindS ρ fun i m2 => match st o i d m2 with
  | some m3 => .nx ρ m3
  | none => .stuck
theorem dg_sub {st : SetD} {o i : Expr} {fo fi : FE} (hst : PSet X (rSetOf X.kw st)) (ho : DE X W o fo) (hi : DE X W i fi)
    (ha : ∀ v, assign (.Subscript o i pos) X.env v = (do
      let ov ← holding [v] (eval o X.env)
      let iv ← holding [v, ov] (eval i X.env)
      standAt pos
      holding [v, ov, iv] (setItem ov iv v)
      release [v, ov, iv] []) := by intro _; rfl) : DG X W (.Subscript o i pos) (subG st fo fi) := fun c ρ m σ H v d En r s hv w =>
  wg_of (pg_sub pe_w pe_w hst ha) (ho.thenS r s w fun x m1 c1 vx H1 r1 s1 g1 h1 w1 => hi.thenS r1 s1 w1 fun y m2 c2 vy H2 r2 s2 g2 h2 w2 => by
    split at w2
    · rename_i m3 e
      exact ⟨c2, m2, m3, x, y, d, r2, g2.vd h1, h2, g2.vd (g1.vd hv), e, fun H' g3 => w2 c2 σ H' g3 (g3.slots s2)⟩
    · exact w2.elim)
end
end L2.Dn
namespace L2.Dn
open PySem PySem.Spec PyProof.Rows L2
/-! ### walks over frozen dicts of any keys -/
abbrev EsE := List (NestedKey × V × V)
def EnR (w : World) (e : NestedKey × V × V) (x : DictEntry) : Prop := x.hash = e.1.hash w ∧ RelV e.2.1 x.key ∧ RelV e.2.2 x.val
/-- under one lock, or under two -/
def lk2 (b : Bool) (o : Obj) (u : HO) : HO := if b then .frz o u else u
theorem _root_.L2.Inv.frzG {X : Cx} {pins : List (Addr × Obj)} {σ : St} {H : Hp} {s : Shared} {d : Addr} {o : Obj} {b : Bool} {es : EsE} (I : Inv X pins σ H s) (h : H d = some (.frz o (lk2 b o (gdO X.w d es)))) :
    (d == sysModules) = false ∧ ∃ (ens : Array DictEntry) (ep : Nat), o.data = .dict ens ep ∧ s.heap.DictRaw d ens ep ∧ ens.size = es.length ∧ Paired (EnR X.w) es ens.toList := by
  have z : ObjOk X.prog X.w H s.heap d (.frz o (gdO X.w d es)) := by
    have z := I.hok d _ h
    cases b with
    | false => exact z
    | true => exact z.2
  unfold gdO at z
  obtain ⟨e1, ⟨o', ens, ep, h0, h1, h2, h3, h4⟩, _⟩ := z
  rw [e1] at h1
  cases h1
  have l : es.length = ens.toList.length := Paired.length h4
  exact ⟨h0, ens, ep, h3, ⟨o, e1, h2, h3⟩, by simpa using l.symm, h4⟩
theorem en_get {w : World} {es : EsE} {ens : Array DictEntry} (p : Paired (EnR w) es ens.toList) {i : Nat} (hi : i < es.length) (hj : i < ens.size) : EnR w es[i] ens[i] := by
  obtain ⟨b, h1, h2⟩ := paired_get p (List.getElem?_eq_getElem hi)
  rw [Array.getElem?_toList, Array.getElem?_eq_getElem hj] at h1
  cases h1
  exact h2
theorem data_ep {o : Obj} {es es' : Array DictEntry} {ep ep' : Nat} (h : o.data = .dict es ep) (h' : o.data = .dict es' ep') : es' = es ∧ ep' = ep := by
  have := h.symm.trans h'
  cases this
  exact ⟨rfl, rfl⟩
/-- the keys -/
def ItKg (w : World) (d : Addr) (o : Obj) (b : Bool) (es : EsE) : It :=
  ⟨fun i H => H d = some (.frz o (lk2 b o (gdO w d es))) ∧ i < es.length, fun i H x H' => H' = H ∧ ∃ e, es[i]? = some e ∧ x = e.2.1, fun i H => H d = some (.frz o (lk2 b o (gdO w d es))) ∧ es.length ≤ i⟩
/-- the values -/
def ItVg (w : World) (d : Addr) (o : Obj) (b : Bool) (es : EsE) : It :=
  ⟨fun i H => H d = some (.frz o (lk2 b o (gdO w d es))) ∧ i < es.length, fun i H x H' => H' = H ∧ ∃ e, es[i]? = some e ∧ x = e.2.2, fun i H => H d = some (.frz o (lk2 b o (gdO w d es))) ∧ es.length ≤ i⟩
/-- the pairs -/
def ItIg (w : World) (d : Addr) (o : Obj) (b : Bool) (es : EsE) : It :=
  ⟨fun i H => H d = some (.frz o (lk2 b o (gdO w d es))) ∧ i < es.length, fun i H x H' => ∃ T e, es[i]? = some e ∧ x = .ref T ∧ H T = none ∧ H' = upd H T (.tup [e.2.1, e.2.2]), fun i H => H d = some (.frz o (lk2 b o (gdO w d es))) ∧ es.length ≤ i⟩
section
variable {P : Program} {w : World} {K : PySem.W.Frag} {tg : Expr} {d : Addr} {o : Obj} {ens : Array DictEntry} {ep : Nat}
theorem turn_Kg {es : EsE} {b : Bool} (it : Addr) (hod : o.data = .dict ens ep) : Turn P w K tg (ItKg w d o b es) [it] it (fun i h => h.IsKeyIter it d i es.length ep) where
  mem := List.mem_singleton.mpr rfl
  obj := fun i h st b hb => by
    obtain rfl := List.mem_singleton.mp hb
    obtain ⟨oi, e1, _, e2⟩ := st
    exact ⟨oi, e1, fun v z => nomatch (e2.symm.trans z)⟩
  keep := fun i h h' st k => st.at fun oi e => k it (List.mem_singleton.mpr rfl) oi e
  item := by
    intro X hP hw hK hc i pins s σ H E I hf st hg
    cases hP; cases hw; cases hK
    obtain ⟨q1, q2⟩ := hg
    obtain ⟨f0, f1, f2, f3, f4, f5⟩ := hf it (List.mem_singleton.mpr rfl)
    obtain ⟨z0, ens', ep', z1, z2, z3, z4⟩ := I.frzG q1
    obtain ⟨rfl, rfl⟩ := data_ep hod z1
    have hj : i < ens'.size := by omega
    have en := en_get z4 q2 hj
    have st' : s.heap.IsKeyIter it d i ens'.size ep' := by rw [z3]; exact st
    refine wpAny_pyNext_keys_item_raw st' z2 hj fun h1 i1 sb => ?_
    have J : Inv X pins σ H { s with heap := h1 } := I.turned (t' := s.toks) (fun b ob hb e => (sb.2 b hb).trans e) f0 f1 f3 f4 f5
    obtain ⟨oi, e1, e2, e3⟩ := id i1
    exact ⟨_, rfl, go_of (s := { s with heap := h1 }) e1 e2 e3 (by decide) ⟨es[i].2.1, H, J, en.2.1, ⟨rfl, _, List.getElem?_eq_getElem q2, rfl⟩, by rw [← z3]; exact i1, fun b hb => (hf b hb).1⟩⟩
  done := by
    intro X hP hw hK hc i pins s σ H E I hf st hg
    cases hP; cases hw; cases hK
    obtain ⟨q1, q2⟩ := hg
    obtain ⟨f0, f1, f2, f3, f4, f5⟩ := hf it (List.mem_singleton.mpr rfl)
    obtain ⟨z0, ens', ep', z1, z2, z3, z4⟩ := I.frzG q1
    obtain ⟨rfl, rfl⟩ := data_ep hod z1
    have st' : s.heap.IsKeyIter it d i ens'.size ep' := by rw [z3]; exact st
    exact wpAny_pyNext_keys_end_raw (I.ok.hd hc) st' z2 (by omega) fun h1 eb => ⟨rfl, I.turned (t' := s.toks) (fun b ob hb e => eb b ob hb e) f0 f1 f3 f4 f5⟩
  self := fun A i s Q E st h => wpAny_pyIter_keyiter st h
theorem turn_Vg {es : EsE} {b : Bool} (it : Addr) (hod : o.data = .dict ens ep) : Turn P w K tg (ItVg w d o b es) [it] it (fun i h => h.IsValIter it d i es.length ep) where
  mem := List.mem_singleton.mpr rfl
  obj := fun i h st b hb => by
    obtain rfl := List.mem_singleton.mp hb
    obtain ⟨oi, e1, _, e2⟩ := st
    exact ⟨oi, e1, fun v z => nomatch (e2.symm.trans z)⟩
  keep := fun i h h' st k => st.at fun oi e => k it (List.mem_singleton.mpr rfl) oi e
  item := by
    intro X hP hw hK hc i pins s σ H E I hf st hg
    cases hP; cases hw; cases hK
    obtain ⟨q1, q2⟩ := hg
    obtain ⟨f0, f1, f2, f3, f4, f5⟩ := hf it (List.mem_singleton.mpr rfl)
    obtain ⟨z0, ens', ep', z1, z2, z3, z4⟩ := I.frzG q1
    obtain ⟨rfl, rfl⟩ := data_ep hod z1
    have hj : i < ens'.size := by omega
    have en := en_get z4 q2 hj
    have st' : s.heap.IsValIter it d i ens'.size ep' := by rw [z3]; exact st
    refine wpAny_pyNext_values_item_raw st' z2 hj fun h1 i1 sb => ?_
    have J : Inv X pins σ H { s with heap := h1 } := I.turned (t' := s.toks) (fun b ob hb e => (sb.2 b hb).trans e) f0 f1 f3 f4 f5
    obtain ⟨oi, e1, e2, e3⟩ := id i1
    exact ⟨_, rfl, go_of (s := { s with heap := h1 }) e1 e2 e3 (by decide) ⟨es[i].2.2, H, J, en.2.2, ⟨rfl, _, List.getElem?_eq_getElem q2, rfl⟩, by rw [← z3]; exact i1, fun b hb => (hf b hb).1⟩⟩
  done := by
    intro X hP hw hK hc i pins s σ H E I hf st hg
    cases hP; cases hw; cases hK
    obtain ⟨q1, q2⟩ := hg
    obtain ⟨f0, f1, f2, f3, f4, f5⟩ := hf it (List.mem_singleton.mpr rfl)
    obtain ⟨z0, ens', ep', z1, z2, z3, z4⟩ := I.frzG q1
    obtain ⟨rfl, rfl⟩ := data_ep hod z1
    have st' : s.heap.IsValIter it d i ens'.size ep' := by rw [z3]; exact st
    exact wpAny_pyNext_values_end_raw (I.ok.hd hc) st' z2 (by omega) fun h1 eb => ⟨rfl, I.turned (t' := s.toks) (fun b ob hb e => eb b ob hb e) f0 f1 f3 f4 f5⟩
  self := fun A i s Q E st h => wpAny_pyIter_valiter st h
theorem turn_Ig {es : EsE} {b : Bool} {elts : List Expr} {kk : Nat} {tpos : Pos} (it : Addr) (hod : o.data = .dict ens ep) :
    Turn P w K (.Tuple elts kk tpos) (ItIg w d o b es) [it] it (fun i h => ∃ ok ov, IsItemIter h it d i es.length ep ok ov) where
  mem := List.mem_singleton.mpr rfl
  obj := fun i h st b hb => by
    obtain rfl := List.mem_singleton.mp hb
    obtain ⟨ok, ov, e1⟩ := st
    exact ⟨_, e1, fun v z => nomatch z⟩
  keep := fun i h h' ⟨ok, ov, e⟩ k => ⟨ok, ov, k it (List.mem_singleton.mpr rfl) _ e⟩
  item := by
    intro X hP hw hK hc i pins s σ H E I hf st hg
    cases hP; cases hw; cases hK
    obtain ⟨q1, q2⟩ := hg
    obtain ⟨z0, ens', ep', z1, z2, z3, z4⟩ := I.frzG q1
    obtain ⟨rfl, rfl⟩ := data_ep hod z1
    have hj : i < ens'.size := by omega
    have en := en_get z4 q2 hj
    obtain ⟨ok, ov, he⟩ := st
    have he' : IsItemIter s.heap it d i ens'.size ep' ok ov := by rw [z3]; exact he
    have hlt : it < s.heap.objs.size := Heap.lt_size he
    refine wpAny_pyNext_items_item_raw he' z2 hj fun h1 y1 y2 y3 y4 => ?_
    refine ⟨_, rfl, wpAny_letOwnedTupleGo_items (s := { s with heap := h1 }) y1 fun h2 x1 sb => ?_⟩
    have hT := (sb.2 _ (Nat.ne_of_gt hlt)).trans y2
    have new : ObjOk X.prog X.w (upd H s.heap.objs.size (.tup [es[i].2.1, es[i].2.2])) h2 s.heap.objs.size (.tup [es[i].2.1, es[i].2.2]) :=
      ⟨show 2 ≤ sizeLine by decide, [ens'[i].key, ens'[i].val], .cons en.2.1 (.cons en.2.2 .nil), ⟨_, hT, rfl, _, rfl⟩⟩
    have J : Inv X pins σ (upd H s.heap.objs.size (.tup [es[i].2.1, es[i].2.2])) { s with heap := h2 } :=
      I.turnedNew (t' := s.toks) (ch := [it]) (fun b ob hb e => (sb.2 b (fun z => hb (List.mem_singleton.mpr z))).trans (y4 b ob (fun z => hb (List.mem_singleton.mpr z)) e)) hf (Nat.le_refl _) new
    refine ⟨.ref s.heap.objs.size, _, J, rfl, ⟨_, _, List.getElem?_eq_getElem q2, rfl, I.hok.fresh (Nat.le_refl _), rfl⟩, ⟨_, _, by rw [← z3]; exact x1⟩, fun b hb => ?_⟩
    obtain rfl := List.mem_singleton.mp hb
    rw [upd_ne (Nat.ne_of_lt hlt)]
    exact (hf b hb).1
  done := by
    intro X hP hw hK hc i pins s σ H E I hf st hg
    cases hP; cases hw; cases hK
    obtain ⟨q1, q2⟩ := hg
    obtain ⟨f0, f1, f2, f3, f4, f5⟩ := hf it (List.mem_singleton.mpr rfl)
    obtain ⟨z0, ens', ep', z1, z2, z3, z4⟩ := I.frzG q1
    obtain ⟨rfl, rfl⟩ := data_ep hod z1
    obtain ⟨ok, ov, he⟩ := st
    have he' : IsItemIter s.heap it d i ens'.size ep' ok ov := by rw [z3]; exact he
    exact wpAny_pyNext_items_end_raw (I.ok.hd hc) he' z2 (by omega) fun h1 eb => ⟨rfl, I.turned (t' := s.toks) (fun b ob hb e => eb b ob hb e) f0 f1 f3 f4 f5⟩
  self := fun A i s Q E ⟨_, _, e⟩ h => PySem.W.kcp_self e h
end
def iKg (w : World) (td : TE) : TI := fun σ H R => td σ H fun x H1 => ∃ d o b es, x = .ref d ∧ H1 d = some (.frz o (lk2 b o (gdO w d es))) ∧ R (ItKg w d o b es) H1
def iVg (w : World) (td : TE) : TI := fun σ H R => td σ H fun x H1 => ∃ d o b es, x = .ref d ∧ H1 d = some (.frz o (lk2 b o (gdO w d es))) ∧ R (ItVg w d o b es) H1
def iIg (w : World) (td : TE) : TI := fun σ H R => td σ H fun x H1 => ∃ d o b es, x = .ref d ∧ H1 d = some (.frz o (lk2 b o (gdO w d es))) ∧ R (ItIg w d o b es) H1
section
variable {X : Cx} {tg e : Expr} {td : TE} {apos cpos : Pos}
theorem pi_Kg (he : PE X e td) : PI X tg e (iKg X.w td) := by
  refine ⟨fun pins s σ H R I h => thn (he.run pins s σ H _ I h) ?_⟩
  rintro u s1 ⟨x, H1, J, rx, d, o, b, es, rfl, q1, q2⟩
  cases rx
  obtain ⟨z0, ens, ep, z1, z2, z3, z4⟩ := J.frzG q1
  refine wpAny_pyIter_dict_raw z0 z2 (pi_one (tk := s1.toks) J _ (turn_Kg _ z1) ⟨_, Heap.get?_push_size _ rfl, rfl, ?_⟩ q2)
  rw [z3] <;> rfl
theorem DictRaw.pushed {h : Heap} {d : Addr} {es : Array DictEntry} {ep : Nat} (x : h.DictRaw d es ep) (o : Obj) : (h.push o).DictRaw d es ep := x.at fun _ e => Heap.get?_push_of_some _ e
theorem raw_noDict {h : Heap} {d : Addr} {es : Array DictEntry} {ep : Nat} (x : h.DictRaw d es ep) : ∀ b, Value.ref d = .ref b → ∃ ob, h.get? b = some ob ∧ ob.dict = none := fun b z => by
  cases z
  obtain ⟨o, h1, h2, h3⟩ := x
  exact ⟨o, h1, h2.2.1⟩
theorem pi_Vg (he : PE X e td) (hbase : attributeBase e "values" X.env (eval e X.env) = eval e X.env := by rfl) (hline : (apos.endLine == cpos.line) = true := by rfl) :
    PI X tg (.Call (.Attribute e "values" apos) [] [] cpos) (iVg X.w td) := by
  refine ⟨fun pins s σ H R I h => wpAny_Call_method (T := "dict") (id := "dict.values") hbase rfl hline F.plainAttrs_dict F.slot_dict_values F.type_dict_values (thn (he.run pins s σ H _ I h) ?_)⟩
  rintro u s1 ⟨x, H1, J, rx, d, o, b, es, rfl, q1, q2⟩
  cases rx
  obtain ⟨z0, ens, ep, z1, z2, z3, z4⟩ := J.frzG q1
  refine ⟨z2.typeIs, raw_noDict z2, ?_⟩
  have J2 : Inv X pins σ H1 { s1 with heap := s1.heap.push ⟨.type "dict_values", none, .fields #[.ref d], #[]⟩ } := J.kept (t' := s1.toks) fun b ob q => Heap.get?_push_of_some _ q
  have go : wpAny (model X.prog X.w) X.A (pyIter (.ref s1.heap.objs.size)) (PIE X pins σ tg R) X.xe { s1 with heap := s1.heap.push ⟨.type "dict_values", none, .fields #[.ref d], #[]⟩ } := by
    refine wpAny_pyIter_values_raw (d := d) ⟨_, Heap.get?_push_size _ rfl, rfl, rfl⟩ (DictRaw.pushed z2 _) (pi_one (tk := s1.toks) J2 _ (turn_Vg _ z1) ⟨_, Heap.get?_push_size _ rfl, rfl, ?_⟩ q2)
    rw [z3] <;> rfl
  show wpAny _ _ (callWith cpos (.builtin "dict.values") [.ref d] [] []) _ X.xe s1
  exact method_meetsIn F.slot_dict_values F.entry_dict_values rfl (PySem.evalArgs_none ⟨rfl, z2.typeIs, F.args_dict_values_1 _, _, meets_dict_values_raw d z0, ⟨ens, ep, z2⟩, go⟩)
theorem pi_Ig {elts : List Expr} {kk : Nat} {tpos : Pos} (he : PE X e td) (hbase : attributeBase e "items" X.env (eval e X.env) = eval e X.env := by rfl) (hline : (apos.endLine == cpos.line) = true := by rfl) :
    PI X (.Tuple elts kk tpos) (.Call (.Attribute e "items" apos) [] [] cpos) (iIg X.w td) := by
  refine ⟨fun pins s σ H R I h => wpAny_Call_method (T := "dict") (id := "dict.items") hbase rfl hline F.plainAttrs_dict F.slot_dict_items F.type_dict_items (thn (he.run pins s σ H _ I h) ?_)⟩
  rintro u s1 ⟨x, H1, J, rx, d, o, b, es, rfl, q1, q2⟩
  cases rx
  obtain ⟨z0, ens, ep, z1, z2, z3, z4⟩ := J.frzG q1
  refine ⟨z2.typeIs, raw_noDict z2, ?_⟩
  have J2 : Inv X pins σ H1 { s1 with heap := s1.heap.push ⟨.type "dict_items", none, .fields #[.ref d], #[]⟩ } := J.kept (t' := s1.toks) fun b ob q => Heap.get?_push_of_some _ q
  have go : wpAny (model X.prog X.w) X.A (pyIter (.ref s1.heap.objs.size)) (PIE X pins σ (.Tuple elts kk tpos) R) X.xe { s1 with heap := s1.heap.push ⟨.type "dict_items", none, .fields #[.ref d], #[]⟩ } := by
    refine wpAny_pyIter_items_raw (d := d) ⟨_, Heap.get?_push_size _ rfl, rfl, rfl⟩ (DictRaw.pushed z2 _) (pi_one (tk := s1.toks) J2 _ (turn_Ig _ z1) ⟨.none, .none, ?_⟩ q2)
    rw [← z3]
    exact Heap.get?_push_size _ rfl
  show wpAny _ _ (callWith cpos (.builtin "dict.items") [.ref d] [] []) _ X.xe s1
  exact method_meetsIn F.slot_dict_items F.entry_dict_items rfl (PySem.evalArgs_none ⟨rfl, z2.typeIs, F.args_dict_items_1 _, _, meets_dict_items_raw d z0, ⟨ens, ep, z2⟩, go⟩)
end
end L2.Dn
namespace L2.Dn
open PySem PySem.Spec PyProof.Rows L2
/-! ### what is walked -/
def ItD (K : KW) (c : Anc) (H : Hp) (J : It) (ds : List D) : Prop := ∀ (c' : Anc) (m' : Store) (H' : Hp), Pre c c' → Ext H H' → RelS K c' m' H' → ∀ i : Nat,
  (∀ d, ds[i]? = some d → J.go i H' ∧ ∀ x H'', J.yld i H' x H'' → Gd K c' c' m' H' H'' ∧ (∀ b o, H' b = some o → H'' b = some o) ∧ VD K H'' c' x d) ∧ (ds.length ≤ i → J.stop i H')
structure WI (X : Cx) (tg iter : Expr) (σ : St) (H : Hp) (R : It → Hp → Prop) : Prop where
  go : ∀ (pins : List (Addr × Obj)) (s : Shared), Inv X pins σ H s → wpAny (model X.prog X.w) X.A (eval iter X.env) (fun v s1 => wpAny (model X.prog X.w) X.A (pyIter v) (PIE X pins σ tg R) X.xe s1) X.xe s
def WantI (X : Cx) (W : WX) (c : Anc) (H : Hp) (σ : St) (r : Res (List D)) (R : It → Hp → Prop) : Prop := match r with
  | .ok ds m' => ∀ c' J H', Gd X.kw c c' m' H H' → ItD X.kw c' H' J ds → R J H'
  | .exc x m' => ∀ c' cls dd H', Gd X.kw c c' m' H H' → ExcV X.kw H' c' x cls dd → W cls dd σ H'
  | .stuck => False
abbrev FI := Rho → Store → Res (List D)
def DI (X : Cx) (W : WX) (tg iter : Expr) (fi : FI) : Prop := ∀ (c : Anc) (ρ : Rho) (m : Store) (σ : St) (H : Hp) (R : It → Hp → Prop), RelS X.kw c m H → Slo X.kw H c ρ σ → WantI X W c H σ (fi ρ m) R → WI X tg iter σ H R
section
variable {X : Cx} {W : WX} {a b e tg iter : Expr} {es : List Expr} {fa fb f : FE} {pos p : Pos} {c c' : Anc} {ρ : Rho} {m m' : Store} {σ : St} {H H' : Hp}
theorem pi_w : PI X tg iter (WI X tg iter) := ⟨fun pins s σ H R I h => h.go pins s I⟩
theorem wi_of {t : TI} {R : It → Hp → Prop} (h : PI X tg iter t) (q : t σ H R) : WI X tg iter σ H R := ⟨fun pins s I => h.run pins s σ H R I q⟩
theorem VDs.at_ {K : KW} {vs : List V} {ds : List D} {i : Nat} {d : D} {v : V} (h : VDs K H c vs ds) (e : ds[i]? = some d) (e2 : vs[i]? = some v) : VD K H c v d := by
  obtain ⟨v', h1, h2⟩ := h.get e
  rw [e2] at h1
  cases h1
  exact h2
theorem itd_list {K : KW} {a : Addr} {vs : List V} {ds : List D} (hf : FzL K H a vs) (hv : VDs K H c vs ds) : ItD K c H (Itl K a) ds := fun c' m' H' p ex r i => by
  have f := hf.ext ex
  have hv' := VDs.mono ex p _ hv
  refine ⟨fun d e => ?_, fun hl => ⟨vs, f.sq, by rw [hv.length]; exact hl⟩⟩
  obtain ⟨v, h1, h2⟩ := hv'.get e
  refine ⟨⟨vs, v, f.sq, h1⟩, fun x H'' y => ?_⟩
  obtain ⟨e1, y⟩ := y
  subst e1
  exact ⟨Gd.refl r, fun _ _ e => e, hv'.at_ e (y vs f.sq)⟩
theorem itd_tup {K : KW} {a : Addr} {vs : List V} {ds : List D} (hf : SqT K H a vs) (hv : VDs K H c vs ds) : ItD K c H (Itt K a) ds := fun c' m' H' p ex r i => by
  have f := SqT.ext hf ex
  have hv' := VDs.mono ex p _ hv
  refine ⟨fun d e => ?_, fun hl => ⟨vs, f, by rw [hv.length]; exact hl⟩⟩
  obtain ⟨v, h1, h2⟩ := hv'.get e
  refine ⟨⟨vs, v, f, h1⟩, fun x H'' y => ?_⟩
  obtain ⟨e1, y⟩ := y
  subst e1
  exact ⟨Gd.refl r, fun _ _ e => e, hv'.at_ e (y vs f)⟩
def signs (x : Str) : List D := x.cps.toList.map fun n => .p (.str ⟨#[n]⟩)
theorem itd_str {K : KW} {x : Str} : ItD K c H (Its x) (signs x) := fun c' m' H' p ex r i => by
  refine ⟨fun d e => ?_, fun hl => by show x.cps.size ≤ i; simpa [signs] using hl⟩
  simp only [signs, List.getElem?_map, Option.map_eq_some_iff, Array.getElem?_toList] at e
  obtain ⟨n, h1, h2⟩ := e
  refine ⟨(Array.getElem?_eq_some_iff.mp h1).1, fun v H'' y => ?_⟩
  obtain ⟨e1, n', h3, h4⟩ := y
  rw [h1] at h3
  cases h3
  subst e1 h4 h2
  exact ⟨Gd.refl r, fun _ _ e => e, VD.str.mpr rfl⟩
def rngL (lo : Int) (n : Nat) : List D := (List.range n).map fun (k : Nat) => .p (.int (lo + (k : Int)))
theorem itd_range {K : KW} {lo : Int} {n : Nat} : ItD K c H (Itr lo n) (rngL lo n) := fun c' m' H' p ex r i => by
  refine ⟨fun d e => ?_, fun hl => by show n ≤ i; simpa [rngL] using hl⟩
  simp only [rngL, List.getElem?_map, Option.map_eq_some_iff] at e
  obtain ⟨k, h1, h2⟩ := e
  have hk := List.getElem?_eq_some_iff.mp h1
  obtain ⟨hk, e1⟩ := hk
  simp at e1 hk
  subst e1
  refine ⟨hk, fun v H'' y => ?_⟩
  obtain ⟨e1, e2⟩ := y
  subst e1 e2 h2
  exact ⟨Gd.refl r, fun _ _ e => e, VD.int.mpr rfl⟩
/-- a frozen dict's keys and values -/
def dctZ : D → Option (List PyData × List D)
  | .p (.dict kvs) => some (kvs.map (·.1), (kvs.map (·.2)).map D.p)
  | .dct ks xs => some (ks, xs)
  | _ => none
theorem dctZ_ok {K : KW} {v : V} {d : D} {ks : List PyData} {xs : List D} (h : VD K H c v d) (e : dctZ d = some (ks, xs)) : ∃ a o es, v = .ref a ∧ H a = some (.frz o (gdO K.w a es)) ∧ DctK K H es ks ∧ VDs K H c (es.map (·.2.2)) xs := by
  unfold dctZ at e
  split at e
  · cases e
    unfold VD at h
    cases h with
    | dG h1 h2 h3 h4 h5 h6 => exact ⟨_, _, _, rfl, h1, ⟨by rw [h2, List.map_map]; rfl, h3, h4, h5⟩, VDs.ofp h6⟩
  · cases e
    unfold VD at h
    exact h
  · cases e
theorem DctK.len {K : KW} {es : EsE} {ks : List PyData} (h : DctK K H es ks) : es.length = ks.length := by
  have := congrArg List.length h.key
  simpa using this
theorem DpZs.get {K : KW} : ∀ {vs : List V} {ds : List PyData} {i : Nat} {d : PyData}, DpZs K H vs ds → ds[i]? = some d → ∃ v, vs[i]? = some v ∧ DpZ K H v d
  | _, _, i, _, .nil, e => by simp at e
  | _, _, 0, _, .cons h _, e => by simp at e; subst e; exact ⟨_, rfl, h⟩
  | _, _, i + 1, _, .cons _ r, e => by
    obtain ⟨v, h1, h2⟩ := DpZs.get (i := i) r (by simpa using e)
    exact ⟨v, by simpa using h1, h2⟩
theorem itd_Kg {K : KW} {a : Addr} {o : Obj} {b : Bool} {es : EsE} {ks : List PyData} (h1 : H a = some (.frz o (lk2 b o (gdO K.w a es)))) (h2 : DctK K H es ks) : ItD K c H (ItKg K.w a o b es) (ks.map D.p) := fun c' m' H' p ex r i => by
  have f := ex _ _ rfl h1
  have k2 := h2.ext ex
  refine ⟨fun d e => ?_, fun hl => ⟨f, by rw [h2.len]; simpa using hl⟩⟩
  rw [List.getElem?_map, Option.map_eq_some_iff] at e
  obtain ⟨k, e1, rfl⟩ := e
  obtain ⟨v, g1, g2⟩ := k2.kd.get e1
  refine ⟨⟨f, by rw [h2.len]; exact (List.getElem?_eq_some_iff.mp e1).1⟩, fun x H'' y => ?_⟩
  obtain ⟨rfl, en, y1, rfl⟩ := y
  refine ⟨Gd.refl r, fun _ _ e => e, ?_⟩
  rw [List.getElem?_map, y1] at g1
  cases g1
  unfold VD
  exact g2
theorem itd_Vg {K : KW} {a : Addr} {o : Obj} {b : Bool} {es : EsE} {xs : List D} (h1 : H a = some (.frz o (lk2 b o (gdO K.w a es)))) (h2 : VDs K H c (es.map (·.2.2)) xs) : ItD K c H (ItVg K.w a o b es) xs := fun c' m' H' p ex r i => by
  have f := ex _ _ rfl h1
  have k2 := VDs.mono ex p _ h2
  have hl : es.length = xs.length := by rw [← h2.length, List.length_map]
  refine ⟨fun d e => ?_, fun hi => ⟨f, by omega⟩⟩
  obtain ⟨v, g1, g2⟩ := k2.get e
  refine ⟨⟨f, by rw [hl]; exact (List.getElem?_eq_some_iff.mp e).1⟩, fun x H'' y => ?_⟩
  obtain ⟨rfl, en, y1, rfl⟩ := y
  refine ⟨Gd.refl r, fun _ _ e => e, ?_⟩
  rw [List.getElem?_map, y1] at g1
  cases g1
  exact g2
def prs (ks : List PyData) (xs : List D) : List D := (ks.zip xs).map fun q => mkTup [.p q.1, q.2]
theorem itd_Ig {K : KW} {a : Addr} {o : Obj} {b : Bool} {es : EsE} {ks : List PyData} {xs : List D} (h1 : H a = some (.frz o (lk2 b o (gdO K.w a es)))) (h2 : DctK K H es ks) (h3 : VDs K H c (es.map (·.2.2)) xs) : ItD K c H (ItIg K.w a o b es) (prs ks xs) := fun c' m' H' p ex r i => by
  have f := ex _ _ rfl h1
  have k2 := h2.ext ex
  have k3 := VDs.mono ex p _ h3
  have hl : es.length = xs.length := by rw [← h3.length, List.length_map]
  have hk := h2.len
  refine ⟨fun d e => ?_, fun hi => ⟨f, by simp only [prs, List.length_map, List.length_zip] at hi; omega⟩⟩
  simp only [prs, List.getElem?_map, Option.map_eq_some_iff] at e
  obtain ⟨q, e1, rfl⟩ := e
  rw [List.getElem?_zip_eq_some] at e1
  obtain ⟨e1, e2⟩ := e1
  obtain ⟨v1, g1, g2⟩ := k2.kd.get e1
  obtain ⟨v2, g3, g4⟩ := k3.get e2
  refine ⟨⟨f, by rw [hk]; exact (List.getElem?_eq_some_iff.mp e1).1⟩, fun x H'' y => ?_⟩
  obtain ⟨T, en, y1, rfl, y2, rfl⟩ := y
  rw [List.getElem?_map, y1] at g1 g3
  cases g1
  cases g3
  have g : Gd K c' c' m' H' (upd H' T (.tup [en.2.1, en.2.2])) := r.lay y2
  refine ⟨g, fun b o e => by rw [upd_ne (ne_of_none e y2)]; exact e, mkTup_ok (vs := [en.2.1, en.2.2]) ?_ (SqT.of upd_same)⟩
  unfold VDs
  exact ⟨_, _, rfl, by unfold VD; exact g2.ext g.ext, VDs.one (g.vd g4)⟩
/-- the items of a frozen list, a tuple, a text, a frozen dict's keys -/
def itemsZ : D → Option (List D)
  | .p (.dict kvs) => some ((kvs.map (·.1)).map D.p)
  | .dct ks _ => some (ks.map D.p)
  | .p (.list ds) => some (ds.map D.p)
  | .lst ds => some ds
  | .p (.tuple ds) => some (ds.map D.p)
  | .tup ds => some ds
  | .p (.str x) => some (signs x)
  | _ => none
def walkI (f : FE) : FI := fun ρ m => (f ρ m).bind fun d m1 => match itemsZ d with
  | some ds => .ok ds m1
  | none => .stuck
/-- a sequence as it is: which rule serves hangs on the datum -/
theorem di_val (h : DE X W e f) : DI X W tg e (walkI f) := fun c ρ m σ H R r s w => by
  unfold walkI at w
  cases q : f ρ m with
  | stuck => rw [q] at w; exact w.elim
  | exc x m1 =>
    rw [q] at w
    exact wi_of (pi_list pe_w) (h c ρ m σ H _ r s (by rw [q]; exact w))
  | ok d m1 =>
    rw [q] at w
    have go : ∀ {Q : VK}, (∀ c1 v H1, Gd X.kw c c1 m1 H H1 → VD X.kw H1 c1 v d → Q v H1) → WE X e σ H Q := fun {Q} k => h c ρ m σ H Q r s (by rw [q]; exact k)
    cases d with
    | p d =>
      cases d with
      | list ds =>
        refine wi_of (pi_list pe_w) (go fun c1 v H1 g hv => ?_)
        unfold VD at hv
        cases hv with
        | @lst a xs _ hf hq => exact ⟨a, rfl, ⟨xs, hf.sq⟩, w c1 _ H1 g (itd_list hf (VDs.ofp hq))⟩
      | tuple ds =>
        refine wi_of (pi_tup pe_w) (go fun c1 v H1 g hv => ?_)
        unfold VD at hv
        cases hv with
        | @tup a xs _ hf hq => exact ⟨a, rfl, ⟨xs, hf⟩, w c1 _ H1 g (itd_tup hf (VDs.ofp hq))⟩
      | str x => exact wi_of (pi_str pe_w) (go fun c1 v H1 g hv => ⟨x, VD.str.mp hv, w c1 _ H1 g itd_str⟩)
      | none => exact w.elim
      | bool b => exact w.elim
      | int b => exact w.elim
      | dict b =>
        refine wi_of (pi_Kg pe_w) (go fun c1 v H1 g hv => ?_)
        obtain ⟨a, o, es, e1, e2, e3, e4⟩ := dctZ_ok hv rfl
        exact ⟨a, o, false, es, e1, e2, w c1 _ H1 g (itd_Kg (b := false) e2 e3)⟩
    | lst ds =>
      refine wi_of (pi_list pe_w) (go fun c1 v H1 g hv => ?_)
      unfold VD at hv
      obtain ⟨a, xs, e1, hf, hq⟩ := hv
      exact ⟨a, e1, ⟨xs, hf.sq⟩, w c1 _ H1 g (itd_list hf hq)⟩
    | tup ds =>
      refine wi_of (pi_tup pe_w) (go fun c1 v H1 g hv => ?_)
      unfold VD at hv
      obtain ⟨a, xs, e1, hf, hq⟩ := hv
      exact ⟨a, e1, ⟨xs, hf⟩, w c1 _ H1 g (itd_tup hf hq)⟩
    | dct ks xs =>
      refine wi_of (pi_Kg pe_w) (go fun c1 v H1 g hv => ?_)
      obtain ⟨a, o, es, e1, e2, e3, e4⟩ := dctZ_ok hv rfl
      exact ⟨a, o, false, es, e1, e2, w c1 _ H1 g (itd_Kg (b := false) e2 e3)⟩
    | cell i => exact w.elim
    | obj i j k => exact w.elim
    | exn i j k => exact w.elim
    | fn i => exact w.elim
    | ty i => exact w.elim
    | opq => exact w.elim
def valsI (f : FE) : FI := fun ρ m => (f ρ m).bind fun d m1 => match dctZ d with
  | some q => .ok q.2 m1
  | none => .stuck
def itmsI (f : FE) : FI := fun ρ m => (f ρ m).bind fun d m1 => match dctZ d with
  | some q => .ok (prs q.1 q.2) m1
  | none => .stuck
theorem di_vals {apos : Pos} (h : DE X W e f) (hbase : attributeBase e "values" X.env (eval e X.env) = eval e X.env := by rfl) (hline : (apos.endLine == pos.line) = true := by rfl) : DI X W tg (.Call (.Attribute e "values" apos) [] [] pos) (valsI f) := fun c ρ m σ H R r s w => by
  refine wi_of (pi_Vg pe_w hbase hline) (h c ρ m σ H _ r s ?_)
  unfold valsI at w
  cases q : f ρ m with
  | stuck => rw [q] at w; exact w.elim
  | exc x m1 => rw [q] at w; exact w
  | ok d m1 =>
    rw [q] at w
    intro c1 v H1 g hv
    cases q2 : dctZ d with
    | none => simp only [Res.bind, q2] at w; exact w.elim
    | some y =>
      simp only [Res.bind, q2] at w
      obtain ⟨a, o, es, e1, e2, e3, e4⟩ := dctZ_ok (ks := y.1) (xs := y.2) hv q2
      exact ⟨a, o, false, es, e1, e2, w c1 _ H1 g (itd_Vg (b := false) e2 e4)⟩
theorem di_itms {apos : Pos} {elts : List Expr} {kk : Nat} {tpos : Pos} (h : DE X W e f) (hbase : attributeBase e "items" X.env (eval e X.env) = eval e X.env := by rfl) (hline : (apos.endLine == pos.line) = true := by rfl) : DI X W (.Tuple elts kk tpos) (.Call (.Attribute e "items" apos) [] [] pos) (itmsI f) := fun c ρ m σ H R r s w => by
  refine wi_of (pi_Ig pe_w hbase hline) (h c ρ m σ H _ r s ?_)
  unfold itmsI at w
  cases q : f ρ m with
  | stuck => rw [q] at w; exact w.elim
  | exc x m1 => rw [q] at w; exact w
  | ok d m1 =>
    rw [q] at w
    intro c1 v H1 g hv
    cases q2 : dctZ d with
    | none => simp only [Res.bind, q2] at w; exact w.elim
    | some y =>
      simp only [Res.bind, q2] at w
      obtain ⟨a, o, es, e1, e2, e3, e4⟩ := dctZ_ok (ks := y.1) (xs := y.2) hv q2
      exact ⟨a, o, false, es, e1, e2, w c1 _ H1 g (itd_Ig (b := false) e2 e3 e4)⟩
theorem DA.thenI {fl : Rho → Store → Res (List D)} {k : List D → Store → Res (List D)} {Q : List V → Hp → Prop} {R : It → Hp → Prop} (h : DA X W es fl) (r : RelS X.kw c m H) (s : Slo X.kw H c ρ σ) (hb : WantI X W c H σ ((fl ρ m).bind k) R)
    (q : ∀ d m1 c1 v H1, RelS X.kw c1 m1 H1 → Slo X.kw H1 c1 ρ σ → Gd X.kw c c1 m1 H H1 → VDs X.kw H1 c1 v d → WantI X W c H σ (k d m1) R → Q v H1) : WA X es σ H Q := by
  refine h c ρ m σ H Q r s ?_
  cases e : fl ρ m with
  | ok d m1 =>
    rw [e] at hb
    exact fun c1 v H1 g hv => q d m1 c1 v H1 g.rel (g.slots s) g hv hb
  | exc x m1 => rw [e] at hb; exact hb
  | stuck => rw [e] at hb; exact hb
/-- the bounds are asked classically: neither whnf nor the kernel runs into them -/
noncomputable def rngJ (j : Int) (m : Store) : Res (List D) := @ite _ (-(2 ^ 62) ≤ j ∧ j < 2 ^ 62) (Classical.propDecidable _) (.ok (rngL 0 j.toNat) m) .stuck
noncomputable def rngK (ds : List D) (m : Store) : Res (List D) := match ds with
  | [.p (.int j)] => rngJ j m
  | _ => .stuck
noncomputable def rng1I (fl : FI) : FI := fun ρ m => (fl ρ m).bind rngK
theorem di_range1 {fl : FI} (hg : Gl X "range") (hm : X.mg "range" = none) (ha : DA X W [a] fl) (hs : starEach [a] X.env = [(false, eval a X.env)] := by rfl) : DI X W tg (.Call (.Name "range" p) [a] [] pos) (rng1I fl) := fun c ρ m σ H R r s w =>
  wi_of (pi_range1 hg hm pa_w hs) (ha.thenI r s w fun ds m1 c1 vs H1 r1 s1 g1 h1 w1 => by
    unfold rngK at w1
    split at w1
    · rename_i j
      obtain ⟨v, e1, h2⟩ := VDs.onlyOne h1
      subst e1
      cases VD.int.mp h2
      unfold rngJ at w1
      split at w1
      · rename_i hj
        exact ⟨j, rfl, hj.1, hj.2, w1 c1 _ H1 g1 itd_range⟩
      · exact w1.elim
    · exact w1.elim)
noncomputable def rng2J (i j : Int) (m : Store) : Res (List D) := @ite _ ((-(2 ^ 62) ≤ i ∧ i < 2 ^ 62) ∧ -(2 ^ 62) ≤ j ∧ j < 2 ^ 62) (Classical.propDecidable _) (.ok (rngL i (j - i).toNat) m) .stuck
noncomputable def rng2K (ds : List D) (m : Store) : Res (List D) := match ds with
  | [.p (.int i), .p (.int j)] => rng2J i j m
  | _ => .stuck
noncomputable def rng2I (fl : FI) : FI := fun ρ m => (fl ρ m).bind rng2K
theorem di_range2 {fl : FI} (hg : Gl X "range") (hm : X.mg "range" = none) (ha : DA X W [a, b] fl) (hs : starEach [a, b] X.env = [(false, eval a X.env), (false, eval b X.env)] := by rfl) (hs2 : starEach [b] X.env = [(false, eval b X.env)] := by rfl) : DI X W tg (.Call (.Name "range" p) [a, b] [] pos) (rng2I fl) := fun c ρ m σ H R r s w =>
  wi_of (pi_range2 hg hm pa_w hs hs2) (ha.thenI r s w fun ds m1 c1 vs H1 r1 s1 g1 h1 w1 => by
    unfold rng2K at w1
    split at w1
    · rename_i i j
      obtain ⟨v, v', e1, h2, h3⟩ := VDs.two h1
      subst e1
      cases VD.int.mp h2
      cases VD.int.mp h3
      unfold rng2J at w1
      split at w1
      · rename_i hj
        exact ⟨i, j, rfl, ⟨hj.1.1, hj.1.2, hj.2.1, hj.2.2⟩, w1 c1 _ H1 g1 itd_range⟩
      · exact w1.elim
    · exact w1.elim)
def pairs (k : Nat) : List D → List D
  | [] => []
  | d :: ds => mkTup [.p (.int (k : Nat)), d] :: pairs (k + 1) ds
theorem pairs_get : ∀ (ds : List D) (k i : Nat) (d : D), (pairs k ds)[i]? = some d → ∃ d0, ds[i]? = some d0 ∧ d = mkTup [.p (.int ((k + i : Nat) : Int)), d0]
  | [], k, i, d, e => by simp [pairs] at e
  | d0 :: ds, k, 0, d, e => by
    simp only [pairs, List.getElem?_cons_zero, Option.some.injEq] at e
    exact ⟨d0, rfl, e.symm⟩
  | d0 :: ds, k, i + 1, d, e => by
    simp only [pairs, List.getElem?_cons_succ] at e
    obtain ⟨d1, h1, h2⟩ := pairs_get ds (k + 1) i d e
    refine ⟨d1, by simpa using h1, ?_⟩
    rw [h2]
    congr 5
    omega
theorem pairs_length : ∀ (ds : List D) (k : Nat), (pairs k ds).length = ds.length
  | [], _ => rfl
  | d :: ds, k => by simp [pairs, pairs_length ds]
theorem itd_enum {K : KW} {a : Addr} {vs : List V} {ds : List D} (hf : FzL K H a vs) (hv : VDs K H c vs ds) : ItD K c H (Ite K a) (pairs 0 ds) := fun c' m' H' p ex r i => by
  have f := hf.ext ex
  have hv' := VDs.mono ex p _ hv
  refine ⟨fun d e => ?_, fun hl => ⟨vs, f.sq, by rw [hv.length]; rw [pairs_length] at hl; exact hl⟩⟩
  obtain ⟨d0, h0, e0⟩ := pairs_get ds 0 i d e
  obtain ⟨v, h1, h2⟩ := hv'.get h0
  refine ⟨⟨vs, v, f.sq, h1⟩, fun x H'' y => ?_⟩
  obtain ⟨T, x0, e1, nT, e2, y⟩ := y
  have y0 := y vs f.sq
  rw [h1] at y0
  cases y0
  subst e1 e2
  have g : Gd K c' c' m' H' (upd H' T (.tup [.int (i : Nat), v])) := r.lay nT
  refine ⟨g, fun b o e => by rw [upd_ne (ne_of_none e nT)]; exact e, ?_⟩
  rw [e0]
  refine mkTup_ok (vs := [.int (i : Nat), v]) ?_ (SqT.of upd_same)
  unfold VDs
  refine ⟨_, _, rfl, VD.int.mpr (by simp), ?_⟩
  exact VDs.one (g.vd h2)
def enumI (fl : FI) : FI := fun ρ m => (fl ρ m).bind fun ds m1 => match ds with
  | [.p (.list xs)] => .ok (pairs 0 (xs.map D.p)) m1
  | [.lst xs] => .ok (pairs 0 xs) m1
  | _ => .stuck
theorem di_enum {fl : FI} {elts : List Expr} {kk : Nat} {tpos : Pos} (hg : Gl X "enumerate") (hm : X.mg "enumerate" = none) (ha : DA X W [a] fl) (hs : starEach [a] X.env = [(false, eval a X.env)] := by rfl) :
    DI X W (.Tuple elts kk tpos) (.Call (.Name "enumerate" p) [a] [] pos) (enumI fl) := fun c ρ m σ H R r s w =>
  wi_of (pi_enum hg hm pa_w hs) (ha.thenI r s w fun ds m1 c1 vs H1 r1 s1 g1 h1 w1 => by
    split at w1
    · obtain ⟨v, e1, h2⟩ := VDs.onlyOne h1
      subst e1
      unfold VD at h2
      cases h2 with
      | @lst a xs _ hf hq => exact ⟨a, xs, rfl, hf.sq, w1 c1 _ H1 g1 (itd_enum hf (VDs.ofp hq))⟩
    · obtain ⟨v, e1, h2⟩ := VDs.onlyOne h1
      subst e1
      unfold VD at h2
      obtain ⟨a, xs, e1, hf, hq⟩ := h2
      subst e1
      exact ⟨a, xs, rfl, hf.sq, w1 c1 _ H1 g1 (itd_enum hf hq)⟩
    · exact w1.elim)
end
/-! ### loops -/
def forS (g : FG) (body : FS) : List D → Rho → Store → SRes
  | [], ρ, m => .nx ρ m
  | d :: ds, ρ, m => match (g d ρ m).seq body with
    | .nx ρ1 m1 => forS g body ds ρ1 m1
    | .ct ρ1 m1 => forS g body ds ρ1 m1
    | .bk ρ1 m1 => .nx ρ1 m1
    | r => r
def forE (fi : FI) (g : FG) (body : FS) : FS := fun ρ m => (fi ρ m).bindS ρ fun ds m1 => forS g body ds ρ m1
section
variable {X : Cx} {W : WX} {a b e tg iter : Expr} {es : List Expr} {fa fb f : FE} {pos p : Pos} {c c' : Anc} {ρ : Rho} {m m' : Store} {σ : St} {H H' : Hp} {En : Ends} {body : List Stmt} {g : FG} {gb : FS} {fi : FI}
theorem WantS.bnd {k : List D → Store → SRes} {r : Res (List D)} (s : Slo X.kw H c ρ σ) (h : WantS X W c H (r.bindS ρ k) En) {R : It → Hp → Prop} (q : ∀ ds m1, r = .ok ds m1 → WantS X W c H (k ds m1) En → ∀ c' J H', Gd X.kw c c' m1 H H' → ItD X.kw c' H' J ds → R J H') : WantI X W c H σ r R := by
  cases r with
  | ok ds m1 => exact q ds m1 rfl h
  | exc x m1 => exact fun c1 cls dd H1 g hv => h c1 σ cls dd H1 g (g.slots s) hv
  | stuck => exact h
theorem for_at (hp : PassesOwn (model X.prog X.w) X.A X.env X.xe) (hi : ∀ R, WantI X W c H σ (fi ρ m) R → WI X tg iter σ H R) (hg : DG X W tg g) (hb : DSs X W body gb) (hc : X.calm = true) (hs : ∀ x, foldedSetIterable iter X.env x = pure x) (r : RelS X.kw c m H) (s : Slo X.kw H c ρ σ) (w : WantS X W c H (forE fi g gb ρ m) En) : WSt X (.For tg iter body [] pos) En σ H := by
  refine wst_of (ps_for hp hc pi_w pg_w pss_w hs) (hi _ (WantS.bnd s w fun ds m1 e w1 c1 J H1 g1 hJ => ?_))
  have w1 := WantS.shift g1 w1
  refine ⟨fun i mm σ' H' => ∃ c' ρ' m', Gd X.kw c1 c' m' H1 H' ∧ Slo X.kw H' c' ρ' σ' ∧ i ≤ ds.length ∧ mm = ds.length - i ∧ WantS X W c' H' (forS g gb (ds.drop i) ρ' m') En,
    ⟨ds.length, c1, ρ, m1, Gd.refl g1.rel, g1.slots s, Nat.zero_le _, by simp, by simpa using w1⟩, ?_⟩
  rintro i mm σ2 H2 ⟨c2, ρ2, m2, g2, s2, hi2, hmm, w2⟩
  obtain ⟨hgo, hstop⟩ := hJ c2 m2 H2 g2.pre g2.ext g2.rel i
  by_cases hlt : i < ds.length
  · have ed : ds[i]? = some ds[i] := List.getElem?_eq_getElem hlt
    obtain ⟨go, hy⟩ := hgo _ ed
    have w3 : WantS X W c2 H2 (forS g gb (ds[i] :: ds.drop (i + 1)) ρ2 m2) En := by rw [← List.drop_eq_getElem_cons hlt]; exact w2
    refine .inr ⟨go, fun σ' H' => ∃ c' ρ' m', Gd X.kw c1 c' m' H1 H' ∧ Slo X.kw H' c' ρ' σ' ∧ WantS X W c' H' (forS g gb (ds.drop (i + 1)) ρ' m') En, ?_, ?_⟩
    · rintro σ' H' ⟨c', ρ', m', h1, h2, h3⟩
      exact ⟨ds.length - (i + 1), by omega, c', ρ', m', h1, h2, hlt, rfl, h3⟩
    · intro x H3 yl
      obtain ⟨g3, _, hv⟩ := hy x H3 yl
      have w4 := WantS.shift g3 w3
      let N : St → Hp → Prop := fun σ' H' => ∃ c' ρ' m', Gd X.kw c1 c' m' H1 H' ∧ Slo X.kw H' c' ρ' σ' ∧ WantS X W c' H' (forS g gb (ds.drop (i + 1)) ρ' m') En
      refine hg c2 ρ2 m2 σ2 H3 x ds[i] { nx := fun σ' H' => WSs X body { En with nx := N, ct := N, bk := En.nx } σ' H', rt := En.rt, bk := En.nx, ct := N } g3.rel (g3.slots s2) hv ?_
      have w5 : WantS X W c2 H3 (match (g ds[i] ρ2 m2).seq gb with
        | .nx ρ1 m1 => forS g gb (ds.drop (i + 1)) ρ1 m1
        | .ct ρ1 m1 => forS g gb (ds.drop (i + 1)) ρ1 m1
        | .bk ρ1 m1 => .nx ρ1 m1
        | r => r) En := w4
      cases q : g ds[i] ρ2 m2 with
      | nx ρ4 m4 =>
        rw [q] at w5
        intro c4 σ4 H4 g4 s4
        have w6 := WantS.shift g4 w5
        refine hb c4 ρ4 m4 σ4 H4 _ g4.rel s4 ?_
        change WantS X W c4 H4 (match gb ρ4 m4 with
          | .nx ρ1 m1 => forS g gb (ds.drop (i + 1)) ρ1 m1
          | .ct ρ1 m1 => forS g gb (ds.drop (i + 1)) ρ1 m1
          | .bk ρ1 m1 => .nx ρ1 m1
          | r => r) En at w6
        cases q2 : gb ρ4 m4 with
        | nx ρ5 m5 =>
          rw [q2] at w6
          exact fun c5 σ5 H5 g5 s5 => ⟨c5, ρ5, m5, ((g2.trans g3).trans g4).trans g5, s5, WantS.shift g5 w6⟩
        | ct ρ5 m5 =>
          rw [q2] at w6
          exact fun c5 σ5 H5 g5 s5 => ⟨c5, ρ5, m5, ((g2.trans g3).trans g4).trans g5, s5, WantS.shift g5 w6⟩
        | bk ρ5 m5 => rw [q2] at w6; exact w6
        | rt d m5 => rw [q2] at w6; exact w6
        | exc y ρ5 m5 => rw [q2] at w6; exact w6
        | stuck => rw [q2] at w6; exact w6
      | ct ρ5 m5 =>
        rw [q] at w5
        exact fun c5 σ5 H5 g5 s5 => ⟨c5, ρ5, m5, (g2.trans g3).trans g5, s5, WantS.shift g5 w5⟩
      | bk ρ5 m5 => rw [q] at w5; exact w5
      | rt d m5 => rw [q] at w5; exact w5
      | exc y ρ5 m5 => rw [q] at w5; exact w5
      | stuck => rw [q] at w5; exact w5
  · have e : i = ds.length := by omega
    subst e
    refine .inl ⟨hstop (Nat.le_refl _), ?_⟩
    rw [List.drop_length] at w2
    exact w2 c2 σ2 H2 (Gd.refl g2.rel) s2
theorem ds_for (hp : PassesOwn (model X.prog X.w) X.A X.env X.xe) (hi : DI X W tg iter fi) (hg : DG X W tg g) (hb : DSs X W body gb) (hc : X.calm = true := by rfl) (hs : ∀ x, foldedSetIterable iter X.env x = pure x := by intro _; rfl) : DS X W (.For tg iter body [] pos) (forE fi g gb) := fun c ρ m σ H En r s w =>
  for_at hp (fun R => hi c ρ m σ H R r s) hg hb hc hs r s w
def whileS (t : Rho → Store → Res Bool) (body : FS) : Nat → Rho → Store → SRes
  | 0, _, _ => .stuck
  | n + 1, ρ, m => (t ρ m).bindS ρ fun k m1 => if k then (match body ρ m1 with
      | .nx ρ1 m2 => whileS t body n ρ1 m2
      | .ct ρ1 m2 => whileS t body n ρ1 m2
      | .bk ρ1 m2 => .nx ρ1 m2
      | r => r) else .nx ρ m1
theorem ds_while (n : Nat) {ft : Rho → Store → Res Bool} (hp : PassesOwn (model X.prog X.w) X.A X.env X.xe) (ht : DT X W e ft) (hb : DSs X W body gb) : DS X W (.While e body [] pos) (whileS ft gb n) := fun c ρ m σ H En r s w => by
  refine wst_of (ps_while hp pt_w pss_w) ?_
  refine ⟨fun k σ' H' => ∃ c' ρ' m', RelS X.kw c' m' H' ∧ Slo X.kw H' c' ρ' σ' ∧ WantS X W c' H' (whileS ft gb k ρ' m') En, ⟨n, c, ρ, m, r, s, w⟩, ?_⟩
  rintro k σ1 H1 ⟨c1, ρ1, m1, r1, s1, w1⟩
  cases k with
  | zero => exact w1.elim
  | succ k =>
    refine ht.thenS r1 s1 w1 fun b m2 c2 H2 r2 s2 g2 w2 => ?_
    cases b with
    | false => rw [if_neg Bool.false_ne_true]; exact w2 c2 σ1 H2 (Gd.refl r2) s2
    | true =>
      rw [if_pos rfl]
      refine ⟨fun σ' H' => ∃ c' ρ' m', RelS X.kw c' m' H' ∧ Slo X.kw H' c' ρ' σ' ∧ WantS X W c' H' (whileS ft gb k ρ' m') En, fun σ' H' h => ⟨k, Nat.lt_succ_self _, h⟩, ?_⟩
      refine hb c2 ρ1 m2 σ1 H2 _ r2 s2 ?_
      change WantS X W c2 H2 (match gb ρ1 m2 with
        | .nx ρ1 m2 => whileS ft gb k ρ1 m2
        | .ct ρ1 m2 => whileS ft gb k ρ1 m2
        | .bk ρ1 m2 => .nx ρ1 m2
        | r => r) En at w2
      cases q2 : gb ρ1 m2 with
      | nx ρ5 m5 =>
        rw [q2] at w2
        exact fun c5 σ5 H5 g5 s5 => ⟨c5, ρ5, m5, g5.rel, s5, WantS.shift g5 w2⟩
      | ct ρ5 m5 =>
        rw [q2] at w2
        exact fun c5 σ5 H5 g5 s5 => ⟨c5, ρ5, m5, g5.rel, s5, WantS.shift g5 w2⟩
      | bk ρ5 m5 => rw [q2] at w2; exact w2
      | rt d m5 => rw [q2] at w2; exact w2
      | exc y ρ5 m5 => rw [q2] at w2; exact w2
      | stuck => rw [q2] at w2; exact w2
end
end L2.Dn
namespace L2.Dn
open PySem PySem.Spec PyProof.Rows L2
/-! ### comprehensions -/
abbrev Wno : WX := fun _ _ _ _ => False
/-- a tracked list beside the cells -/
theorem RelS.side {K : KW} {c : Anc} {m : Store} {H : Hp} {a : Addr} {xs ys : List V} (r : RelS K c m H) (hn : ¬ Has c a) (ha : H a = some (.lst xs)) : RelS K c m (upd H a (.lst ys)) := by
  have ex : Ext H (upd H a (.lst ys)) := Ext.put ha
  exact ⟨r.len, r.inj, fun i b x h1 h2 => (r.at_ i b x h1 h2).mono ex (Pre.refl _) fun zs _ e => by rw [upd_ne (fun z => hn ⟨i, by rw [← z]; exact h1⟩)]; exact e⟩
theorem newL_at {X : Cx} {W : WX} {σ : St} {c c' : Anc} {H H' : Hp} {m' : Store} {z : Md} {ds : List D} {xs : List V} {a : Addr} {Q : VK} (g : Gd X.kw c c' m' H H') (h0 : H a = none) (hn : ¬ Has c' a) (ha : H' a = some (.lst xs)) (hv : VDs X.kw H' c' xs ds) (h : Want X W c H σ (newL z ds m') Q) : QF Q (.ref a) H' := by
  have nc : ∀ b, Has c b → b ≠ a := fun b hb e => hn (e ▸ hb.pre g.pre)
  have neF : ∀ b o, H b = some o → b ≠ a := fun b o e z => by rw [z, h0] at e; cases e
  cases z with
  | z =>
    right
    refine ⟨a, _, rfl, ha, trivial, fun o => ?_⟩
    have ex : Ext H' (upd H' a (.frz o (.lst xs))) := Ext.put ha
    have g2 : Gd X.kw c c' m' H (upd H' a (.frz o (.lst xs))) := by
      refine ⟨g.pre, g.ext.trans ex, g.new, fun b u hb e => by rw [upd_ne (neF b u e)]; exact g.frame b u hb e, g.rel.len, g.rel.inj, fun i b x h1 h2 => (g.rel.at_ i b x h1 h2).mono ex (Pre.refl _) fun zs _ e => ?_⟩
      rw [upd_ne (fun z => hn ⟨i, by rw [← z]; exact h1⟩)]
      exact e
    exact h c' _ _ g2 (mkLst_ok (VDs.mono ex (Pre.refl _) _ hv) (.inl ⟨o, upd_same⟩))
  | l =>
    left
    cases hl : nxs ds with
    | false => rw [newL, hl] at h; exact h.elim
    | true =>
      rw [newL, hl] at h
      have g2 : Gd X.kw c (c'.push a true) (m'.push (.lst ds) true) H H' := ⟨g.pre.trans (push_pre _ _ _), g.ext, fun b hb => (has_push hb).elim (g.new b) fun e => .inr (by rw [e]; exact h0), g.frame, g.rel.adopt true hn ha (hv.cold hl)⟩
      refine h _ _ _ g2 ?_
      unfold VD
      exact ⟨a, by rw [← next_eq g.rel]; exact push_next _ _ _, rfl⟩
  | g =>
    left
    cases hl : nls ds with
    | false => rw [newL, hl] at h; exact h.elim
    | true =>
      rw [newL, hl] at h
      have g2 : Gd X.kw c (c'.push a false) (m'.push (.lst ds) false) H H' := ⟨g.pre.trans (push_pre _ _ _), g.ext, fun b hb => (has_push hb).elim (g.new b) fun e => .inr (by rw [e]; exact h0), g.frame, g.rel.adopt false hn ha ((VDs.nl ds hv hl).cold (nxs_of_nls _ hl))⟩
      refine h _ _ _ g2 ?_
      unfold VD
      exact ⟨a, by rw [← next_eq g.rel]; exact push_next _ _ _, rfl⟩
def wipeR (ρ : Rho) : List Nat → Rho
  | [] => ρ
  | v :: vs => (wipeR ρ vs).set v none
/-- the target of a comprehension: one name, or a tuple of names -/
def setAll : List Nat → List D → Rho → Option Rho
  | [], [], ρ => some ρ
  | i :: is, d :: ds, ρ => setAll is ds (ρ.set i (some d))
  | _, _, _ => none
def noX {α : Type} : Res α → Res α
  | .exc _ _ => .stuck
  | r => r
def lcM (g : D → Rho → Option Rho) (t : Rho → Store → Res Bool) (fe : FE) (ρ : Rho) : List D → Store → Res (List D)
  | [], m => .ok [] m
  | d :: ds, m => match g d ρ with
    | some ρ1 => (noX (t ρ1 m)).bind fun b m2 => if b then (noX (fe ρ1 m2)).bind fun y m3 => (lcM g t fe ρ ds m3).bind fun ys m4 => .ok (y :: ys) m4 else lcM g t fe ρ ds m2
    | none => .stuck
def lcE (z : Md) (vs : List Nat) (fi : FI) (g : D → Rho → Option Rho) (t : Rho → Store → Res Bool) (fe : FE) : FE := fun ρ m => (fi ρ m).bind fun ds m1 => if ds.length ≤ sizeLine then (lcM g t fe (wipeR ρ vs) ds m1).bind fun ys m2 => newL z ys m2 else .stuck
def oneG (i : Nat) : D → Rho → Option Rho := fun d ρ => some (ρ.set i (some d))
def manyG (is : List Nat) : D → Rho → Option Rho := fun d ρ => match tupOf d with
  | some ds => setAll is ds ρ
  | none => none
section
variable {X : Cx} {W : WX} {a b e tg iter elt : Expr} {ifs : List Expr} {scope : Scope} {own : List (Str × Nat)} {fa fb f fe : FE} {ft : Rho → Store → Res Bool} {pos p : Pos} {c c' : Anc} {ρ : Rho} {m m' : Store} {σ : St} {H H' : Hp} {fi : FI}
theorem Slo.wipe {K : KW} (s : Slo K H c ρ σ) : ∀ vs : List Nat, Slo K H c (wipeR ρ vs) (wipe σ vs)
  | [] => s
  | v :: vs => by
    have ih := Slo.wipe s vs
    unfold wipeR L2.wipe
    refine ⟨by simp [ih.len], fun j d' q => ?_⟩
    by_cases hj : j = v
    · subst hj
      have hl : j < ((wipeR ρ vs).set j none).length := (List.getElem?_eq_some_iff.mp q).1
      rw [List.getElem?_set_self (by simpa using hl)] at q
      cases q
    · rw [List.getElem?_set_ne (Ne.symm hj)] at q ⊢
      exact ih.at_ j d' q
theorem wipe_len' (σ : St) (vs : List Nat) : (wipe σ vs).length = σ.length := wipe_length σ vs
theorem wipe_get : ∀ {vs : List Nat} {j : Nat}, j ∈ vs → ∀ σ : St, j < σ.length → (wipe σ vs)[j]? = some none
  | v :: vs, j, hj, σ, hl => by
    unfold L2.wipe
    by_cases h : j = v
    · subst h
      exact List.getElem?_set_self (by rw [wipe_length]; exact hl)
    · rw [List.getElem?_set_ne (Ne.symm h)]
      rcases List.mem_cons.mp hj with z | z
      · exact absurd z h
      · exact wipe_get z σ hl
  | [], j, hj, _, _ => by cases hj
theorem wipe_ext {vs : List Nat} {σ σ' : St} (hl : σ'.length = σ.length) (h : ∀ j, j ∉ vs → σ'[j]? = σ[j]?) : wipe σ' vs = wipe σ vs := by
  refine List.ext_getElem? fun j => ?_
  by_cases hj : j ∈ vs
  · by_cases hk : j < σ.length
    · rw [wipe_get hj σ hk, wipe_get hj σ' (by rw [hl]; exact hk)]
    · rw [List.getElem?_eq_none (by rw [wipe_length]; omega), List.getElem?_eq_none (by rw [wipe_length]; omega)]
  · rw [wipe_out hj, wipe_out hj]
    exact h j hj
/-- a target and what it does to the slots -/
def DLg (X : Cx) (tg : Expr) (is : List Nat) (g : D → Rho → Option Rho) : Prop := ∀ (c : Anc) (ρ ρ' : Rho) (σ : St) (H : Hp) (v : V) (d : D) (R : St → Hp → Prop), Slo X.kw H c ρ σ → VD X.kw H c v d → g d ρ = some ρ' →
  (∀ σ', Slo X.kw H c ρ' σ' → σ'.length = σ.length → (∀ j, j ∉ is → σ'[j]? = σ[j]?) → R σ' H) → WG X tg v σ H R
theorem dl_one (i : Nat) {x : Str} (hN : X.N.Nodup) (hi : X.N[i]? = some x := by rfl) (hx : Loc X.env.scope x := by first | exact Or.inl rfl | exact Or.inr rfl) (hf : X.fn x = true ∨ X.env.scope.names.lookup x = some .local := by first | exact .inl rfl | exact .inr rfl | assumption) : DLg X (.Name x pos) [i] (oneG i) :=
  fun c ρ ρ' σ H v d R s hv e q => by
    cases e
    refine wg_of (pg_name hN hi hx hf) (q _ (s.set i hv) (by simp) fun j hj => ?_)
    rw [List.getElem?_set_ne (fun z => hj (by simp [z]))]
def DLgs (X : Cx) (ts : List Expr) (is : List Nat) : Prop := ∀ (c : Anc) (ρ ρ' : Rho) (σ : St) (H : Hp) (vs : List V) (ds : List D) (R : St → Hp → Prop), Slo X.kw H c ρ σ → VDs X.kw H c vs ds → setAll is ds ρ = some ρ' →
  (∀ σ', Slo X.kw H c ρ' σ' → σ'.length = σ.length → (∀ j, j ∉ is → σ'[j]? = σ[j]?) → R σ' H) → WGs X ts vs σ H R
theorem dls_nil : DLgs X [] [] := fun c ρ ρ' σ H vs ds R s hv e q => by
  cases ds with
  | nil =>
    cases e
    unfold VDs at hv
    subst hv
    exact wgs_of pgs_nil ⟨rfl, q σ s rfl fun _ _ => rfl⟩
  | cons d ds => cases e
theorem dls_cons (i : Nat) {x : Str} {ts : List Expr} {is : List Nat} (hr : DLgs X ts is) (hN : X.N.Nodup) (hi : X.N[i]? = some x := by rfl) (hx : Loc X.env.scope x := by first | exact Or.inl rfl | exact Or.inr rfl) (hf : X.fn x = true ∨ X.env.scope.names.lookup x = some .local := by first | exact .inl rfl | exact .inr rfl | assumption)
    (hs : (assignEach (.Name x pos :: ts) X.env).map (·.2) = assign (.Name x pos) X.env :: (assignEach ts X.env).map (·.2) := by rfl) : DLgs X (.Name x pos :: ts) (i :: is) := fun c ρ ρ' σ H vs ds R s hv e q => by
  cases ds with
  | nil => cases e
  | cons d ds =>
    unfold VDs at hv
    obtain ⟨v, vr, e1, h1, h2⟩ := hv
    subst e1
    have e : setAll is ds (ρ.set i (some d)) = some ρ' := e
    refine wgs_of (pgs_cons (pg_name hN hi hx hf) pgs_w hs) ⟨v, vr, rfl, ?_⟩
    refine hr c _ ρ' _ H vr ds R (s.set i h1) h2 e fun σ' s' hl hj => q σ' s' (by simpa using hl) fun j hm => ?_
    rw [hj j (fun z => hm (List.mem_cons_of_mem _ z)), List.getElem?_set_ne (fun z => hm (by rw [z]; exact List.mem_cons_self))]
theorem dl_many {ts : List Expr} {is : List Nat} {k n : Nat} (h : DLgs X ts is) (hn : (assignEach ts X.env).length = n := by rfl) (hni : is.length = n := by rfl) (hc : X.calm = true := by rfl) (hst : (assignEach ts X.env).findIdx? (·.1) = none := by rfl) : DLg X (.Tuple ts k pos) is (manyG is) :=
  fun c ρ ρ' σ H v d R s hv e q => by
    unfold manyG at e
    split at e
    · rename_i ds hd
      obtain ⟨a, vs, e1, h2, h3⟩ := tupOf_ok hv hd
      have hl : ∀ {is : List Nat} {ds : List D} {ρ ρ' : Rho}, setAll is ds ρ = some ρ' → ds.length = is.length := by
        intro is
        induction is with
        | nil => intro ds ρ ρ' e; cases ds with | nil => rfl | cons => cases e
        | cons i is ih => intro ds ρ ρ' e; cases ds with | nil => cases e | cons d ds => simp [ih (show setAll is ds (ρ.set i (some d)) = some ρ' from e)]
      exact wg_of (pg_tup hc pgs_w hn hst) ⟨a, vs, e1, h2, by rw [h3.length, hl e]; exact hni, h c ρ ρ' σ H vs ds R s h3 e q⟩
    · cases e
/-- the tests of a comprehension -/
abbrev testsOf (l : List Expr) (v : Env) : Sem Bool :=
  forIn l true fun x k => if k = true then do
      let w ← isTrue x v (eval x v)
      pure (ForInStep.yield w)
    else pure (ForInStep.yield k)
def DTs (X : Cx) (ifs : List Expr) (ft : Rho → Store → Res Bool) : Prop := ∀ (c : Anc) (ρ : Rho) (m : Store) (σ : St) (H : Hp) (Q : Bool → Hp → Prop), RelS X.kw c m H → Slo X.kw H c ρ σ → WantB X Wno c H σ (ft ρ m) Q →
  ∀ (pins : List (Addr × Obj)) (s : Shared), Inv X pins σ H s → wpAny (model X.prog X.w) X.A (testsOf ifs X.env) (TP X pins σ Q) X.xe s
def yesT : Rho → Store → Res Bool := fun _ m => .ok true m
theorem dts_nil : DTs X [] yesT := fun c ρ m σ H Q r s w pins st I => pts_nil.run pins st σ H Q I (w c H (Gd.refl r))
theorem dts_one (h : DT X Wno e ft) : DTs X [e] ft := fun c ρ m σ H Q r s w pins st I => (pts_one pt_w).run pins st σ H Q I (h c ρ m σ H Q r s w)
theorem noX_want {β : Type} {r : Res Bool} {Q : Bool → Hp → Prop} (h : WantB X W c H σ (noX r) Q) : WantB X Wno c H σ r Q := by
  cases r with
  | ok => exact h
  | exc => exact h.elim
  | stuck => exact h
/-- readings of a comprehension's parts, in whatever block they run -/
def rG (X : Cx) (scope : Scope) (tg : Expr) : TG := fun v σ H R => ∀ s0 H0 C cl fp, WG (X.blk s0 H0 scope (compEnvC scope cl C X.env) fp) tg v σ H R
def rT (X : Cx) (scope : Scope) (ifs : List Expr) : TT := fun σ H Q => ∀ s0 H0 C cl fp (pins : List (Addr × Obj)) (s : Shared), Inv (X.blk s0 H0 scope (compEnvC scope cl C X.env) fp) pins σ H s →
  wpAny (model X.prog X.w) X.A (testsOf ifs (compEnvC scope cl C X.env)) (TP (X.blk s0 H0 scope (compEnvC scope cl C X.env) fp) pins σ Q) (fun _ _ => False) s
def rE (X : Cx) (scope : Scope) (elt : Expr) : TE := fun σ H Q => ∀ s0 H0 C cl fp, WE (X.blk s0 H0 scope (compEnvC scope cl C X.env) fp) elt σ H Q
theorem pg_r (s : Shared) (H : Hp) (C : Addr) (cl : List (Str × Addr)) (fp : List Addr) : PG (X.blk s H scope (compEnvC scope cl C X.env) fp) tg (rG X scope tg) := ⟨fun pins s1 σ H1 v u Q I r h => (h s H C cl fp).go pins s1 u I r⟩
theorem pt_r (s : Shared) (H : Hp) (C : Addr) (cl : List (Str × Addr)) (fp : List Addr) : PTs (X.blk s H scope (compEnvC scope cl C X.env) fp) ifs (rT X scope ifs) := ⟨fun pins s1 σ H1 Q I h => h s H C cl fp pins s1 I⟩
theorem pe_r (s : Shared) (H : Hp) (C : Addr) (cl : List (Str × Addr)) (fp : List Addr) : PE (X.blk s H scope (compEnvC scope cl C X.env) fp) elt (rE X scope elt) := ⟨fun pins s1 σ H1 Q I h => (h s H C cl fp).go pins s1 I⟩
theorem lc_read {z : Md} {is : List Nat} {g : D → Rho → Option Rho} {own : List (Str × Nat)} {Q Q' : VK} (hi : ∀ R, WantI X W c H σ (fi ρ m) R → WI X tg iter σ H R)
    (hg : ∀ (s : Shared) (H : Hp) (C : Addr) (cl : List (Str × Addr)) (fp : List Addr), DLg (X.blk s H scope (compEnvC scope cl C X.env) fp) tg is g)
    (ht : ∀ (s : Shared) (H : Hp) (C : Addr) (cl : List (Str × Addr)) (fp : List Addr), DTs (X.blk s H scope (compEnvC scope cl C X.env) fp) ifs ft)
    (he : ∀ (s : Shared) (H : Hp) (C : Addr) (cl : List (Str × Addr)) (fp : List Addr), DE (X.blk s H scope (compEnvC scope cl C X.env) fp) Wno elt fe)
    (hsub : ∀ i ∈ is, i ∈ own.map (·.2)) (hc : X.calm = true) (r : RelS X.kw c m H) (s : Slo X.kw H c ρ σ) (w : Want X W c H σ (lcE z (own.map (·.2)) fi g ft fe ρ m) Q) (hq : ∀ v H, QF Q v H → Q' v H) :
    tLc (WI X tg iter) (rG X scope tg) (rT X scope ifs) (rE X scope elt) (own.map (·.2)) σ H Q' := by
  have hk : ∀ s0 H0 cenv fp, (X.blk s0 H0 scope cenv fp).kw = X.kw := fun s0 H0 cenv fp => by simp [Cx.kw, hc]
  refine hi _ ?_
  unfold lcE at w
  cases q : fi ρ m with
  | stuck => rw [q] at w; exact w.elim
  | exc x m1 => rw [q] at w; exact w
  | ok ds m1 =>
    rw [q] at w
    intro c1 J H1 g1 hJ D hD
    have w : Want X W c H σ (if ds.length ≤ sizeLine then (lcM g ft fe (wipeR ρ (own.map (·.2))) ds m1).bind fun ys m2 => newL z ys m2 else .stuck) Q := w
    by_cases hz : ds.length ≤ sizeLine
    · rw [if_pos hz] at w
      have w1 := Want.shift g1 w
      have nD : ¬ Has c1 D := g1.rel.not hD
      have s1 := (g1.slots s).wipe (own.map (·.2))
      -- the rest of the run, from the items that are left and those that are made
      let Rest : Nat → Hp → List V → Prop := fun i H' acc => ∃ c' m' ys, Gd X.kw c1 c' m' H1 H' ∧ ¬ Has c' D ∧ H' D = some (.lst acc) ∧ VDs X.kw H' c' acc ys ∧ acc.length ≤ i ∧
        Want X W c1 H1 σ ((lcM g ft fe (wipeR ρ (own.map (·.2))) (ds.drop i) m').bind fun zs m2 => newL z (ys ++ zs) m2) Q
      refine ⟨fun i mm H' => i ≤ ds.length ∧ mm = ds.length - i ∧ ∃ acc, Rest i H' acc, ⟨ds.length, Nat.zero_le _, by simp, [], c1, m1, [], ?_, nD, upd_same, by unfold VDs; rfl, Nat.le_refl _, by simpa using w1⟩, ?_⟩
      · exact g1.rel.lay hD
      · rintro i mm H2 ⟨hi2, hmm, acc, c2, m2, ys, g2, nD2, hD2, hv2, hl2, w2⟩
        obtain ⟨hgo, hstop⟩ := hJ c2 m2 H2 g2.pre g2.ext g2.rel i
        by_cases hlt : i < ds.length
        · have ed : ds[i]? = some ds[i] := List.getElem?_eq_getElem hlt
          obtain ⟨go, hy⟩ := hgo _ ed
          have e1 : ds.drop i = ds[i] :: ds.drop (i + 1) := List.drop_eq_getElem_cons hlt
          rw [e1] at w2
          refine .inr ⟨go, fun H' => ∃ acc, Rest (i + 1) H' acc, fun H' h => ⟨ds.length - (i + 1), by omega, hlt, rfl, h⟩, fun x H3 yl => ?_⟩
          obtain ⟨g3, k3, hv⟩ := hy x H3 yl
          have g23 := g2.trans g3
          have hD3 : H3 D = some (.lst acc) := k3 D _ hD2
          intro s0 H0 C cl fp
          cases q1 : g ds[i] (wipeR ρ (own.map (·.2))) with
          | none => simp only [lcM, q1, Res.bind] at w2; exact w2.elim
          | some ρ1 =>
            refine hg s0 H0 C cl fp c2 _ ρ1 _ H3 x ds[i] _ (by rw [hk]; exact g23.slots s1) (by rw [hk]; exact hv) q1 fun σ1 s3 hl hj => ⟨?_, ?_⟩
            · rw [show wipe σ (own.map (·.2)) = wipe (wipe σ (own.map (·.2))) (own.map (·.2)) from (wipe_ext (wipe_length _ _) fun j hj => wipe_out hj).symm]
              exact wipe_ext hl fun j hm => hj j fun z => hm (hsub j z)
            · intro s4 H4 C4 cl4 fp4 pins4 st4 I4
              simp only [lcM, q1] at w2
              rw [hk] at s3
              refine ht s4 H4 C4 cl4 fp4 c2 ρ1 m2 σ1 H3 _ (by rw [hk]; exact g3.rel) (by rw [hk]; exact s3) ?_ pins4 st4 I4
              cases q2 : ft ρ1 m2 with
              | stuck => simp only [q2, noX, Res.bind] at w2; exact w2.elim
              | exc y m5 => simp only [q2, noX, Res.bind] at w2; exact w2.elim
              | ok k m5 =>
                intro c5 H5 g5
                rw [hk] at g5
                have g25 := g23.trans g5
                have hD5 : H5 D = some (.lst acc) := g5.frame D _ nD2 hD3
                have nD5 : ¬ Has c5 D := fun z => (g5.new D z).elim nD2 fun e => by rw [hD3] at e; cases e
                simp only [q2, noX, Res.bind] at w2
                cases k with
                | false =>
                  rw [if_neg Bool.false_ne_true]
                  exact ⟨acc, c5, m5, ys, g25, nD5, hD5, g5.vds (g3.vds hv2), Nat.le_succ_of_le hl2, w2⟩
                | true =>
                  rw [if_pos rfl]
                  intro s6 H6 C6 cl6 fp6
                  refine he s6 H6 C6 cl6 fp6 c5 ρ1 m5 σ1 H5 _ (by rw [hk]; exact g5.rel) (by rw [hk]; exact g5.slots s3) ?_
                  cases q3 : fe ρ1 m5 with
                  | stuck => simp only [q3, noX, if_true, Res.bind] at w2; exact w2.elim
                  | exc y m7 => simp only [q3, noX, if_true, Res.bind] at w2; exact w2.elim
                  | ok y m7 =>
                    simp only [q3, noX, if_true, Res.bind] at w2
                    intro c7 vy H7 g7 hy7
                    rw [hk] at g7 hy7
                    have g27 := g25.trans g7
                    have hD7 : H7 D = some (.lst acc) := g7.frame D _ nD5 hD5
                    have nD7 : ¬ Has c7 D := fun z => (g7.new D z).elim nD5 fun e => by rw [hD5] at e; cases e
                    refine ⟨acc, hD7, by omega, acc ++ [vy], c7, m7, ys ++ [y], ?_, nD7, upd_same, ?_, by simpa using hl2, ?_⟩
                    · have ex : Ext H7 (upd H7 D (.lst (acc ++ [vy]))) := Ext.put hD7
                      exact ⟨g27.pre, g27.ext.trans ex, g27.new, fun b u hb e => by rw [upd_ne (fun z => by rw [z, hD] at e; cases e)]; exact g27.frame b u hb e, g27.rel.side nD7 hD7⟩
                    · have ex : Ext H7 (upd H7 D (.lst (acc ++ [vy]))) := Ext.put hD7
                      exact VDs.mono ex (Pre.refl _) _ ((g7.vds (g5.vds (g3.vds hv2))).append (VDs.one hy7))
                    · cases q4 : lcM g ft fe (wipeR ρ (own.map (·.2))) (ds.drop (i + 1)) m7 with
                      | ok zs m8 => simp only [q4, Res.bind] at w2 ⊢; rw [List.append_assoc]; exact w2
                      | exc y m8 => simp only [q4, Res.bind] at w2 ⊢; exact w2
                      | stuck => simp only [q4, Res.bind] at w2 ⊢; exact w2
        · have e : i = ds.length := by omega
          subst e
          refine .inl ⟨hstop (Nat.le_refl _), ?_⟩
          rw [List.drop_length] at w2
          have w3 : Want X W c1 H1 σ (newL z ys m2) Q := by simpa [lcM, Res.bind] using w2
          exact hq _ _ (newL_at g2 hD nD2 hD2 hv2 w3)
    · rw [if_neg hz] at w; exact w.elim
theorem de_lc (z : Md) {is : List Nat} {g : D → Rho → Option Rho} (own : List (Str × Nat)) (hN : X.N.Nodup) (hi : DI X W tg iter fi) (ok : blkC X.N X.env.scope scope own = true)
    (hg : ∀ (s : Shared) (H : Hp) (C : Addr) (cl : List (Str × Addr)) (fp : List Addr), DLg (X.blk s H scope (compEnvC scope cl C X.env) fp) tg is g)
    (ht : ∀ (s : Shared) (H : Hp) (C : Addr) (cl : List (Str × Addr)) (fp : List Addr), DTs (X.blk s H scope (compEnvC scope cl C X.env) fp) ifs ft)
    (he : ∀ (s : Shared) (H : Hp) (C : Addr) (cl : List (Str × Addr)) (fp : List Addr), DE (X.blk s H scope (compEnvC scope cl C X.env) fp) Wno elt fe)
    (hsub : ∀ i ∈ is, i ∈ own.map (·.2) := by decide) (hc : X.calm = true := by rfl) (hs : ∀ x, foldedSetIterable iter X.env x = pure x := by intro _; rfl) :
    DE X W (.ListComp elt [⟨tg, iter, ifs, 0⟩] scope pos) (lcE z (own.map (·.2)) fi g ft fe) := fun c ρ m σ H Q r s w =>
  WE.frz (we_of (pe_lc hc hN pi_w (blkOk_by ok) pg_r pt_r pe_r hs) (lc_read (fun R => hi c ρ m σ H R r s) hg ht he hsub hc r s w fun _ _ h => h))
/-- the same ghost step behind a statement -/
def nxF (R : St → Hp → Prop) : St → Hp → Prop := fun σ H => R σ H ∨ ∃ a u, H a = some u ∧ Mut (some u) ∧ ∀ o, R σ (upd H a (.frz o u))
theorem WSt.frz {st : Stmt} {En : Ends} (h : WSt X st { En with nx := nxF En.nx } σ H) : WSt X st En σ H := .mk fun pins s I => thn (h.go pins s I) fun f s' q => by
  cases f with
  | next =>
    obtain ⟨σ', H', I', q | ⟨a, xs, h1, mu, q⟩⟩ := q
    · exact ⟨σ', H', I', q⟩
    · obtain ⟨o, I2⟩ := Inv.lock I' h1 mu
      exact ⟨σ', _, I2, q o⟩
  | brk => exact q
  | cont => exact q
  | ret v => exact q
theorem ds_setLc (z : Md) (i : Nat) {y : Str} {py spos : Pos} {is : List Nat} {g : D → Rho → Option Rho} (own : List (Str × Nat)) (hN : X.N.Nodup) (hi : DI X W tg iter fi) (ok : blkC X.N X.env.scope scope own = true)
    (hg : ∀ (s : Shared) (H : Hp) (C : Addr) (cl : List (Str × Addr)) (fp : List Addr), DLg (X.blk s H scope (compEnvC scope cl C X.env) fp) tg is g)
    (ht : ∀ (s : Shared) (H : Hp) (C : Addr) (cl : List (Str × Addr)) (fp : List Addr), DTs (X.blk s H scope (compEnvC scope cl C X.env) fp) ifs ft)
    (he : ∀ (s : Shared) (H : Hp) (C : Addr) (cl : List (Str × Addr)) (fp : List Addr), DE (X.blk s H scope (compEnvC scope cl C X.env) fp) Wno elt fe)
    (hsw : swapsWith (.ListComp elt [⟨tg, iter, ifs, 0⟩] scope pos) (some (.Name y py)) spos.line X.env = pure true)
    (hy : X.N[i]? = some y := by rfl) (hyl : X.env.scope.names.lookup y = some .local := by rfl)
    (hsub : ∀ i ∈ is, i ∈ own.map (·.2) := by decide) (hc : X.calm = true := by rfl) (hs : ∀ x, foldedSetIterable iter X.env x = pure x := by intro _; rfl) :
    DS X W (.Assign [.Name y py] (.ListComp elt [⟨tg, iter, ifs, 0⟩] scope pos) spos) (setS i (lcE z (own.map (·.2)) fi g ft fe)) := fun c ρ m σ H En r s w => by
  refine WSt.frz (wst_of (ps_setLc hc hN hy hyl hsw pi_w (blkOk_by ok) pg_r pt_r pe_r hs) ?_)
  refine lc_read (z := z) (Q := fun v H1 => En.nx (σ.set i (some v)) H1) (fun R => hi c ρ m σ H R r s) hg ht he hsub hc r s ?_ fun v H1 h => ?_
  · unfold setS at w
    cases q : lcE z (own.map (·.2)) fi g ft fe ρ m with
    | ok d m1 =>
      rw [q] at w
      exact fun c1 v H1 g1 hv => w c1 _ H1 g1 ((g1.slots s).set i hv)
    | exc x m1 =>
      rw [q] at w
      exact fun c1 cls dd H1 g1 hv => w c1 σ cls dd H1 g1 (g1.slots s) hv
    | stuck => rw [q] at w; exact w
  · rcases h with h | ⟨a, xs, e1, e2, mu, h⟩
    · exact .inl h
    · exact .inr ⟨a, xs, e2, mu, h⟩
end
end L2.Dn
namespace L2.Dn
open PySem PySem.Spec PyProof.Rows L2
/-! ### defs and their calls -/
inductive RG where
  | ok (d : D) (g : List Cell)
  | exc (x : Exn) (g : List Cell)
  | stuck
abbrev Den := List D → List Cell → RG
def RG.res (r : RG) (l : List Cell) : Res D := match r with
  | .ok d g => .ok d ⟨g, l⟩
  | .exc x g => .exc x ⟨g, l⟩
  | .stuck => .stuck
/-- what a def promises by its denotation -/
def spD (K : KW) (n : Nat) (den : Den) : Sp := fun vs H Q E => ∃ (cg : List Addr) (ds : List D) (g : List Cell), ds.length = n ∧ RelS K ⟨cg, []⟩ ⟨g, []⟩ H ∧ VDs K H ⟨cg, []⟩ vs ds ∧ (match den ds g with
  | .ok d g' => ∀ cg' v H', Gd K ⟨cg, []⟩ ⟨cg', []⟩ ⟨g', []⟩ H H' → VD K H' ⟨cg', []⟩ v d → Q v H'
  | .exc x g' => ∀ cg' cls dd H', Gd K ⟨cg, []⟩ ⟨cg', []⟩ ⟨g', []⟩ H H' → ExcV K H' ⟨cg', []⟩ x cls dd → E cls dd H'
  | .stuck => False)
/-- how a def's body ends -/
def fin : SRes → RG
  | .rt d m => if nl d then .ok d m.g else .stuck
  | .nx _ m => .ok (.p .none) m.g
  | .exc x _ m => if nls (x.fs.map (·.2)) then .exc x m.g else .stuck
  | _ => .stuck
def fnD (n : Nat) (body : FS) : Den := fun ds g => fin (body (ds.map some ++ List.replicate (n - ds.length) none) ⟨g, []⟩)
section
variable {K : KW} {c c' : Anc} {m m' : Store} {H H' : Hp}
theorem RelS.glob (r : RelS K c m H) : RelS K (glob c) (glob m) H := by
  refine ⟨⟨r.len.1, rfl⟩, fun i j a h1 h2 => ?_, fun i a x h1 h2 => ?_⟩
  · cases i with
    | l i => cases h1
    | g i =>
      cases j with
      | l j => cases h2
      | g j => exact r.inj (.g i) (.g j) a h1 h2
  · cases i with
    | l i => cases h1
    | g i => exact r.at_ (.g i) a x h1 h2
theorem Gd.glob (g : Gd K (glob c) c' m' H H') : Gd K (glob c) (glob c') (glob m') H H' := by
  refine ⟨⟨g.pre.1, List.prefix_refl _⟩, g.ext, fun a ha => ?_, g.frame, g.rel.glob⟩
  obtain ⟨i, e⟩ := ha
  exact g.new a ⟨i, pre_get (glob_pre c') e⟩
theorem Has.glob {a : Addr} (h : Has (glob c) a) : Has c a := h.pre (glob_pre c)
theorem CellR.notNone {K : KW} {H : Hp} {c : Anc} {a : Addr} {x : Cell} (h : CellR K H c a x) : H a ≠ none := fun z => by
  cases x with
  | gone => obtain ⟨o, u, q⟩ := h; rw [z] at q; cases q
  | lst ds => obtain ⟨xs, q, _⟩ := h; rw [z] at q; cases q
  | dct ds => obtain ⟨xs, q, _⟩ := h; rw [z] at q; cases q
  | ins C ds => obtain ⟨_, _, xs, q, _⟩ := h; rw [z] at q; cases q
theorem RelS.notNone {i : Ix} {a : Addr} (r : RelS K c m H) (h : c.at_ i = some a) : H a ≠ none := by
  have : ∃ x, m.at_ i = some x := by
    cases i with
    | g i => exact ⟨_, List.getElem?_eq_getElem (by rw [← r.len.1]; exact (List.getElem?_eq_some_iff.mp h).1)⟩
    | l i => exact ⟨_, List.getElem?_eq_getElem (by rw [← r.len.2]; exact (List.getElem?_eq_some_iff.mp h).1)⟩
  obtain ⟨x, e⟩ := this
  exact CellR.notNone (r.at_ i a x h e)
/-- behind a call: the global part is the callee's, the own part stays -/
theorem Gd.back {cg : List Addr} {g' : List Cell} (r : RelS K c m H) (g : Gd K (Dn.glob c) ⟨cg, []⟩ ⟨g', []⟩ H H') : Gd K c ⟨cg, c.l⟩ ⟨g', m.l⟩ H H' := by
  have hfr : ∀ j a, c.at_ (.l j) = some a → ¬ Has (Dn.glob c) a := fun j a h1 hb => by
    obtain ⟨i, e⟩ := hb
    cases i with
    | l i => cases e
    | g i => exact nomatch r.inj (.g i) (.l j) a e h1
  have cross : ∀ i j a, (⟨cg, c.l⟩ : Anc).at_ (.g i) = some a → (⟨cg, c.l⟩ : Anc).at_ (.l j) = some a → False := by
    intro i j a h1 h2
    rcases g.new a ⟨.g i, h1⟩ with z | z
    · exact hfr j a h2 z
    · exact r.notNone (i := .l j) h2 z
  refine ⟨⟨g.pre.1, List.prefix_refl _⟩, g.ext, fun a ha => ?_, fun b o hb e => g.frame b o (fun z => hb z.glob) e, ⟨g.rel.len.1, r.len.2⟩, fun i j a h1 h2 => ?_, fun i a x h1 h2 => ?_⟩
  · obtain ⟨i, e⟩ := ha
    cases i with
    | l i => exact .inl ⟨.l i, e⟩
    | g i => exact (g.new a ⟨.g i, e⟩).imp (fun z => z.glob) fun z => z
  · cases i with
    | g i =>
      cases j with
      | g j => exact g.rel.inj (.g i) (.g j) a h1 h2
      | l j => exact (cross i j a h1 h2).elim
    | l i =>
      cases j with
      | g j => exact (cross j i a h2 h1).elim
      | l j => exact r.inj (.l i) (.l j) a h1 h2
  · cases i with
    | g i => exact g.rel.at_ (.g i) a x h1 h2
    | l i => exact (r.at_ (.l i) a x h1 h2).mono g.ext ⟨g.pre.1, List.prefix_refl _⟩ fun xs lx e => g.frame a _ (hfr i a h1) e
end
theorem RelS.cold {K : KW} {c : Anc} {m : Store} {H : Hp} (r : RelS K c m H) : RelS K.cold c m H := ⟨r.len, r.inj, r.at_⟩
theorem RelS.warm {K : KW} {c : Anc} {m : Store} {H : Hp} (r : RelS K.cold c m H) : RelS K c m H := ⟨r.len, r.inj, r.at_⟩
theorem Gd.warm {K : KW} {c c' : Anc} {m' : Store} {H H' : Hp} (g : Gd K.cold c c' m' H H') : Gd K c c' m' H H' := ⟨g.pre, g.ext, g.new, g.frame, g.rel.warm⟩
theorem Gd.cold {K : KW} {c c' : Anc} {m' : Store} {H H' : Hp} (g : Gd K c c' m' H H') : Gd K.cold c c' m' H H' := ⟨g.pre, g.ext, g.new, g.frame, g.rel.cold⟩
theorem ExcV.warm {K : KW} {c : Anc} {H : Hp} {x : Exn} {cls : Value} {dd : Option Addr} (h : ExcV K.cold H c x cls dd) : ExcV K H c x cls dd := by
  obtain ⟨C, e1, e2, e3⟩ := h
  refine ⟨C, e1, e2, e3.imp (fun z => z) ?_⟩
  rintro ⟨dx, vs, q1, q2, q3, q4⟩
  exact ⟨dx, vs, q1, q2, q3, q4.warm⟩
section
variable {P : Program} {w : World} {mg : Str → Option Value} {base : Heap}
theorem Slo.start {K : KW} {H : Hp} {c : Anc} {N : List Str} {vs : List V} {ds : List D} (h : VDs K H c vs ds) (hl : ds.length ≤ N.length) : Slo K H c (ds.map some ++ List.replicate (N.length - ds.length) none) (start N vs) := by
  have e := h.length
  refine ⟨by simp [L2.start, e], fun i d q => ?_⟩
  by_cases hi : i < ds.length
  · rw [List.getElem?_append_left (by simpa using hi), List.getElem?_map] at q
    cases q2 : ds[i]? with
    | none => rw [q2] at q; cases q
    | some d' =>
      rw [q2] at q
      cases q
      obtain ⟨v, h1, h2⟩ := h.get q2
      refine ⟨v, ?_, h2⟩
      unfold L2.start
      rw [List.getElem?_append_left (by simpa [e] using hi), List.getElem?_map, h1]
      rfl
  · have hi' : ds.length ≤ i := Nat.le_of_not_lt hi
    rw [List.getElem?_append_right (by simpa using hi')] at q
    have := List.mem_of_getElem? q
    simp at this
end
def callR (den : Den) (ds : List D) (m : Store) : Res D := if nls ds then (den ds m.g).res m.l else .stuck
def callE (den : Den) (fl : FI) : FE := fun ρ m => (fl ρ m).bind fun ds m1 => callR den ds m1
section
variable {X : Cx} {W : WX} {a b e tg iter : Expr} {es : List Expr} {fa fb f : FE} {pos p : Pos} {c c' : Anc} {ρ : Rho} {m m' : Store} {σ : St} {H H' : Hp} {k n : Nat} {fn : Addr} {fd : FuncData} {ps : List Str} {den : Den} {x : Str} {fl : FI}
theorem callR_sp {vs : List V} {ds : List D} {Q : VK} (r : RelS X.kw c m H) (hv : VDs X.kw H c vs ds) (hl : ds.length = n) (w : Want X W c H σ (callR den ds m) Q) : spD X.kw.cold n den vs H Q (L2.WE W σ) := by
  unfold callR at w
  cases hn : nls ds with
  | false => rw [hn] at w; exact w.elim
  | true =>
    rw [hn] at w
    refine ⟨c.g, ds, m.g, hl, r.glob.cold, (VDs.nl ds hv hn).cold (nxs_of_nls _ hn), ?_⟩
    change Want X W c H σ ((den ds m.g).res m.l) Q at w
    cases q : den ds m.g with
    | ok d g' =>
      rw [q] at w
      intro cg' v H' g1 hv1
      have up : Pre ⟨cg', []⟩ ⟨cg', c.l⟩ := ⟨List.prefix_refl _, List.nil_prefix⟩
      exact w ⟨cg', c.l⟩ v H' (Gd.back r g1.warm) (VD.mono (Ext.refl _) up d hv1.warm)
    | exc x g' =>
      rw [q] at w
      intro cg' cls dd H' g1 hx
      have up : Pre ⟨cg', []⟩ ⟨cg', c.l⟩ := ⟨List.prefix_refl _, List.nil_prefix⟩
      refine w ⟨cg', c.l⟩ cls dd H' (Gd.back r g1.warm) ?_
      obtain ⟨C, e1, e2, e3⟩ := hx.warm
      refine ⟨C, e1, e2, e3.imp (fun z => z) ?_⟩
      rintro ⟨dx, vs, q1, q2, q3, q4⟩
      exact ⟨dx, vs, q1, q2, q3, VDs.mono (Ext.refl _) up _ q4⟩
    | stuck => rw [q] at w; exact w.elim
/-- lists of arguments have a length that is written -/
def lenA (n : Nat) (fl : FI) : Prop := ∀ ρ m ds m', fl ρ m = .ok ds m' → ds.length = n
theorem lenA_nil : lenA 0 nilA := fun ρ m ds m' e => by cases e; rfl
theorem lenA_cons {n : Nat} {f : FE} {g : FI} (h : lenA n g) : lenA (n + 1) (consA f g) := fun ρ m ds m' e => by
  unfold consA at e
  cases q : f ρ m with
  | ok d m1 =>
    simp only [q, Res.bind] at e
    cases q2 : g ρ m1 with
    | ok ds' m2 =>
      simp only [q2, Res.bind] at e
      cases e
      simp [h _ _ _ _ q2]
    | exc => simp only [q2, Res.bind] at e; cases e
    | stuck => simp only [q2, Res.bind] at e; cases e
  | exc => simp only [q, Res.bind] at e; cases e
  | stuck => simp only [q, Res.bind] at e; cases e
theorem de_call (F : FnOk X.prog X.w X.K X.mg X.base (L2.CX X.prog X.w) k fn fd ps (spD X.kw.cold n den)) (hr : Room k X.A) (hm : X.mg x = some (.ref fn)) (hk : PySem.W.keepIn X.K (.ref fn) = true) (hb : Binds X.K fd ps []) (tk : Takes X W) (ha : DA X W (e :: es) fl) (hl : lenA n fl)
    (hg : Gl X x := by rfl) (hdb : (x == ("__debug__" : Str)) = false := by decide) (he : starEach (e :: es) X.env = (false, eval e X.env) :: starEach es X.env := by rfl) (hpl : (backTo pos (starEach es X.env)).any (·.1) = false := by rfl) :
    DE X W (.Call (.Name x p) (e :: es) [] pos) (callE den fl) := fun c ρ m σ H Q r s w =>
  we_of (pe_callSD F hr hg hm hk hb .nil (fun σ => passAt tk σ) pa_w hdb he hpl) (by
    refine ha c ρ m σ H _ r s ?_
    unfold callE at w
    cases q : fl ρ m with
    | ok ds m1 =>
      rw [q] at w
      intro c1 vs H1 g1 hv
      rw [List.append_nil]
      exact callR_sp g1.rel hv (hl _ _ _ _ q) (Want.shift g1 w)
    | exc x m1 => rw [q] at w; exact w
    | stuck => rw [q] at w; exact w)
theorem de_call0 (F : FnOk X.prog X.w X.K X.mg X.base (L2.CX X.prog X.w) k fn fd ps (spD X.kw.cold 0 den)) (hr : Room k X.A) (hm : X.mg x = some (.ref fn)) (hk : PySem.W.keepIn X.K (.ref fn) = true) (hb : Binds X.K fd ps []) (tk : Takes X W)
    (hg : Gl X x := by rfl) (hdb : (x == ("__debug__" : Str)) = false := by decide) : DE X W (.Call (.Name x p) [] [] pos) (callE den nilA) := fun c ρ m σ H Q r s w => .mk fun pins st I => by
  refine wpAny_Call_Name_kw (ld_glob I hg hm ?_ hdb)
  refine PySem.W.callWith_K0 I.kIn hk (run_fnSD (us := []) (vs := []) (E := L2.WE W) F hr hb .nil (passAt tk σ) I .nil ?_)
  exact callR_sp (ds := []) r (by unfold VDs; rfl) rfl w
/-! ### op= at a name and at an item -/
def augS (i : Nat) (g : D → D → Store → OD) (f : FE) : FS := fun ρ m => match ρ[i]? with
  | some (some d) => (f ρ m).bindS ρ fun y m1 => match g d y m1 with
    | some (z, m2) => .nx (ρ.set i (some z)) m2
    | none => .stuck
  | _ => .stuck
theorem ds_aug (i : Nat) {op : Operator} {g : D → D → Store → OD} {pos' : Pos} (hN : X.N.Nodup) (ho : PIp X op (rOf X.kw g)) (he : DE X W e f) (hi : X.N[i]? = some x := by rfl) (hx : Loc X.env.scope x := by first | exact Or.inl rfl | exact Or.inr rfl) (hf : X.fn x = true ∨ X.env.scope.names.lookup x = some .local := by first | exact .inl rfl | exact .inr rfl | assumption) :
    DS X W (.AugAssign (.Name x pos') op e pos) (augS i g f) := fun c ρ m σ H En r s w => by
  unfold augS at w
  split at w
  · rename_i d q
    obtain ⟨v, h1, h2⟩ := s.at_ i d q
    refine wst_of (ps_aug hN hi hx pe_w ho hf) ⟨v, h1, he.thenS r s w fun y m1 c1 vy H1 r1 s1 g1 hy w1 => ?_⟩
    refine ⟨c1, m1, d, y, r1, g1.vd h2, hy, ?_⟩
    cases q2 : g d y m1 with
    | none => rw [q2] at w1; exact w1.elim
    | some zz =>
      obtain ⟨z, m2⟩ := zz
      rw [q2] at w1
      exact fun c2 vz H2 g2 hz => w1 c2 _ H2 g2 ((g2.slots s1).set i hz)
  · exact w.elim
end
end L2.Dn
namespace L2.Dn
open PySem PySem.Spec PyProof.Rows L2
/-! ### defs that are called where nothing is being shown -/
structure FnG (P : Program) (w : World) (K : PySem.W.Frag) (mg : Str → Option Value) (base : Heap) (k : Nat) (f : Addr) (fd : FuncData) (ps : List Str) (sp : Sp) : Prop where
  len : ∀ vs H Q E, sp vs H Q E → vs.length = ps.length
  go : ∀ (A : Around) (outer : List Env) (s : Shared) (H : Hp) (as : Args) (us : List Value) (vs : List V) (Q : VK) (E : XK), A.guards = some [] → Room k A →
    Env0 P w K mg base A outer s H → BindsTo s fd as (ps.zip us) → Vals vs us → sp vs H Q E →
    codeAny (model P w) A (.call (.ref f) as) (CR (L2.CX P w) outer P w H s Q E) s
theorem FnG.of {P : Program} {w : World} {K : PySem.W.Frag} {mg : Str → Option Value} {base : Heap} {k : Nat} {f : Addr} {fd : FuncData} {ps : List Str} {sp : Sp} (F : FnOk P w K mg base (L2.CX P w) k f fd ps sp) : FnG P w K mg base k f fd ps sp :=
  ⟨F.len, fun A outer s H as us vs Q E _ hr e b r h => F.run A outer s H as us vs Q E hr e b r h⟩
section
variable {P : Program} {w : World} {K : PySem.W.Frag} {mg : Str → Option Value} {base : Heap}
/-- a def by its body, where nothing is being shown around it -/
theorem fn_g {x qual : Str} {st : Stmt} {f : Addr} {fd : FuncData} {N ps : List Str} {k : Nat} {sp : Sp} (F : Fun K x qual st f fd) (S : FnScope N ps (defScope st)) (hlen : ∀ vs H Q E, sp vs H Q E → vs.length = ps.length)
    (hb : ∀ (cdv : Value) (A : Around) (outer : List Env) (s : Shared) (H : Hp) (vs : List V) (Q : VK) (E : XK), A.guards = some [] → Room k (A.deeper (envOfC qual (defScope st) s.heap.objs.size f cdv)) → sp vs H Q E →
      ∃ t, PSs (cxOf (L2.CX P w) P w K mg base N qual (defScope st) f cdv A outer s H E) (defBody st) t ∧ t ⟨fun _ H' => Q .non H', Q, fun _ _ => False, fun _ _ => False⟩ (start N vs) H) :
    FnG P w K mg base (k + 1) f fd ps sp := by
  obtain ⟨oc, od, kV, doc, pm, an, cdv, ct, osl, rfl, lk, hcd⟩ := F.ex
  refine ⟨hlen, fun A outer s H as us vs Q E hg hr env bd rl want => ?_⟩
  have stay : ∀ b o, base.get? b = some o → s.heap.get? b = some o := fun b o h => (env.bs b o h).1
  have kin : K.In s.heap := env.mod.kin.keeps stay
  refine codeAny_call_function hr.depth (kin _ _ lk) rfl S.co S.gen rfl (PySem.W.codeRec_of kin hcd) (bd _ _ _ _ ?_)
  refine wpAny_newFunctionEnv_cells S.kind (fun y hy => ?_) fun ev hev s1 ic => ?_
  · rcases S.par y.1 (List.of_mem_zip (show (y.1, y.2) ∈ ps.zip us from hy)).1 with q | q
    · exact Or.inl q
    · exact Or.inr ⟨q, PySem.W.cellsFrom_some _ _ _ (Or.inl q)⟩
  subst hev
  refine ⟨(env.mod.nolimit.keeps stay).keeps ic.toInCall.keep, codeAny_func ?_⟩
  obtain ⟨t, ht, q⟩ := hb cdv A outer s H vs Q E hg (hr.deeper _) want
  have J0 := inv_start (CX := L2.CX P w) (E := E) S hr.hd env (hlen _ _ _ _ want) rl ic
  refine wpAny_mono (ht.run [] s1 _ H _ J0 q) (fun fl s' out => ?_) fun _ _ z => z
  cases fl with
  | next => obtain ⟨_, H', J, z⟩ := out; exact ⟨.non, H', J.os, J.bare, J.base, J.hok, rfl, z⟩
  | ret u => obtain ⟨v, _, H', J, rv, z⟩ := out; exact ⟨v, H', J.os, J.bare, J.base, J.hok, rv, z⟩
  | brk => obtain ⟨_, _, _, z⟩ := out; exact z.elim
  | cont => obtain ⟨_, _, _, z⟩ := out; exact z.elim
theorem fn_denG {x qual : Str} {st : Stmt} {f : Addr} {fd : FuncData} {N ps : List Str} {k n np : Nat} {body : FS} (F : Fun K x qual st f fd) (S : FnScope N ps (defScope st)) (hN : N.length = n) (hp : ps.length = np) (hps : np ≤ n)
    (hb : ∀ (cdv : Value) (A : Around) (outer : List Env) (s : Shared) (H : Hp) (E : XK), A.guards = some [] → Room k (A.deeper (envOfC qual (defScope st) s.heap.objs.size f cdv)) →
      DSs (cxOf (L2.CX P w) P w K mg base N qual (defScope st) f cdv A outer s H E) (fun cls dd _ H' => E cls dd H') (defBody st) body) : FnG P w K mg base (k + 1) f fd ps (spD ⟨K, w, mg, none⟩ np (fnD n body)) := by
  subst hN hp
  refine fn_g F S (fun vs H Q E h => ?_) fun cdv A outer s H vs Q E hg hr h => ?_
  · obtain ⟨cg, ds, g, h1, h2, h3, h4⟩ := h
    rw [h3.length, h1]
  · obtain ⟨cg, ds, g, h1, h2, h3, h4⟩ := h
    refine ⟨_, pss_w, hb cdv A outer s H E hg hr ⟨cg, []⟩ _ ⟨g, []⟩ _ H _ h2 (Slo.start (N := N) h3 (by omega)) ?_⟩
    unfold fnD at h4
    cases q : body (ds.map some ++ List.replicate (N.length - ds.length) none) ⟨g, []⟩ with
    | nx ρ m =>
      rw [q] at h4
      exact fun c' σ' H' g1 s1 => h4 c'.g .non H' (Gd.glob (c := ⟨cg, []⟩) g1) (VD.non.mpr rfl)
    | rt d m =>
      rw [q] at h4
      cases hn : nl d with
      | false => simp only [fin, hn, Bool.false_eq_true, if_false] at h4
      | true =>
        simp only [fin, hn, if_true] at h4
        exact fun c' v H' g1 hv => h4 c'.g v H' (Gd.glob (c := ⟨cg, []⟩) g1) (VD.nl d hv hn)
    | exc x ρ m =>
      rw [q] at h4
      cases hn : nls (x.fs.map (·.2)) with
      | false => simp only [fin, hn, Bool.false_eq_true, if_false] at h4
      | true =>
        simp only [fin, hn, if_true] at h4
        intro c' σ' cls dd H' g1 s1 hx
        refine h4 c'.g cls dd H' (Gd.glob (c := ⟨cg, []⟩) g1) ?_
        obtain ⟨C, e1, e2, e3⟩ := hx
        refine ⟨C, e1, e2, e3.imp (fun z => z) ?_⟩
        rintro ⟨dx, vs, q1, q2, q3, q4⟩
        exact ⟨dx, vs, q1, q2, q3, VDs.nl _ q4 hn⟩
    | bk ρ m => rw [q] at h4; exact h4.elim
    | ct ρ m => rw [q] at h4; exact h4.elim
    | stuck => rw [q] at h4; exact h4.elim
end
section
variable {X : Cx} {W : WX} {a b e tg iter : Expr} {es : List Expr} {fa fb f : FE} {pos p : Pos} {c c' : Anc} {ρ : Rho} {m m' : Store} {σ : St} {H H' : Hp} {k n : Nat} {fn : Addr} {fd : FuncData} {ps : List Str} {den : Den} {x : Str} {fl : FI}
theorem run_g {sp : Sp} {pins : List (Addr × Obj)} {s : Shared} {Q : VK} {us : List Value} {vs : List V} (F : FnG X.prog X.w X.K X.mg X.base k fn fd ps sp) (hG : X.A.guards = some []) (hr : Room k X.A) (hb : Binds X.K fd ps []) (tk : Takes X W)
    (I : Inv X pins σ H s) (r : Vals vs us) (h : sp vs H Q (L2.WE W σ)) : wpAny (model X.prog X.w) X.A (call (.ref fn) us) (EP X pins σ Q) X.xe s := by
  have hl : us.length = ps.length := by rw [← r.length]; exact F.len _ _ _ _ h
  have bd := hb s us I.kIn (by rw [List.append_nil]; exact hl)
  rw [List.append_nil] at bd
  refine wpAny_call (codeAny_mono (F.go X.A X.stack s H ⟨us, []⟩ us vs Q (L2.WE W σ) hG hr I.env0 bd r h) fun out s' q => ?_)
  match out, q with
  | .error e, q => exact passAt tk σ pins H s e s' I q
  | .ok (.ret u), q => exact I.after q
theorem de_callG (F : FnG X.prog X.w X.K X.mg X.base k fn fd ps (spD X.kw.cold n den)) (hG : X.A.guards = some []) (hr : Room k X.A) (hm : X.mg x = some (.ref fn)) (hk : PySem.W.keepIn X.K (.ref fn) = true) (hb : Binds X.K fd ps []) (tk : Takes X W) (ha : DA X W (e :: es) fl) (hl : lenA n fl)
    (hg : Gl X x := by rfl) (hdb : (x == ("__debug__" : Str)) = false := by decide) (he : starEach (e :: es) X.env = (false, eval e X.env) :: starEach es X.env := by rfl) (hpl : (backTo pos (starEach es X.env)).any (·.1) = false := by rfl) :
    DE X W (.Call (.Name x p) (e :: es) [] pos) (callE den fl) := fun c ρ m σ H Q r s w => .mk fun pins st I => by
  have args : WA X (e :: es) σ H (fun vs H1 => spD X.kw.cold n den vs H1 Q (L2.WE W σ)) := by
    refine ha c ρ m σ H _ r s ?_
    unfold callE at w
    cases q : fl ρ m with
    | ok ds m1 =>
      rw [q] at w
      exact fun c1 vs H1 g1 hv => callR_sp g1.rel hv (hl _ _ _ _ q) (Want.shift g1 w)
    | exc x m1 => rw [q] at w; exact w
    | stuck => rw [q] at w; exact w
  refine wpAny_Call_Name_kw (ld_glob I hg hm (PySem.W.callWith_K (h₀ := X.base) I.ok.mod.kin hk ?_ he hpl) hdb)
  exact thn (args.go pos pins st I) fun us s1 ⟨vs, H1, I1, r1, q⟩ => ⟨I1.kIn, run_g F hG hr hb tk I1 r1 q⟩
theorem de_callG0 (F : FnG X.prog X.w X.K X.mg X.base k fn fd ps (spD X.kw.cold 0 den)) (hG : X.A.guards = some []) (hr : Room k X.A) (hm : X.mg x = some (.ref fn)) (hk : PySem.W.keepIn X.K (.ref fn) = true) (hb : Binds X.K fd ps []) (tk : Takes X W)
    (hg : Gl X x := by rfl) (hdb : (x == ("__debug__" : Str)) = false := by decide) : DE X W (.Call (.Name x p) [] [] pos) (callE den nilA) := fun c ρ m σ H Q r s w => .mk fun pins st I => by
  refine wpAny_Call_Name_kw (ld_glob I hg hm ?_ hdb)
  refine PySem.W.callWith_K0 I.kIn hk (run_g (us := []) (vs := []) F hG hr hb tk I .nil ?_)
  exact callR_sp (ds := []) r (by unfold VDs; rfl) rfl w
end
end L2.Dn
namespace L2.Dn
open PySem PySem.Spec PyProof.Rows L2
/-! ### data as they lie in the machine's heap, dicts among them -/
mutual
inductive Rds (h : Heap) : Value → PyData → Prop
  | none : Rds h .none .none
  | bool (b) : Rds h (.bool b) (.bool b)
  | int (i t) : Rds h (.int i t) (.int i)
  | str (x t) : Rds h (.str x t) (.str x)
  | list {a o vs n xs} : h.get? a = some o → o.cls = .type "list" → o.data = .seq vs n → RdsA h vs.toList xs → Rds h (.ref a) (.list xs)
  | tuple {a o vs n xs} : h.get? a = some o → o.cls = .type "tuple" → o.data = .seq vs n → RdsA h vs.toList xs → Rds h (.ref a) (.tuple xs)
  | dict {a o es n ks} : (a == sysModules) = false → h.get? a = some o → o.cls = .type "dict" → o.data = .dict es n → RdsA h (es.toList.map (·.key)) (ks.map (·.1)) → RdsA h (es.toList.map (·.val)) (ks.map (·.2)) → Rds h (.ref a) (.dict ks)
inductive RdsA (h : Heap) : List Value → List PyData → Prop
  | nil : RdsA h [] []
  | cons {v vs d ds} : Rds h v d → RdsA h vs ds → RdsA h (v :: vs) (d :: ds)
end
mutual
theorem Rds.reads {h : Heap} : ∀ {v : Value} {d : PyData}, Rds h v d → ∃ as, Reads h v d as
  | _, _, .none => ⟨_, .none⟩
  | _, _, .bool b => ⟨_, .bool b⟩
  | _, _, .int i t => ⟨_, .int i t⟩
  | _, _, .str x t => ⟨_, .str x t⟩
  | _, _, .list h1 h2 h3 h4 => let ⟨_, r⟩ := RdsA.reads h4; ⟨_, .list h1 h2 h3 r⟩
  | _, _, .tuple h1 h2 h3 h4 => let ⟨_, r⟩ := RdsA.reads h4; ⟨_, .tuple h1 h2 h3 r⟩
  | _, _, .dict _ h1 h2 h3 h4 h5 => let ⟨_, r⟩ := RdsA.reads h4; let ⟨_, q⟩ := RdsA.reads h5; ⟨_, .dict h1 h2 h3 r q⟩
theorem RdsA.reads {h : Heap} : ∀ {vs : List Value} {ds : List PyData}, RdsA h vs ds → ∃ as, ReadsAll h vs ds as
  | _, _, .nil => ⟨_, .nil⟩
  | _, _, .cons r q => let ⟨_, x⟩ := Rds.reads r; let ⟨_, y⟩ := RdsA.reads q; ⟨_, .cons x y⟩
end
section
variable {P : Program} {w : World} {h : Heap}
mutual
theorem Rds.shows : ∀ {v : Value} {d : PyData}, Rds h v d → d.showable = true → d.shown.length ≤ sizeLine → ∃ bs, ReadAtMost h d.depth bs ∧ ReprK P w bs h d.depth v d.shown
  | _, _, .none, _, _ => ⟨[], (fun _ z => nomatch z), ReprK.of_is (by simpa only [PyData.shown] using ReprIs.none) _ _ _⟩
  | _, _, .bool b, _, _ => ⟨[], (fun _ z => nomatch z), ReprK.of_is (by simpa only [PyData.shown] using ReprIs.bool b) _ _ _⟩
  | _, _, .int i t, s, _ => ⟨[], (fun _ z => nomatch z), ReprK.of_is (by simpa only [PyData.shown] using ReprIs.int t (by simpa [PyData.showable] using s)) _ _ _⟩
  | _, _, .str x t, _, z => ⟨[], (fun _ z => nomatch z), ReprK.of_is (by simpa only [PyData.shown] using ReprIs.str x t (by simpa only [PyData.shown] using z)) _ _ _⟩
  | _, _, .list (vs := vs) h1 h2 h3 h4, s, z => by
    simp only [PyData.shown] at z
    obtain ⟨bs, hb, hk⟩ := RdsA.shows h4 (by simpa [PyData.showable] using s) fun t m => Nat.le_trans (listText_mem_le m) z
    obtain ⟨as, ra⟩ := RdsA.reads h4
    have whole := Reads.list h1 h2 h3 ra
    have out := not_mem_of_deeper whole (Nat.lt_succ_self _) hb
    refine ⟨_ :: bs, ReadAtMost.cons whole (Nat.le_succ _) hb, ?_⟩
    simp only [PyData.depth, PyData.shown]
    obtain ⟨l⟩ := vs
    cases l with
    | nil =>
      have h4' : RdsA h [] _ := h4
      cases h4'
      rw [PyData.shownAll, listText_nil]
      exact .listEmpty h1 h2 h3
    | cons x l => exact .list h1 h2 h3 out (by simpa using hk.length_eq) fun i y q => hk.item i y (by simpa using q)
  | _, _, .tuple h1 h2 h3 h4, s, z => by
    simp only [PyData.shown] at z
    obtain ⟨bs, hb, hk⟩ := RdsA.shows h4 (by simpa [PyData.showable] using s) fun t m => Nat.le_trans (tupleText_mem_le m) z
    obtain ⟨as, ra⟩ := RdsA.reads h4
    have whole := Reads.tuple h1 h2 h3 ra
    refine ⟨_ :: bs, ReadAtMost.cons whole (Nat.le_succ _) hb, ?_⟩
    simp only [PyData.depth, PyData.shown]
    exact .tuple h1 h2 h3 (not_mem_of_deeper whole (Nat.lt_succ_self _) hb) hk
  | _, _, .dict (es := es) (ks := ks) h0 h1 h2 h3 h4 h5, s, z => by
    simp only [PyData.shown] at z
    obtain ⟨s1, s2⟩ := PyData.showableKv_split ks (by simpa [PyData.showable] using s)
    obtain ⟨b1, r1, k1⟩ := RdsA.shows h4 s1 fun t m => by
      obtain ⟨p, hp, hl⟩ := PyData.shownKv_key_le ks t m
      exact Nat.le_trans hl (Nat.le_trans (dictText_mem_le hp) z)
    obtain ⟨b2, r2, k2⟩ := RdsA.shows h5 s2 fun t m => by
      obtain ⟨p, hp, hl⟩ := PyData.shownKv_val_le ks t m
      exact Nat.le_trans hl (Nat.le_trans (dictText_mem_le hp) z)
    obtain ⟨as, ra⟩ := RdsA.reads h4
    obtain ⟨cs, rc⟩ := RdsA.reads h5
    have whole := Reads.dict h1 h2 h3 ra rc
    have hb := (r1.mono (PyData.depthAll_keys_le ks)).append (r2.mono (PyData.depthAll_vals_le ks))
    refine ⟨_ :: (b1 ++ b2), ReadAtMost.cons whole (Nat.le_succ _) hb, ?_⟩
    simp only [PyData.depth, PyData.shown, PyData.shownKv_eq]
    refine .dict h1 h2 h3 h0 (not_mem_of_deeper whole (Nat.lt_succ_self _) hb) (ReprEntriesK.of_two es.toList _ _ ?_ ?_)
    · exact k1.more_le (fun b m => List.mem_append_left _ m) (PyData.depthAll_keys_le ks)
    · exact k2.more_le (fun b m => List.mem_append_right _ m) (PyData.depthAll_vals_le ks)
theorem RdsA.shows : ∀ {vs : List Value} {ds : List PyData}, RdsA h vs ds → PyData.showableAll ds = true → (∀ t ∈ PyData.shownAll ds, t.length ≤ sizeLine) → ∃ bs, ReadAtMost h (PyData.depthAll ds) bs ∧ ReprAllK P w bs h (PyData.depthAll ds) vs (PyData.shownAll ds)
  | _, _, .nil, _, _ => ⟨[], (fun _ z => nomatch z), by rw [PyData.shownAll]; exact .nil⟩
  | _, _, .cons (d := d) (ds := ds) r q, s, z => by
    simp only [PyData.showableAll, Bool.and_eq_true] at s
    simp only [PyData.shownAll] at z ⊢
    obtain ⟨b1, r1, k1⟩ := Rds.shows r s.1 (z _ List.mem_cons_self)
    obtain ⟨b2, r2, k2⟩ := RdsA.shows q s.2 fun t m => z t (List.mem_cons_of_mem _ m)
    have d1 : d.depth ≤ PyData.depthAll (d :: ds) := by simp only [PyData.depthAll]; exact Nat.le_max_left _ _
    have d2 : PyData.depthAll ds ≤ PyData.depthAll (d :: ds) := by simp only [PyData.depthAll]; exact Nat.le_max_right _ _
    exact ⟨b1 ++ b2, (r1.mono d1).append (r2.mono d2), .cons ((k1.more fun b m => List.mem_append_left _ m).level_le d1) (k2.more_le (fun b m => List.mem_append_right _ m) d2)⟩
end
/-- repr(v) -/
theorem Rds.call {A : Around} {E : Value → Shared → Prop} {s : Shared} {Q : Value → Shared → Prop} {v : Value} {d : PyData} (r : Rds s.heap v d) (hs : d.showable = true) (hz : d.shown.length ≤ sizeLine) (hg : A.guards = some []) (hu : A.units + (d.depth + 1) < cLine)
    (hQ : ∀ h' u tk, (∀ b o, s.heap.get? b = some o → h'.get? b = some o) → Q (.str d.shown u) { s with heap := h', toks := tk }) : wpAny (model P w) A (call (.builtin "repr") [v]) Q E s := by
  have hu1 : A.units + 1 < cLine := by omega
  have clr : ∀ {bs : List Addr}, ∀ b ∈ bs, Clear [] b := fun b _ => Clear.nil b
  cases r with
  | none => simp only [PyData.shown] at hQ; exact PySem.P.repr_of_none (hQ s.heap _ _ fun _ _ e => e)
  | bool b => simp only [PyData.shown] at hQ; exact PySem.P.repr_of_bool (hQ s.heap _ _ fun _ _ e => e)
  | int i t => simp only [PyData.shown] at hQ; exact PySem.P.repr_of_int (by simpa [PyData.showable] using hs) (hQ s.heap _ _ fun _ _ e => e)
  | str x t => simp only [PyData.shown] at hQ hz; exact PySem.P.repr_of_str (hQ s.heap _ _ fun _ _ e => e) hz
  | @list a o vs n xs h1 h2 h3 h4 =>
    simp only [PyData.shown] at hQ hz
    simp only [PyData.depth] at hu
    obtain ⟨bs, hb, hk⟩ := RdsA.shows (P := P) (w := w) h4 (by simpa [PyData.showable] using hs) fun t m => Nat.le_trans (listText_mem_le m) hz
    obtain ⟨as, ra⟩ := RdsA.reads h4
    have out := not_mem_of_deeper (Reads.list h1 h2 h3 ra) (Nat.lt_succ_self _) hb
    refine call_repr_slot hu1 ⟨o, h1, h2⟩ F.slot_list_repr.toG ?_
    obtain ⟨l⟩ := vs
    cases l with
    | nil =>
      have h4' : RdsA s.heap [] xs := h4
      cases h4'
      rw [PyData.shownAll, listText_nil] at hQ
      exact call_list_repr_empty ⟨o, h1, h2⟩ h1 h3 ⟨_, _, rfl, hQ s.heap _ _ fun _ _ e => e⟩
    | cons x l =>
      refine call_list_reprK h1 h2 h3 out (by simpa using hk.length_eq) (fun i y q => hk.item i y (by simpa using q)) (A := A.in1) hg clr ?_ (fun _ _ e => e) (fun h' u tk k => ⟨_, _, rfl, hQ h' u tk k⟩) hz
      show A.units + 1 + _ < cLine
      omega
  | @tuple a o vs n xs h1 h2 h3 h4 =>
    simp only [PyData.shown] at hQ hz
    simp only [PyData.depth] at hu
    obtain ⟨bs, hb, hk⟩ := RdsA.shows (P := P) (w := w) h4 (by simpa [PyData.showable] using hs) fun t m => Nat.le_trans (tupleText_mem_le m) hz
    obtain ⟨as, ra⟩ := RdsA.reads h4
    have out := not_mem_of_deeper (Reads.tuple h1 h2 h3 ra) (Nat.lt_succ_self _) hb
    refine call_repr_slot hu1 ⟨o, h1, h2⟩ F.slot_tuple_repr ?_
    refine call_tuple_reprK h1 h2 h3 out hk (A := A.in1) hg clr ?_ (fun _ _ e => e) (fun h' u tk k => ⟨_, _, rfl, hQ h' u tk k⟩) hz
    show A.units + 1 + _ < cLine
    omega
  | @dict a o es n ks h0 h1 h2 h3 h4 h5 =>
    simp only [PyData.shown] at hQ hz
    simp only [PyData.depth] at hu
    obtain ⟨s1, s2⟩ := PyData.showableKv_split ks (by simpa [PyData.showable] using hs)
    obtain ⟨b1, r1, k1⟩ := RdsA.shows (P := P) (w := w) h4 s1 fun t m => by
      obtain ⟨p, hp, hl⟩ := PyData.shownKv_key_le ks t m
      exact Nat.le_trans hl (Nat.le_trans (dictText_mem_le hp) hz)
    obtain ⟨b2, r2, k2⟩ := RdsA.shows (P := P) (w := w) h5 s2 fun t m => by
      obtain ⟨p, hp, hl⟩ := PyData.shownKv_val_le ks t m
      exact Nat.le_trans hl (Nat.le_trans (dictText_mem_le hp) hz)
    obtain ⟨as, ra⟩ := RdsA.reads h4
    obtain ⟨cs, rc⟩ := RdsA.reads h5
    have hb := (r1.mono (PyData.depthAll_keys_le ks)).append (r2.mono (PyData.depthAll_vals_le ks))
    have out := not_mem_of_deeper (Reads.dict h1 h2 h3 ra rc) (Nat.lt_succ_self _) hb
    rw [PyData.shownKv_eq] at hz
    simp only [PyData.shownKv_eq] at hQ
    refine call_repr_slot hu1 ⟨o, h1, h2⟩ F.slot_dict_repr ?_
    refine call_dict_reprK h1 h2 h3 h0 out (ReprEntriesK.of_two es.toList _ _ (k1.more_le (fun b m => List.mem_append_left _ m) (PyData.depthAll_keys_le ks)) (k2.more_le (fun b m => List.mem_append_right _ m) (PyData.depthAll_vals_le ks))) (A := A.in1) hg clr ?_ (fun _ _ e => e) (fun h' u tk k => ⟨_, _, rfl, hQ h' u tk k⟩) hz
    show A.units + 1 + _ < cLine
    omega
end
/-! ### data as the layer tracks them -/
mutual
inductive DpA (K : KW) (H : Hp) : V → PyData → Prop
  | non : DpA K H .non .none
  | bl (b : Bool) : DpA K H (.bl b) (.bool b)
  | int (i : Int) : DpA K H (.int i) (.int i)
  | str (x : Str) : DpA K H (.str x) (.str x)
  | lst {a : Addr} {xs : List V} {ds : List PyData} : RdL K H a xs → DpAs K H xs ds → DpA K H (.ref a) (.list ds)
  | tup {a : Addr} {xs : List V} {ds : List PyData} : SqT K H a xs → DpAs K H xs ds → DpA K H (.ref a) (.tuple ds)
  | dG {a : Addr} {es : List (NestedKey × V × V)} {ds : List (PyData × PyData)} : Rd H a (gdO K.w a es) → DpAs K H (es.map (·.2.1)) (ds.map (·.1)) → DpAs K H (es.map (·.2.2)) (ds.map (·.2)) → DpA K H (.ref a) (.dict ds)
inductive DpAs (K : KW) (H : Hp) : List V → List PyData → Prop
  | nil : DpAs K H [] []
  | cons {v : V} {vs : List V} {d : PyData} {ds : List PyData} : DpA K H v d → DpAs K H vs ds → DpAs K H (v :: vs) (d :: ds)
end
mutual
theorem DpZ.any {K : KW} {H : Hp} : ∀ {v : V} {d : PyData}, DpZ K H v d → DpA K H v d
  | _, _, .non => .non
  | _, _, .bl b => .bl b
  | _, _, .int i => .int i
  | _, _, .str x => .str x
  | _, _, .lst h r => .lst h.rd (DpZs.any r)
  | _, _, .tup h r => .tup h (DpZs.any r)
  | _, _, .dG h q h8 hn r r' => .dG (.inr ⟨_, h⟩) (DpZs.any r) (DpZs.any r')
theorem DpZs.any {K : KW} {H : Hp} : ∀ {vs : List V} {ds : List PyData}, DpZs K H vs ds → DpAs K H vs ds
  | _, _, .nil => .nil
  | _, _, .cons h r => .cons (DpZ.any h) (DpZs.any r)
end
section
variable {X : Cx} {pins : List (Addr × Obj)} {σ : St} {H : Hp} {s : Shared}
theorem gd_vals {w : World} : ∀ {es : List (NestedKey × V × V)} {ens : List DictEntry}, Paired (fun (e : NestedKey × V × V) (x : DictEntry) => x.hash = e.1.hash w ∧ RelV e.2.1 x.key ∧ RelV e.2.2 x.val) es ens → Vals (es.map (·.2.1)) (ens.map (·.key)) ∧ Vals (es.map (·.2.2)) (ens.map (·.val))
  | _, _, .nil => ⟨.nil, .nil⟩
  | _, _, .cons h r => ⟨.cons h.2.1 (gd_vals r).1, .cons h.2.2 (gd_vals r).2⟩
mutual
theorem DpA.rds (I : Inv X pins σ H s) : ∀ {v : V} {d : PyData} {u : Value}, DpA X.kw H v d → RelV v u → Rds s.heap u d
  | _, _, u, .non, r => by cases r; exact .none
  | _, _, u, .bl b, r => by cases r; exact .bool b
  | _, _, u, .int i, r => by obtain ⟨t, rfl⟩ := r; exact .int i t
  | _, _, u, .str x, r => by obtain ⟨t, rfl⟩ := r; exact .str x t
  | _, _, u, .lst h q, r => by
    cases r
    obtain ⟨z, its, n, rv, e⟩ := h.obj I
    exact .list e rfl rfl (DpAs.rds I q (by simpa using rv))
  | _, _, u, .tup h q, r => by
    cases r
    obtain ⟨its, rv, ⟨o, e, hc, n, hd⟩, z⟩ := I.tuple h
    exact .tuple e hc hd (DpAs.rds I q (by simpa using rv))
  | _, _, u, .dG h q q', r => by
    cases r
    have z : ObjOk X.prog X.w H s.heap _ (HO.ext _) := h.ok I.hok
    obtain ⟨o, ens, ep, h0, h1, h2, h3, h4⟩ := z.1
    obtain ⟨p1, p2⟩ := gd_vals h4
    exact .dict h0 h1 h2.1 h3 (DpAs.rds I q p1) (DpAs.rds I q' p2)
theorem DpAs.rds (I : Inv X pins σ H s) : ∀ {vs : List V} {ds : List PyData} {us : List Value}, DpAs X.kw H vs ds → Vals vs us → RdsA s.heap us ds
  | _, _, us, .nil, r => by cases r; exact .nil
  | _, _, us, .cons h q, r => by
    cases r with
    | cons r1 r2 => exact .cons (DpA.rds I h r1) (DpAs.rds I q r2)
end
end
/-- the whole datum, through the cells -/
def deepAll (f : D → Option PyData) : List D → Option (List PyData)
  | [] => some []
  | d :: ds => match f d, deepAll f ds with
    | some x, some xs => some (x :: xs)
    | _, _ => none
def deep (m : Store) : Nat → D → Option PyData
  | _, .p d => some d
  | n + 1, .tup xs => (deepAll (deep m n) xs).map .tuple
  | n + 1, .lst xs => (deepAll (deep m n) xs).map .list
  | n + 1, .dct ks xs => (deepAll (deep m n) xs).map fun vs => .dict (ks.zip vs)
  | n + 1, .cell i => match m.at_ i with
    | some (.lst xs) => (deepAll (deep m n) xs).map .list
    | some (.dct kvs) => (deepAll (deep m n) (kvs.map (·.2))).map fun vs => .dict ((kvs.map (·.1)).zip vs)
    | _ => none
  | _, _ => none
theorem deepAll_ok {K : KW} {H : Hp} {c : Anc} {f : D → Option PyData} (hf : ∀ v d p, VD K H c v d → f d = some p → DpA K H v p) : ∀ (xs : List D) (vs : List V) (ps : List PyData), VDs K H c vs xs → deepAll f xs = some ps → DpAs K H vs ps
  | [], vs, ps, h, e => by
    cases e
    unfold VDs at h
    subst h
    exact .nil
  | d :: ds, vs, ps, h, e => by
    unfold VDs at h
    obtain ⟨v, r, e1, h1, h2⟩ := h
    subst e1
    unfold deepAll at e
    split at e
    · rename_i x xs q1 q2
      cases e
      exact .cons (hf v d x h1 q1) (deepAll_ok hf ds r xs h2 q2)
    · cases e
theorem DpAs.len {K : KW} {H : Hp} : ∀ {vs : List V} {ds : List PyData}, DpAs K H vs ds → vs.length = ds.length
  | _, _, .nil => rfl
  | _, _, .cons _ r => by simp [DpAs.len r]
theorem DpA.dict {K : KW} {H : Hp} {a : Addr} {es : List (NestedKey × V × V)} {ks vs : List PyData} (h : Rd H a (gdO K.w a es)) (hk : DpZs K H (es.map (·.2.1)) ks) (hv : DpAs K H (es.map (·.2.2)) vs) : DpA K H (.ref a) (.dict (ks.zip vs)) := by
  have l1 : es.length = ks.length := by have := hk.any.len; simpa using this
  have l2 : es.length = vs.length := by have := hv.len; simpa using this
  refine .dG h ?_ ?_
  · rw [List.map_fst_zip (by omega)]; exact hk.any
  · rw [List.map_snd_zip (by omega)]; exact hv
theorem deep_ok {K : KW} {H : Hp} {c : Anc} {m : Store} (r : RelS K c m H) (n : Nat) : ∀ (v : V) (d : D) (p : PyData), VD K H c v d → deep m n d = some p → DpA K H v p := by
  induction n with
  | zero =>
    intro v d p h e
    cases d with
    | p d =>
      have e : some d = some p := e
      cases e
      unfold VD at h
      exact DpZ.any h
    | _ => cases e
  | succ n ih =>
    intro v d p h e
    cases d with
    | p d =>
      have e : some d = some p := e
      cases e
      unfold VD at h
      exact DpZ.any h
    | tup xs =>
      obtain ⟨a, vs, e1, h1, h2⟩ := tupOf_ok (ds := xs) h rfl
      have e : (deepAll (deep m n) xs).map PyData.tuple = some p := e
      obtain ⟨ps, q1, q2⟩ := Option.map_eq_some_iff.mp e
      subst e1 q2
      exact .tup h1 (deepAll_ok ih xs vs ps h2 q1)
    | lst xs =>
      obtain ⟨a, vs, e1, h1, h2⟩ := lstOf_ok (ds := xs) r h rfl
      have e : (deepAll (deep m n) xs).map PyData.list = some p := e
      obtain ⟨ps, q1, q2⟩ := Option.map_eq_some_iff.mp e
      subst e1 q2
      exact .lst h1 (deepAll_ok ih xs vs ps h2 q1)
    | dct ks xs =>
      have e : (deepAll (deep m n) xs).map (fun vs => PyData.dict (ks.zip vs)) = some p := e
      obtain ⟨ps, q1, q2⟩ := Option.map_eq_some_iff.mp e
      unfold VD at h
      obtain ⟨a, o, es, e1, h1, h2, h3⟩ := h
      subst e1 q2
      exact DpA.dict (.inr ⟨o, h1⟩) h2.kd (deepAll_ok ih xs _ ps h3 q1)
    | cell i =>
      have h0 := h
      unfold VD at h
      obtain ⟨a, h1, e1⟩ := h
      have e : (match m.at_ i with
        | some (.lst xs) => (deepAll (deep m n) xs).map PyData.list
        | some (.dct kvs) => (deepAll (deep m n) (kvs.map (·.2))).map fun vs => PyData.dict ((kvs.map (·.1)).zip vs)
        | _ => none) = some p := e
      split at e
      · rename_i xs hm
        obtain ⟨ps, q1, q2⟩ := Option.map_eq_some_iff.mp e
        obtain ⟨a, vs, e1, h1, h2⟩ := lstOf_ok (ds := xs) r h0 (by simp only [lstOf, hm])
        subst e1 q2
        exact .lst h1 (deepAll_ok ih xs vs ps h2 q1)
      · rename_i kvs hm
        obtain ⟨ps, q1, q2⟩ := Option.map_eq_some_iff.mp e
        obtain ⟨es, g1, g2⟩ := r.at_ i a _ h1 hm
        subst e1 q2
        have g3 := g2.warm.mono (Ext.refl _) (forI_le _ _)
        exact DpA.dict (.inl g1) g3.kd (deepAll_ok ih _ _ ps g3.vd q1)
      · cases e
    | obj _ _ _ => cases e
    | exn _ _ _ => cases e
    | fn _ => cases e
    | ty _ => cases e
    | opq => cases e
/-- the whole datum -/
def whole (m : Store) (d : D) : Option PyData := deep m 8 d
theorem whole_p (m : Store) (d : PyData) : whole m (.p d) = some d := rfl
/-! ### repr, ==, in -/
def reprD : List D → Store → OD
  | [d], m => match whole m d with
    | some p => if p.showable = true ∧ p.shown.length ≤ sizeLine ∧ p.depth ≤ 60 then some (.p (.str p.shown), m) else none
    | none => none
  | _, _ => none
def eqP (neg : Bool) (x y : D) (m : Store) : OD := match whole m x, whole m y with
  | some p, some q => if SeqAt.shaped p = true ∧ SeqAt.shaped q = true then some (.p (.bool (if neg then !PyData.eqv p q else PyData.eqv p q)), m) else none
  | _, _ => none
section
variable {X : Cx}
theorem call_repr (hG : X.A.guards = some []) (hu : X.A.units + 64 < cLine) : CallR X (.builtin "repr") (rOfL X.kw reprD) := by
  intro pins s σ H xs us Q I rv h
  obtain ⟨c, m, ds, r, hv, w⟩ := h
  unfold reprD at w
  split at w
  · rename_i d
    obtain ⟨v, e1, hv1⟩ := VDs.onlyOne hv
    subst e1
    obtain ⟨u, rfl, ru⟩ := vals1 rv
    split at w
    · rename_i p hp
      split at w
      · rename_i hc
        have rd := DpA.rds I (deep_ok r 8 v d p hv1 hp) ru
        refine rd.call hc.1 hc.2.1 hG (by omega) fun h' t tk k => ?_
        exact ⟨.str p.shown, H, I.kept (t' := tk) k, ⟨t, rfl⟩, w.now r (VD.str.mpr rfl)⟩
      · exact w.elim
    · exact w.elim
  · exact w.elim
theorem op_eqP (hu : X.A.units + 64 < cLine) : OpR X (compareOp .Eq) (rOf X.kw (eqP false)) := by
  intro pins s σ H x y v u Q I rx ry h
  obtain ⟨c, m, dx, dy, r, h1, h2, w⟩ := h
  unfold eqP at w
  split at w
  · rename_i p q hp hq
    split at w
    · rename_i hc
      obtain ⟨as, ra⟩ := (DpA.rds I (deep_ok r 8 _ _ _ h1 hp) rx).reads
      obtain ⟨bs, rb⟩ := (DpA.rds I (deep_ok r 8 _ _ _ h2 hq) ry).reads
      exact SeqAt.compareEq_shaped ra rb hc.1 hc.2 hu ⟨.bl _, H, I, rfl, w.now r (VD.bl.mpr rfl)⟩
    · exact w.elim
  · exact w.elim
theorem op_neP (hu : X.A.units + 64 < cLine) : OpR X (compareOp .NotEq) (rOf X.kw (eqP true)) := by
  intro pins s σ H x y v u Q I rx ry h
  obtain ⟨c, m, dx, dy, r, h1, h2, w⟩ := h
  unfold eqP at w
  split at w
  · rename_i p q hp hq
    split at w
    · rename_i hc
      obtain ⟨as, ra⟩ := (DpA.rds I (deep_ok r 8 _ _ _ h1 hp) rx).reads
      obtain ⟨bs, rb⟩ := (DpA.rds I (deep_ok r 8 _ _ _ h2 hq) ry).reads
      exact SeqAt.compareNe_shaped ra rb hc.1 hc.2 hu ⟨.bl _, H, I, rfl, w.now r (VD.bl.mpr rfl)⟩
    · exact w.elim
  · exact w.elim
end
end L2.Dn
namespace L2.Dn
open PySem PySem.Spec PyProof.Rows L2
/-! ### numbers -/
def intOp (C : Int → Int → Bool) (g : Int → Int → PyData) : D → D → Store → OD
  | .p (.int i), .p (.int j), m => if C i j then some (.p (g i j), m) else none
  | _, _, _ => none
def anyI : Int → Int → Bool := fun _ _ => true
section
variable {X : Cx}
theorem opInt {fn : Value → Value → Sem Value} {C : Int → Int → Prop} {g : Int → Int → V} {B : Int → Int → Bool} {h : Int → Int → PyData} (ho : OpR X fn (rI C g)) (hB : ∀ i j, B i j = true → C i j) (hg : ∀ K H i j, DpZ K H (g i j) (h i j)) : OpR X fn (rOf X.kw (intOp B h)) := by
  refine OpR.by_ ho fun x y H Q w => ?_
  obtain ⟨c, m, dx, dy, r, h1, h2, w⟩ := w
  unfold intOp at w
  split at w
  · rename_i i j
    cases hb : B i j with
    | false => rw [hb] at w; exact w.elim
    | true =>
      rw [hb] at w
      exact ⟨i, j, VD.int.mp h1, VD.int.mp h2, hB i j hb, .inl (WantO.now r w (by unfold VD; exact hg _ _ i j))⟩
  · exact w.elim
theorem opInt0 {fn : Value → Value → Sem Value} {g : Int → Int → V} {h : Int → Int → PyData} (ho : OpR X fn (rI0 g)) (hg : ∀ K H i j, DpZ K H (g i j) (h i j)) : OpR X fn (rOf X.kw (intOp anyI h)) := by
  refine OpR.by_ ho fun x y H Q w => ?_
  obtain ⟨c, m, dx, dy, r, h1, h2, w⟩ := w
  unfold intOp at w
  split at w
  · rename_i i j
    exact ⟨i, j, VD.int.mp h1, VD.int.mp h2, .inl (WantO.now r w (by unfold VD; exact hg _ _ i j))⟩
  · exact w.elim
def addI := intOp anyI fun i j => .int (i + j)
def subI := intOp anyI fun i j => .int (i - j)
def ltI := intOp anyI fun i j => .bool (decide (i < j))
def leI := intOp anyI fun i j => .bool (decide (i ≤ j))
def gtI := intOp anyI fun i j => .bool (decide (j < i))
def geI := intOp anyI fun i j => .bool (decide (j ≤ i))
def small (i : Int) : Bool := decide (-(2 ^ 64) < i) && decide (i < 2 ^ 64)
def mulI := intOp (fun i j => small i || small j) fun i j => .int (i * j)
def modI := intOp (fun _ j => decide (0 < j)) fun i j => .int (i % j)
/-- a divisor below 2 ^ 64, whatever is divided -/
def fdivI := intOp (fun _ j => decide (0 < j) && decide (j < 2 ^ 64)) fun i j => .int (i / j)
def powI := intOp (fun i j => decide (0 ≤ j) && decide (j ≤ 1000) && small i) fun i j => .int (i ^ j.toNat)
theorem op_addI : OpR X (binaryOp .Add) (rOf X.kw addI) := opInt0 op_add fun _ _ i j => .int _
theorem op_subI : OpR X (binaryOp .Sub) (rOf X.kw subI) := opInt0 op_sub fun _ _ i j => .int _
theorem op_ltI : OpR X (compareOp .Lt) (rOf X.kw ltI) := opInt0 op_lt fun _ _ i j => .bl _
theorem op_leI : OpR X (compareOp .LtE) (rOf X.kw leI) := opInt0 op_le fun _ _ i j => .bl _
theorem op_gtI : OpR X (compareOp .Gt) (rOf X.kw gtI) := opInt0 op_gt fun _ _ i j => .bl _
theorem op_geI : OpR X (compareOp .GtE) (rOf X.kw geI) := opInt0 op_ge fun _ _ i j => .bl _
theorem op_modI : OpR X (binaryOp .Mod) (rOf X.kw modI) := opInt op_mod (fun i j h => of_decide_eq_true h) fun _ _ i j => .int _
theorem small_iff {i : Int} (h : small i = true) : -(2 ^ 64) < i ∧ i < 2 ^ 64 := by
  simp only [small, Bool.and_eq_true, decide_eq_true_eq] at h
  exact h
theorem op_mulI : OpR X (binaryOp .Mult) (rOf X.kw mulI) := opInt op_mul (fun i j h => by
  rcases Bool.or_eq_true_iff.mp h with h | h
  · exact .inl (small_iff h)
  · exact .inr (small_iff h)) fun _ _ i j => .int _
theorem op_fdivI : OpR X (binaryOp .FloorDiv) (rOf X.kw fdivI) := opInt op_fdivW (fun i j h => by
  simp only [Bool.and_eq_true, decide_eq_true_eq] at h
  exact wide_div (b := 64) h.1 (by omega) (by decide) (by decide)) fun _ _ i j => .int _
theorem op_powI : OpR X (binaryOp .Pow) (rOf X.kw powI) := opInt op_pow (fun i j h => by
  simp only [Bool.and_eq_true, decide_eq_true_eq] at h
  have := small_iff h.2
  exact ⟨h.1.1, by omega, by omega⟩) fun _ _ i j => .int _
def negI : D → Store → OD
  | .p (.int i), m => some (.p (.int (-i)), m)
  | _, _ => none
theorem un_negI : UnR X (unaryOp .USub) (rOf1 X.kw negI) := by
  refine UnR.by_ un_neg fun x H Q w => ?_
  obtain ⟨c, m, dx, r, h1, w⟩ := w
  unfold negI at w
  split at w
  · exact ⟨_, VD.int.mp h1, .inl (WantO.now r w (VD.int.mpr rfl))⟩
  · exact w.elim
/-! ### + of texts, lists, tuples -/
def addS : D → D → Store → OD
  | .p (.str x), .p (.str y), m => if x.length + y.length ≤ sizeLine then some (.p (.str (x ++ y)), m) else none
  | _, _, _ => none
theorem op_addS : OpR X (binaryOp .Add) (rOf X.kw addS) := by
  refine OpR.by_ op_add_str fun x y H Q w => ?_
  obtain ⟨c, m, dx, dy, r, h1, h2, w⟩ := w
  unfold addS at w
  split at w
  · split at w
    · rename_i hz
      exact ⟨_, _, VD.str.mp h1, VD.str.mp h2, hz, .inl (WantO.now r w (VD.str.mpr rfl))⟩
    · exact w.elim
  · exact w.elim
theorem op_catR : OpR X (binaryOp .Add) (fun x y H Q => ∃ l b xs zs, x = .ref l ∧ y = .ref b ∧ RdL X.K H l xs ∧ RdL X.K H b zs ∧ xs.length + zs.length ≤ sizeLine ∧ ∀ p, H p = none → Q (.ref p) (upd H p (.lst (xs ++ zs)))) := by
  intro pins s σ H x y v u Q I rx ry h
  obtain ⟨l, b, xs, zs, rfl, rfl, hA, hB, hz, q⟩ := h
  cases rx
  cases ry
  obtain ⟨_, i1, n1, r1, e1⟩ := hA.obj I
  obtain ⟨_, i2, n2, r2, e2⟩ := hB.obj I
  have l1 := r1.length
  have l2 := r2.length
  refine PySem.P.add_list e1 e2 ?_ (by simp only [List.size_toArray]; omega)
  rw [show i1.toArray ++ i2.toArray = (i1 ++ i2).toArray by simp]
  exact ⟨.ref _, _, I.lnew (t' := s.toks) (r1.append r2) (by simpa using hz), rfl, q _ I.fresh⟩
def addL (z : Md) (x y : D) (m : Store) : OD := match lstOf x m, lstOf y m with
  | some xs, some ys => if xs.length + ys.length ≤ sizeLine then newO z (xs ++ ys) m else none
  | _, _ => none
theorem op_addL (z : Md) : OpR X (binaryOp .Add) (rOf X.kw (addL z)) := by
  refine OpR.by_ op_catR fun x y H Q w => ?_
  obtain ⟨c, m, dx, dy, r, h1, h2, w⟩ := w
  unfold addL at w
  split at w
  · rename_i xs ys q1 q2
    split at w
    · rename_i hz
      obtain ⟨a, vs, e1, k1, k2⟩ := lstOf_ok r h1 q1
      obtain ⟨b, ws, e2, k3, k4⟩ := lstOf_ok r h2 q2
      exact ⟨a, b, vs, ws, e1, e2, k1, k3, by rw [k2.length, k4.length]; exact hz, newO_ok r (k2.append k4) w⟩
    · exact w.elim
  · exact w.elim
def addT (x y : D) (m : Store) : OD := match tupOf x, tupOf y with
  | some xs, some ys => if xs.length + ys.length ≤ sizeLine then some (mkTup (xs ++ ys), m) else none
  | _, _ => none
theorem op_addT : OpR X (binaryOp .Add) (rOf X.kw addT) := by
  refine OpR.by_ op_catA fun x y H Q w => ?_
  obtain ⟨c, m, dx, dy, r, h1, h2, w⟩ := w
  unfold addT at w
  split at w
  · rename_i xs ys q1 q2
    split at w
    · rename_i hz
      obtain ⟨a, vs, e1, k1, k2⟩ := tupOf_ok h1 q1
      obtain ⟨b, ws, e2, k3, k4⟩ := tupOf_ok h2 q2
      refine ⟨a, b, vs, ws, e1, e2, k1, k3, by rw [k2.length, k4.length]; exact hz, fun e => ?_, fun _ e => ?_, fun _ _ p hp => .inl (newTO_ok r (k2.append k4) w p hp)⟩
      · subst e
        have e : xs = [] := List.eq_nil_of_length_eq_zero (by rw [← k2.length]; rfl)
        subst e
        exact .inl (WantO.now r w (mkTup_ok k4 k3))
      · subst e
        have e : ys = [] := List.eq_nil_of_length_eq_zero (by rw [← k4.length]; rfl)
        subst e
        rw [List.append_nil] at w
        exact .inl (WantO.now r w (mkTup_ok k2 k1))
    · exact w.elim
  · exact w.elim
/-- a text times an int -/
def mulS : D → D → Store → OD
  | .p (.str x), .p (.int n), m => if decide (-1000000 ≤ n) && decide (n ≤ 1000000) && decide (x.length ≤ 16) then some (.p (.str (Txt.mul x n)), m) else none
  | _, _, _ => none
theorem op_mulS : OpR X (binaryOp .Mult) (rOf X.kw mulS) := by
  intro pins s σ H x y v u Q I rx ry h
  obtain ⟨c, m, dx, dy, r, h1, h2, w⟩ := h
  unfold mulS at w
  split at w
  · rename_i z n
    split at w
    · rename_i hz
      simp only [Bool.and_eq_true, decide_eq_true_eq] at hz
      cases VD.str.mp h1
      cases VD.int.mp h2
      obtain ⟨t, rfl⟩ := rx
      obtain ⟨t', rfl⟩ := ry
      refine PySem.SB.mul ⟨?_, fun a b => ?_, fun a b => ?_⟩ fun t2 k => ⟨.str _, H, I.tok k, ⟨t2, rfl⟩, WantO.now r w (VD.str.mpr rfl)⟩
      · simp only [Bool.or_eq_false_iff, decide_eq_false_iff_not]
        constructor <;> omega
      · have hn : 0 < n := by omega
        intro hgt
        have h3 : ((z.length : Int)) * n ≤ 16 * 1000000 := by
          have a1 : (z.length : Int) * n ≤ 16 * n := Int.mul_le_mul_of_nonneg_right (by omega) (by omega)
          omega
        have h4 : (z.length : Int) ≤ (2 ^ 63 - 1) / n := (Int.le_ediv_iff_mul_le hn).mpr (by omega)
        omega
      · have h3 : z.length * n.toNat ≤ 16 * 1000000 := Nat.mul_le_mul hz.2 (by omega)
        unfold Builtin.Str.tooLong
        simp only [decide_eq_false_iff_not]
        rw [sizeLine_eq]
        omega
    · exact w.elim
  · exact w.elim
/-! ### items, slices -/
def ixD (d i : D) (m : Store) : OD := match i with
  | .p (.int k) => match d with
    | .p (.str x) => if x.length ≤ sizeLine then (match atI x.cps.toList k with
      | some n => some (.p (.str ⟨#[n]⟩), m)
      | none => none) else none
    | d => match tupOf d with
      | some xs => (atI xs k).map fun y => (y, m)
      | none => match lstOf d m with
        | some xs => (atI xs k).map fun y => (y, m)
        | none => none
  | _ => none
theorem VDs.atI {K : KW} {H : Hp} {c : Anc} {vs : List V} {ds : List D} {k : Int} {d : D} (h : VDs K H c vs ds) (e : L2.atI ds k = some d) : ∃ v, L2.atI vs k = some v ∧ VD K H c v d := by
  unfold L2.atI at e ⊢
  rw [h.length]
  cases q : ixN ds.length k with
  | none => rw [q] at e; cases e
  | some j =>
    rw [q] at e
    obtain ⟨v, h1, h2⟩ := h.get (show ds[j]? = some d from e)
    exact ⟨v, h1, h2⟩
theorem ix_D : IxR X (rOf X.kw ixD) := by
  refine IxR.by_ ix_seq fun x y H Q w => ?_
  obtain ⟨c, m, dx, dy, r, h1, h2, w⟩ := w
  unfold ixD at w
  split at w
  · rename_i k
    split at w
    · rename_i z
      split at w
      · rename_i hz
        split at w
        · rename_i n hn
          exact .inr (.inr ⟨z, k, n, VD.str.mp h1, VD.int.mp h2, hz, hn, .inl (WantO.now r w (VD.str.mpr rfl))⟩)
        · exact w.elim
      · exact w.elim
    · split at w
      · rename_i xs hx
        cases q : atI xs k with
        | none => rw [q] at w; exact w.elim
        | some d =>
          rw [q] at w
          obtain ⟨a, vs, e1, k1, k2⟩ := tupOf_ok h1 hx
          obtain ⟨v, e2, hv⟩ := k2.atI q
          exact .inr (.inl ⟨a, vs, k, v, e1, VD.int.mp h2, k1, e2, .inl (WantO.now r w hv)⟩)
      · split at w
        · rename_i xs hx
          cases q : atI xs k with
          | none => rw [q] at w; exact w.elim
          | some d =>
            rw [q] at w
            obtain ⟨a, vs, e1, k1, k2⟩ := lstOf_ok r h1 hx
            obtain ⟨v, e2, hv⟩ := k2.atI q
            exact .inl ⟨a, vs, k, v, e1, VD.int.mp h2, RdL.sq k1, e2, .inl (WantO.now r w hv)⟩
        · exact w.elim
  · exact w.elim
def cutD (xs : List D) (lo hi : Option Int) : List D := (xs.drop (HT.sIx xs.length 0 lo)).take (HT.sIx xs.length xs.length hi - HT.sIx xs.length 0 lo)
theorem VDs.cut {K : KW} {H : Hp} {c : Anc} {vs : List V} {ds : List D} (h : VDs K H c vs ds) (lo hi : Option Int) : VDs K H c (cutV vs lo hi) (cutD ds lo hi) := by
  unfold cutV cutD
  rw [h.length]
  exact (h.drop _).take _
def slL (z : Md) (d : D) (lo hi : Option Int) (m : Store) : OD := match lstOf d m with
  | some xs => newO z (cutD xs lo hi) m
  | none => none
theorem sl_L (z : Md) : SlR X (rOfS X.kw (slL z)) := by
  refine SlR.by_ sl_list fun x lo hi H Q w => ?_
  obtain ⟨c, m, dx, r, h1, w⟩ := w
  unfold slL at w
  split at w
  · rename_i xs hx
    obtain ⟨a, vs, e1, k1, k2⟩ := lstOf_ok r h1 hx
    exact ⟨a, vs, e1, RdL.sq k1, newO_ok r (k2.cut lo hi) w⟩
  · exact w.elim
def slS (d : D) (lo hi : Option Int) (m : Store) : OD := match d with
  | .p (.str x) => if x.length ≤ sizeLine then some (.p (.str (cutS x lo hi)), m) else none
  | _ => none
theorem sl_S : SlR X (rOfS X.kw slS) := by
  refine SlR.by_ sl_str fun x lo hi H Q w => ?_
  obtain ⟨c, m, dx, r, h1, w⟩ := w
  unfold slS at w
  split at w
  · split at w
    · rename_i hz
      exact ⟨_, VD.str.mp h1, hz, .inl (WantO.now r w (VD.str.mpr rfl))⟩
    · exact w.elim
  · exact w.elim
def slT (d : D) (lo hi : Option Int) (m : Store) : OD := match tupOf d with
  | some xs => some (mkTup (cutD xs lo hi), m)
  | none => none
theorem sl_T : SlR X (rOfS X.kw slT) := by
  refine SlR.by_ sl_tupA fun x lo hi H Q w => ?_
  obtain ⟨c, m, dx, r, h1, w⟩ := w
  unfold slT at w
  split at w
  · rename_i xs hx
    obtain ⟨a, vs, e1, k1, k2⟩ := tupOf_ok h1 hx
    refine ⟨a, vs, e1, k1, fun hw => ?_, fun _ p hp => .inl (newTO_ok r (k2.cut lo hi) w p hp)⟩
    have e : cutV vs lo hi = vs := by
      unfold cutV
      rw [hw.1, hw.2]
      simp
    have k3 := k2.cut lo hi
    rw [e] at k3
    exact .inl (WantO.now r w (mkTup_ok k3 k1))
  · exact w.elim
variable {W : WX} {a b e : Expr} {fa f : FE} {pos : Pos}
def revE (z : Md) (f : FE) : FE := fun ρ m => (f ρ m).bind fun d m1 => match lstOf d m1 with
  | some xs => newL z xs.reverse m1
  | none => .stuck
theorem VDs.reverse {K : KW} {H : Hp} {c : Anc} : ∀ {ds : List D} {vs : List V}, VDs K H c vs ds → VDs K H c vs.reverse ds.reverse
  | [], vs, h => by unfold VDs at h; subst h; simp [VDs]
  | d :: ds, vs, h => by
    unfold VDs at h
    obtain ⟨v, r, e1, h1, h2⟩ := h
    subst e1
    rw [List.reverse_cons, List.reverse_cons]
    exact (VDs.reverse h2).append (VDs.one h1)
theorem de_rev (z : Md) {k : Nat} {p1 p2 p3 : Pos} (h : DE X W e f) : DE X W (.Subscript e (.Slice none none (some (.UnaryOp .USub (.Constant (.int 1) k p1) p2)) p3) pos) (revE z f) := fun c ρ m σ H Q r s w =>
  WE.frz (we_of (pe_revL pe_w) (h.thenE r s w fun d m1 c1 v H1 r1 s1 g1 h1 w1 => by
    split at w1
    · rename_i xs hx
      obtain ⟨a, vs, e1, k1, k2⟩ := lstOf_ok r1 h1 hx
      exact ⟨a, vs, e1, RdL.sq k1, newL_ok r1 k2.reverse w1⟩
    · exact w1.elim))
end
end L2.Dn
namespace L2.Dn
open PySem PySem.Spec PyProof.Rows L2
/-! ### built-in functions -/
def absD : List D → Store → OD
  | [.p (.int i)], m => some (.p (.int (if i < 0 then -i else i)), m)
  | _, _ => none
def intD : List D → Store → OD
  | [.p (.int i)], m => some (.p (.int i), m)
  | [.p (.bool b)], m => some (.p (.int (if b then 1 else 0)), m)
  | _, _ => none
def lenD : List D → Store → OD
  | [.p (.str x)], m => if x.length ≤ sizeLine then some (.p (.int x.length), m) else none
  | [d], m => match tupOf d with
    | some xs => some (.p (.int xs.length), m)
    | none => match lstOf d m with
      | some xs => some (.p (.int xs.length), m)
      | none => none
  | _, _ => none
def bools : List D → Option (List Bool)
  | [] => some []
  | .p (.bool b) :: r => (bools r).map (b :: ·)
  | _ :: _ => none
def allD : List D → Store → OD
  | [d], m => match lstOf d m with
    | some xs => (bools xs).map fun bs => (.p (.bool (bs.all id)), m)
    | none => none
  | _, _ => none
def anyD : List D → Store → OD
  | [d], m => match lstOf d m with
    | some xs => (bools xs).map fun bs => (.p (.bool (bs.any id)), m)
    | none => none
  | _, _ => none
def tupleD : List D → Store → OD
  | [d], m => match tupOf d with
    | some _ => some (d, m)
    | none => match lstOf d m with
      | some xs => some (mkTup xs, m)
      | none => none
  | _, _ => none
def listD (z : Md) : List D → Store → OD
  | [d], m => match tupOf d with
    | some xs => newO z xs m
    | none => match lstOf d m with
      | some xs => newO z xs m
      | none => none
  | _, _ => none
/-- the name of the built-in type -/
def tyN : D → Store → Option String
  | .p .none, _ => some "NoneType"
  | .p (.bool _), _ => some "bool"
  | .p (.int _), _ => some "int"
  | .p (.str _), _ => some "str"
  | .p (.list _), _ => some "list"
  | .p (.tuple _), _ => some "tuple"
  | .p (.dict _), _ => some "dict"
  | .tup _, _ => some "tuple"
  | .lst _, _ => some "list"
  | .dct _ _, _ => some "dict"
  | .cell i, m => match m.at_ i with
    | some (.lst _) => some "list"
    | some (.dct _) => some "dict"
    | _ => none
  | _, _ => none
def tysOf : List D → Option (List String)
  | [] => some []
  | .ty n :: r => (tysOf r).map (n :: ·)
  | _ :: _ => none
def kitBs (t : String) : List String → Option Bool
  | [] => some false
  | n :: ns => match kitB t n with
    | some true => some true
    | some false => kitBs t ns
    | none => none
def isiD : List D → Store → OD
  | [d, .ty n], m => match tyN d m with
    | some t => (kitB t n).map fun b => (.p (.bool b), m)
    | none => none
  | [d, .tup xs], m => match tyN d m, tysOf xs with
    | some t, some ns => (kitBs t ns).map fun b => (.p (.bool b), m)
    | _, _ => none
  | _, _ => none
theorem tysOf_ok {K : KW} {H : Hp} {c : Anc} : ∀ {xs : List D} {vs : List V} {ns : List String}, VDs K H c vs xs → tysOf xs = some ns → vs = ns.map V.ty
  | [], vs, ns, h, e => by
    unfold VDs at h
    cases e
    exact h
  | .ty n :: r, vs, ns, h, e => by
    unfold VDs at h
    obtain ⟨v, q, e1, h1, h2⟩ := h
    simp only [tysOf, Option.map_eq_some_iff] at e
    obtain ⟨ms, e2, rfl⟩ := e
    unfold VD at h1
    rw [e1, h1, tysOf_ok h2 e2]
    rfl
  | .p _ :: _, _, _, _, e => by cases e
  | .cell _ :: _, _, _, _, e => by cases e
  | .tup _ :: _, _, _, _, e => by cases e
  | .lst _ :: _, _, _, _, e => by cases e
  | .dct _ _ :: _, _, _, _, e => by cases e
  | .obj _ _ _ :: _, _, _, _, e => by cases e
  | .exn _ _ _ :: _, _, _, _, e => by cases e
  | .fn _ :: _, _, _, _, e => by cases e
  | .opq :: _, _, _, _, e => by cases e
theorem kitBs_ok {K : PySem.W.Frag} {t : String} : ∀ {ns : List String} {b : Bool}, kitBs t ns = some b → PySem.W.kitAny K (.type t) (ns.map Value.type) = some b
  | [], b, e => e
  | n :: ns, b, e => by
    unfold kitBs at e
    show (match PySem.W.kitOne K (.type t) (.type n) with | some true => some true | some false => PySem.W.kitAny K (.type t) (ns.map Value.type) | none => none) = some b
    cases q : kitB t n with
    | none => rw [q] at e; cases e
    | some k =>
      rw [kit_ty q]
      rw [q] at e
      cases k with
      | true => exact e
      | false => exact kitBs_ok e
theorem tys_vals : ∀ {ns : List String} {us : List Value}, Vals (ns.map V.ty) us → us = ns.map Value.type
  | [], _, .nil => rfl
  | n :: ns, _, .cons r t => by
    cases r
    rw [tys_vals t]
    rfl
section
variable {X : Cx} {c : Anc} {H : Hp} {m : Store}
theorem call_absD : CallR X (.builtin "abs") (rOfL X.kw absD) := by
  refine CallR.by_ call_abs fun xs H Q w => ?_
  obtain ⟨c, m, ds, r, hv, w⟩ := w
  unfold absD at w
  split at w
  · obtain ⟨v, e, h⟩ := VDs.onlyOne hv
    cases VD.int.mp h
    exact ⟨_, e, .inl (WantO.now r w (VD.int.mpr rfl))⟩
  · exact w.elim
theorem call_intD : CallR X (.type "int") (rOfL X.kw intD) := by
  refine CallR.by_ call_int1 fun xs H Q w => ?_
  obtain ⟨c, m, ds, r, hv, w⟩ := w
  unfold intD at w
  split at w
  · obtain ⟨v, e, h⟩ := VDs.onlyOne hv
    cases VD.int.mp h
    exact .inl ⟨_, e, .inl (WantO.now r w (VD.int.mpr rfl))⟩
  · obtain ⟨v, e, h⟩ := VDs.onlyOne hv
    cases VD.bl.mp h
    exact .inr ⟨_, e, .inl (WantO.now r w (VD.int.mpr rfl))⟩
  · exact w.elim
theorem call_lenD : CallR X (.builtin "len") (rOfL X.kw lenD) := by
  refine CallR.by_ L2.call_len fun xs H Q w => ?_
  obtain ⟨c, m, ds, r, hv, w⟩ := w
  unfold lenD at w
  split at w
  · split at w
    · rename_i hz
      obtain ⟨v, e, h⟩ := VDs.onlyOne hv
      cases VD.str.mp h
      exact ⟨_, _, e, ⟨hz, rfl⟩, .inl (WantO.now r w (VD.int.mpr rfl))⟩
    · exact w.elim
  · obtain ⟨v, e, h⟩ := VDs.onlyOne hv
    split at w
    · rename_i xs hx
      obtain ⟨a, vs, e1, k1, k2⟩ := tupOf_ok h hx
      subst e1
      exact ⟨_, xs.length, e, .inr ⟨vs, k1, k2.length.symm⟩, .inl (WantO.now r w (VD.int.mpr rfl))⟩
    · split at w
      · rename_i xs hx
        obtain ⟨a, vs, e1, k1, k2⟩ := lstOf_ok r h hx
        subst e1
        exact ⟨_, xs.length, e, .inl ⟨vs, RdL.sq k1, k2.length.symm⟩, .inl (WantO.now r w (VD.int.mpr rfl))⟩
      · exact w.elim
  · exact w.elim
theorem bools_cons {d : D} {ds : List D} {bs : List Bool} (e : bools (d :: ds) = some bs) : ∃ k ks, d = .p (.bool k) ∧ bools ds = some ks ∧ bs = k :: ks := by
  match d, e with
  | .p (.bool k), e =>
    have e : (bools ds).map (k :: ·) = some bs := e
    simp only [Option.map_eq_some_iff] at e
    obtain ⟨ks, e1, e2⟩ := e
    exact ⟨k, ks, rfl, e1, e2.symm⟩
theorem bools_ok {K : KW} : ∀ {ds : List D} {vs : List V} {bs : List Bool}, VDs K H c vs ds → bools ds = some bs → vs = bs.map V.bl
  | [], vs, bs, h, e => by unfold VDs at h; subst h; cases e; rfl
  | d :: ds, vs, bs, h, e => by
    unfold VDs at h
    obtain ⟨v, r, e1, h1, h2⟩ := h
    obtain ⟨k, ks, q1, q2, q3⟩ := bools_cons e
    subst e1 q1 q3
    rw [VD.bl.mp h1, bools_ok h2 q2]
    rfl
theorem call_allD (hc : X.calm = true) : CallR X (.builtin "all") (rOfL X.kw allD) := by
  refine CallR.by_ (cr_all hc) fun xs H Q w => ?_
  obtain ⟨c, m, ds, r, hv, w⟩ := w
  unfold allD at w
  split at w
  · obtain ⟨v, e, h⟩ := VDs.onlyOne hv
    split at w
    · rename_i xs hx
      obtain ⟨a, vs, e1, k1, k2⟩ := lstOf_ok r h hx
      cases q : bools xs with
      | none => rw [q] at w; exact w.elim
      | some bs =>
        rw [q] at w
        have eb := bools_ok k2 q
        subst eb e1
        exact ⟨a, bs, e, RdL.sq k1, .inl (WantO.now r w (VD.bl.mpr rfl))⟩
    · exact w.elim
  · exact w.elim
theorem call_tupleD : CallR X (.type "tuple") (rOfL X.kw tupleD) := by
  refine CallR.by_ call_tuple_of fun xs H Q w => ?_
  obtain ⟨c, m, ds, r, hv, w⟩ := w
  unfold tupleD at w
  split at w
  · obtain ⟨v, e, h⟩ := VDs.onlyOne hv
    split at w
    · rename_i xs hx
      obtain ⟨a, vs, e1, k1, k2⟩ := tupOf_ok h hx
      subst e1
      exact ⟨a, vs, e, .inr ⟨k1, .inl (WantO.now r w h)⟩⟩
    · split at w
      · rename_i xs hx
        obtain ⟨a, vs, e1, k1, k2⟩ := lstOf_ok r h hx
        subst e1
        exact ⟨a, vs, e, .inl ⟨RdL.sq k1, fun l hl => .inl (newTO_ok r k2 w l hl)⟩⟩
      · exact w.elim
  · exact w.elim
theorem call_listD (z : Md) : CallR X (.type "list") (rOfL X.kw (listD z)) := by
  refine CallR.by_ call_list_of fun xs H Q w => ?_
  obtain ⟨c, m, ds, r, hv, w⟩ := w
  unfold listD at w
  split at w
  · obtain ⟨v, e, h⟩ := VDs.onlyOne hv
    split at w
    · rename_i xs hx
      obtain ⟨a, vs, e1, k1, k2⟩ := tupOf_ok h hx
      subst e1
      exact ⟨a, vs, e, .inr k1, newO_ok r k2 w⟩
    · split at w
      · rename_i xs hx
        obtain ⟨a, vs, e1, k1, k2⟩ := lstOf_ok r h hx
        subst e1
        exact ⟨a, vs, e, .inl (RdL.sq k1), newO_ok r k2 w⟩
      · exact w.elim
  · exact w.elim
theorem tyT {K : KW} {a : Addr} {vs : List V} (h : SqT K H a vs) : TyX K H (.ref a) (.type "tuple") := by
  rcases h with (h | ⟨o, h⟩) | ⟨o, its, n, hk, hc, _⟩
  · exact .base (.tup h)
  · exact .fTuple h
  · exact .kTuple hk hc
theorem tyL {K : KW} {a : Addr} {vs : List V} (h : FzL K H a vs) : TyX K H (.ref a) (.type "list") := by
  rcases h with ⟨o, h⟩ | ⟨its, n, hk, _⟩
  · exact .base (.frz h)
  · exact .kList hk rfl
/-- the type of a value, dicts of any keys among them -/
inductive TyG (K : KW) (H : Hp) : V → Value → Prop where
  | x {v : V} {t : Value} (h : TyX K H v t) : TyG K H v t
  | d {a : Addr} {es : List (NestedKey × V × V)} (h : Rd H a (gdO K.w a es)) : TyG K H (.ref a) (.type "dict")
theorem kitG {pins : List (Addr × Obj)} {σ : St} {s : Shared} {x : V} {u t : Value} (I : Inv X pins σ H s) (rx : RelV x u) (ty : TyG X.kw H x t) : ∃ P : Heap → Prop, PySem.W.KitX X.K u t P ∧ P s.heap ∧ u ≠ .builtin "__main__.__loader__#opaque" := by
  cases ty with
  | x h => exact kit_of I rx h
  | d h =>
    cases rx
    have z : ObjOk X.prog X.w H s.heap _ (HO.ext _) := h.ok I.hok
    obtain ⟨o, ens, ep, h0, h1, h2, _⟩ := z.1
    exact ⟨_, PySem.W.kitx_dict, ⟨o, h1, h2.1⟩, fun z => nomatch z⟩
theorem tyN_ok {v : V} {d : D} {t : String} (r : RelS X.kw c m H) (h : VD X.kw H c v d) (e : tyN d m = some t) : TyG X.kw H v (.type t) := by
  unfold tyN at e
  split at e
  · cases e; cases VD.non.mp h; exact .x (.base .non)
  · cases e; cases VD.bl.mp h; exact .x (.base (.bl _))
  · cases e; cases VD.int.mp h; exact .x (.base (.int _))
  · cases e; cases VD.str.mp h; exact .x (.base (.str _))
  · cases e
    unfold VD at h
    cases h with
    | lst f q => exact .x (tyL f)
  · cases e
    unfold VD at h
    cases h with
    | tup f q => exact .x (tyT f)
  · cases e
    unfold VD at h
    cases h with
    | dG f _ _ _ _ _ => exact .d (.inr ⟨_, f⟩)
  · cases e
    obtain ⟨a, vs, e1, h2, _⟩ := tupOf_ok h rfl
    subst e1
    exact .x (tyT h2)
  · cases e
    unfold VD at h
    obtain ⟨a, vs, e1, h2, _⟩ := h
    subst e1
    exact .x (tyL h2)
  · cases e
    unfold VD at h
    obtain ⟨a, o, es, rfl, h2, _⟩ := h
    exact .d (.inr ⟨_, h2⟩)
  · unfold VD at h
    obtain ⟨a, h1, e1⟩ := h
    subst e1
    split at e
    · rename_i xs hm
      cases e
      obtain ⟨ys, h2, _⟩ := r.at_ _ _ _ h1 hm
      exact .x (.base (.lst h2))
    · rename_i xs hm
      cases e
      obtain ⟨ys, h2, _⟩ := r.at_ _ _ _ h1 hm
      exact .d (.inl h2)
    · cases e
  · cases e
theorem call_isiD : CallR X (.builtin "isinstance") (rOfL X.kw isiD) := by
  intro pins s σ H xs us Q I rv w
  obtain ⟨c, m, ds, r, hv, w⟩ := w
  unfold isiD at w
  split at w
  · rename_i d n
    obtain ⟨v, v', e, h1, h2⟩ := VDs.two hv
    unfold VD at h2
    subst h2 e
    split at w
    · rename_i t ht
      cases q : kitB t n with
      | none => rw [q] at w; exact w.elim
      | some b =>
        rw [q] at w
        obtain ⟨u1, u2, rfl, r1, r2⟩ := vals2 rv
        cases r2
        obtain ⟨P, Z, p, hx⟩ := kitG I r1 (tyN_ok r h1 ht)
        exact PySem.W.kia_one Z I.kIn p (kit_ty q) hx fun tk => ⟨.bl b, H, I.tok tk, rfl, WantO.now r w (VD.bl.mpr rfl)⟩
    · exact w.elim
  · rename_i d ts
    obtain ⟨v, v', e, h1, h2⟩ := VDs.two hv
    subst e
    unfold VD at h2
    obtain ⟨a, vs, rfl, h3, h4⟩ := h2
    split at w
    · rename_i t ns ht hn
      cases q : kitBs t ns with
      | none => rw [q] at w; exact w.elim
      | some b =>
        rw [q] at w
        obtain ⟨u1, u2, rfl, r1, r2⟩ := vals2 rv
        cases r2
        have e1 := tysOf_ok h4 hn
        subst e1
        obtain ⟨its, rv2, ⟨o, e2, hc, n, hd⟩, z⟩ := I.tuple h3
        have e3 := tys_vals rv2
        obtain ⟨oc, od, dt, sl⟩ := o
        simp only at hc hd
        subst hc hd
        have e4 : its = ns.map Value.type := e3
        obtain ⟨P, Z, p, hx⟩ := kitG I r1 (tyN_ok r h1 ht)
        exact PySem.W.kia_tup Z I.kIn p e2 (by rw [e4]; exact kitBs_ok q) hx fun tk => ⟨.bl b, H, I.tok tk, rfl, WantO.now r w (VD.bl.mpr rfl)⟩
    · exact w.elim
  · exact w.elim
/-! ### in -/
mutual
theorem DpA.dp {K : KW} : ∀ {v : V} {d : PyData}, DpA K H v d → d.canLay0 = true → Dp K H v d
  | _, _, .non, _ => .non
  | _, _, .bl b, _ => .bl b
  | _, _, .int i, _ => .int i
  | _, _, .str x, _ => .str x
  | _, _, .lst h r, e => .lst (RdL.sq h) (DpAs.dp r (by simpa [PyData.canLay0] using e))
  | _, _, .tup h r, e => .tup h (DpAs.dp r (by simpa [PyData.canLay0] using e))
  | _, _, .dG h q r, e => by simp [PyData.canLay0] at e
theorem DpAs.dp {K : KW} : ∀ {vs : List V} {ds : List PyData}, DpAs K H vs ds → PyData.canLayAll0 ds = true → DpAll K H vs ds
  | _, _, .nil, _ => .nil
  | _, _, .cons h r, e => by
    simp only [PyData.canLayAll0, Bool.and_eq_true] at e
    exact .cons (DpA.dp h e.1) (DpAs.dp r e.2)
end
def inL (neg : Bool) (x y : D) (m : Store) : OD := match whole m x, whole m y with
  | some p, some (.list qs) => if SeqAt.shaped p = true ∧ SeqAt.shaped (.list qs) = true then some (.p (.bool (if neg then !(qs.any fun z => PyData.eqv z p) else qs.any fun z => PyData.eqv z p)), m) else none
  | _, _ => none
theorem op_inL (hu : X.A.units + 65 < cLine) : OpR X (compareOp .In) (rOf X.kw (inL false)) := by
  refine OpR.by_ (op_inD hu) fun x y H Q w => ?_
  obtain ⟨c, m, dx, dy, r, h1, h2, w⟩ := w
  unfold inL at w
  split at w
  · rename_i p qs e1 e2
    split at w
    · rename_i hs
      exact ⟨p, qs, (deep_ok r 8 _ _ _ h1 e1).dp (SeqAt.canLay_of_shaped hs.1), (deep_ok r 8 _ _ _ h2 e2).dp (SeqAt.canLay_of_shaped hs.2), hs.1, hs.2, .inl (WantO.now r w (VD.bl.mpr rfl))⟩
    · exact w.elim
  · exact w.elim
theorem op_notInL (hu : X.A.units + 65 < cLine) : OpR X (compareOp .NotIn) (rOf X.kw (inL true)) := by
  refine OpR.by_ (op_notInD hu) fun x y H Q w => ?_
  obtain ⟨c, m, dx, dy, r, h1, h2, w⟩ := w
  unfold inL at w
  split at w
  · rename_i p qs e1 e2
    split at w
    · rename_i hs
      exact ⟨p, qs, (deep_ok r 8 _ _ _ h1 e1).dp (SeqAt.canLay_of_shaped hs.1), (deep_ok r 8 _ _ _ h2 e2).dp (SeqAt.canLay_of_shaped hs.2), hs.1, hs.2, .inl (WantO.now r w (VD.bl.mpr rfl))⟩
    · exact w.elim
  · exact w.elim
/-- a text in a tuple of texts -/
def strsOf : List PyData → Option (List Str)
  | [] => some []
  | .str x :: r => (strsOf r).map (x :: ·)
  | _ :: _ => none
def inTs (neg : Bool) (x y : D) (m : Store) : OD := match x, y with
  | .p (.str z), .p (.tuple qs) => (strsOf qs).map fun ys => (.p (.bool (if neg then !(ys.contains z) else ys.contains z)), m)
  | _, _ => none
theorem strs_cons {d : PyData} {ds : List PyData} {bs : List Str} (e : strsOf (d :: ds) = some bs) : ∃ k ks, d = .str k ∧ strsOf ds = some ks ∧ bs = k :: ks := by
  match d, e with
  | .str k, e =>
    have e : (strsOf ds).map (k :: ·) = some bs := e
    simp only [Option.map_eq_some_iff] at e
    obtain ⟨ks, e1, e2⟩ := e
    exact ⟨k, ks, rfl, e1, e2.symm⟩
theorem strs_ok {K : KW} : ∀ {ds : List PyData} {vs : List V} {ys : List Str}, DpZs K H vs ds → strsOf ds = some ys → vs = ys.map V.str
  | _, _, ys, .nil, e => by cases e; rfl
  | _, _, ys, .cons (d := d) h r, e => by
    obtain ⟨k, ks, q1, q2, q3⟩ := strs_cons e
    subst q1 q3
    cases h
    rw [strs_ok r q2]
    rfl
theorem flat_strs : ∀ ys : List Str, (ys.map V.str).all flatV = true
  | [] => rfl
  | y :: ys => by simp [flatV, flat_strs ys]
theorem inV_strs (z : Str) : ∀ ys : List Str, inV (.str z) (ys.map V.str) = ys.contains z
  | [] => rfl
  | y :: ys => by
    have ih := inV_strs z ys
    unfold inV at ih ⊢
    rw [List.map_cons, List.any_cons, ih, List.contains_cons]
    congr 1
    show (y == z) = (z == y)
    exact Bool.beq_comm
theorem op_inTs : OpR X (compareOp .In) (rOf X.kw (inTs false)) := by
  refine OpR.by_ op_in_seq fun x y H Q w => ?_
  obtain ⟨c, m, dx, dy, r, h1, h2, w⟩ := w
  unfold inTs at w
  split at w
  · rename_i z qs
    cases q : strsOf qs with
    | none => rw [q] at w; exact w.elim
    | some ys =>
      rw [q] at w
      unfold VD at h2
      cases h2 with
      | @tup a xs _ f k =>
        have e := strs_ok k q
        subst e
        refine ⟨a, _, rfl, .inr f, by rw [VD.str.mp h1]; rfl, flat_strs ys, .inl (WantO.now r w ?_)⟩
        rw [VD.str.mp h1, inV_strs]
        exact VD.bl.mpr rfl
  · exact w.elim
/-- one sign in a text -/
def inSg (neg : Bool) (x y : D) (m : Store) : OD := match x, y with
  | .p (.str y), .p (.str z) => match y.cps.toList with
    | [n] => some (.p (.bool (if neg then !decide (n ∈ z.cps.toList) else decide (n ∈ z.cps.toList))), m)
    | _ => none
  | _, _ => none
theorem one_sign {y : Str} {n : Nat} (e : y.cps.toList = [n]) : y = ⟨#[n]⟩ := by
  obtain ⟨⟨l⟩⟩ := y
  have e : l = [n] := e
  subst e
  rfl
theorem op_inSg : OpR X (compareOp .In) (rOf X.kw (inSg false)) := by
  refine OpR.by_ op_in_sign fun x y H Q w => ?_
  obtain ⟨c, m, dx, dy, r, h1, h2, w⟩ := w
  unfold inSg at w
  split at w
  · split at w
    · rename_i hn
      exact ⟨_, _, by rw [VD.str.mp h1, one_sign hn], VD.str.mp h2, .inl (WantO.now r w (VD.bl.mpr rfl))⟩
    · exact w.elim
  · exact w.elim
theorem op_notInSg : OpR X (compareOp .NotIn) (rOf X.kw (inSg true)) := by
  refine OpR.by_ op_notIn_sign fun x y H Q w => ?_
  obtain ⟨c, m, dx, dy, r, h1, h2, w⟩ := w
  unfold inSg at w
  split at w
  · split at w
    · rename_i hn
      exact ⟨_, _, by rw [VD.str.mp h1, one_sign hn], VD.str.mp h2, .inl (WantO.now r w (VD.bl.mpr rfl))⟩
    · exact w.elim
  · exact w.elim
/-! ### methods -/
def splitD (z : Md) : D → List D → Store → OD
  | .p (.str a), [.p (.str b)], m => if (b.length == 0) = false ∧ a.length + 2 ≤ sizeLine then newO z ((Txt.split a b).map fun t => .p (.str t)) m else none
  | _, _, _ => none
theorem VDs.strs {K : KW} : ∀ ys : List Str, VDs K H c (ys.map V.str) (ys.map fun t => .p (.str t))
  | [] => by simp [VDs]
  | y :: ys => by
    simp only [List.map_cons]
    unfold VDs
    exact ⟨_, _, rfl, VD.str.mpr rfl, VDs.strs ys⟩
theorem mt_splitD (z : Md) : MtR X "str.split" (rOfM X.kw (splitD z)) := by
  refine MtR.by_ mt_split fun x xs H Q w => ?_
  obtain ⟨c, m, dx, ds, r, h1, h2, w⟩ := w
  unfold splitD at w
  split at w
  · split at w
    · rename_i hz
      obtain ⟨v, e, h3⟩ := VDs.onlyOne h2
      cases VD.str.mp h3
      exact ⟨_, _, VD.str.mp h1, e, hz.1, hz.2, newO_ok r (VDs.strs _) w⟩
    · exact w.elim
  · exact w.elim
def upperD : D → List D → Store → OD
  | .p (.str a), [], m => if a.length ≤ 5592405 then some (.p (.str (Txt.upper a)), m) else none
  | _, _, _ => none
theorem mt_upperD : MtR X "str.upper" (rOfM X.kw upperD) := by
  refine MtR.by_ mt_upper fun x xs H Q w => ?_
  obtain ⟨c, m, dx, ds, r, h1, h2, w⟩ := w
  unfold upperD at w
  split at w
  · split at w
    · rename_i hz
      unfold VDs at h2
      exact ⟨_, VD.str.mp h1, h2, hz, .inl (WantO.now r w (VD.str.mpr rfl))⟩
    · exact w.elim
  · exact w.elim
def appendD : D → List D → Store → OD
  | .cell i, [d], m => match m.at_ i with
    | some (.lst xs) => if xs.length < sizeLine ∧ okIn d i = true then some (.p .none, m.set (.lst (xs ++ [d])) i) else none
    | _ => none
  | _, _, _ => none
theorem mt_appendD : MtR X "list.append" (rOfM X.kw appendD) := by
  refine MtR.by_ (show MtR X "list.append" rAppend from mt_append) fun x xs H Q w => ?_
  obtain ⟨c, m, dx, ds, r, h1, h2, w⟩ := w
  unfold appendD at w
  split at w
  · rename_i i d
    split at w
    · rename_i xs hm
      split at w
      · rename_i hz
        obtain ⟨v, e, h3⟩ := VDs.onlyOne h2
        unfold VD at h1
        obtain ⟨a, h4, h5⟩ := h1
        obtain ⟨vs, h6, h7⟩ := r.at_ _ _ _ h4 hm
        refine ⟨a, vs, v, h5, e, h6, by rw [h7.length]; exact hz.1, .inl ?_⟩
        exact w c .non _ (r.put h4 hm h6 (h7.append (VDs.one (VD.forI h3 hz.2)))) (VD.non.mpr rfl)
      · exact w.elim
    · exact w.elim
  · exact w.elim
end
end L2.Dn
namespace L2.Dn
open PySem PySem.Spec PyProof.Rows L2
section
variable {X : Cx} {W : WX} {a b e : Expr} {es : List Expr} {fa fb f : FE} {pos : Pos} {c : Anc} {ρ : Rho} {m : Store} {σ : St} {H : Hp}
/-! ### o[i] op= e, a list -/
def rGetL (K : PySem.W.Frag) : V → V → Hp → VK → Prop := fun o i H Q => ∃ p xs k v, o = .ref p ∧ i = .int k ∧ 0 ≤ k ∧ SqL K H p xs ∧ xs[k.toNat]? = some v ∧ Q v H
theorem get_listL : PGet X (rGetL X.K) := by
  intro pins s σ H o i ov iv Q I ro ri h
  obtain ⟨p, xs, k, v, rfl, rfl, h0, hq, hx, q⟩ := h
  cases ro
  obtain ⟨t, rfl⟩ := ri
  obtain ⟨its, r, pl, hz⟩ := I.list hq
  obtain ⟨u, e1, e2⟩ := r.get hx
  have hl : k.toNat < xs.length := (List.getElem?_eq_some_iff.mp hx).1
  have := line63
  exact wpAny_getItem_list pl.isList h0 (by omega) (by simpa using e1) ⟨v, H, I, e2, q⟩
def getL (o i : D) (m : Store) : Option D := match i with
  | .p (.int k) => if 0 ≤ k then (match lstOf o m with
    | some xs => xs[k.toNat]?
    | none => none) else none
  | _ => none
def augI (g : D → D → Store → OD) (fo fi fe : FE) : FS := fun ρ m => (fo ρ m).bindS ρ fun o m1 => (fi ρ m1).bindS ρ fun i m2 => match getL o i m2 with
  | some x => (fe ρ m2).bindS ρ fun y m3 => match g x y m3 with
    | some (z, m4) => (match setItemD o i z m4 with
      | some m5 => .nx ρ m5
      | none => .stuck)
    | none => .stuck
  | none => .stuck
theorem ds_augI {o i : Expr} {fo fi fe : FE} {op : Operator} {g : D → D → Store → OD} {tpos : Pos} (hp : PIp X op (rOf X.kw g)) (ho : DE X W o fo) (hi : DE X W i fi) (he : DE X W e fe)
    (ha : ∀ ov iv new, augStore i ov iv new = (do holding [new, ov, iv] (setItem ov iv new); release [new, ov, iv] []; pure .next) := by intros; rfl) : DS X W (.AugAssign (.Subscript o i tpos) op e pos) (augI g fo fi fe) := fun c ρ m σ H En r s w =>
  wst_of (ps_augS pe_w pe_w get_listL pe_w hp set_list ha) (ho.thenS r s w fun o1 m1 c1 vo H1 r1 s1 g1 h1 w1 => hi.thenS r1 s1 w1 fun i1 m2 c2 vi H2 r2 s2 g2 h2 w2 => by
    split at w2
    · rename_i x hx
      unfold getL at hx
      split at hx
      · rename_i k
        split at hx
        · rename_i h0
          split at hx
          · rename_i xs hxs
            obtain ⟨a, vs, e1, k1, k2⟩ := lstOf_ok r2 (g2.vd h1) hxs
            obtain ⟨v, k3, k4⟩ := k2.get hx
            refine ⟨a, vs, k, v, e1, VD.int.mp h2, h0, RdL.sq k1, k3, ?_⟩
            refine he.thenS r2 s2 w2 fun y m3 c3 vy H3 r3 s3 g3 h3 w3 => ?_
            split at w3
            · rename_i z m4 hg
              refine ⟨c3, m3, x, y, r3, g3.vd k4, h3, ?_⟩
              rw [hg]
              intro c4 vz H4 g4 hz
              have w4 := WantS.shift g4 w3
              split at w4
              · rename_i m5 hs
                exact setItemD_ok g4.rel (g4.vd (g3.vd (g2.vd h1))) (g4.vd (g3.vd h2)) hz hs fun H' g5 => w4 c4 σ H' g5 (g5.slots (g4.slots s3))
              · exact w4.elim
            · exact w3.elim
          · cases hx
        · cases hx
      · cases hx
    · exact w2.elim)
theorem ip_addI : PIp X .Add (rOf X.kw addI) := fun pins s σ H x y v u Q I rx ry h => by
  obtain ⟨c, m, dx, dy, r, h1, h2, w⟩ := h
  unfold addI intOp at w
  split at w
  · exact ip_add pins s σ H x y v u Q I rx ry ⟨_, _, VD.int.mp h1, VD.int.mp h2, WantO.now r w (VD.int.mpr rfl)⟩
  · exact w.elim
/-! ### NAME.index(e), NAME a tuple of texts of the module -/
def idxE (ys : List Str) (f : FE) : FE := fun ρ m => (f ρ m).bind fun d m1 => match d with
  | .p (.str z) => match ys.findIdx? (· == z) with
    | some j => .ok (.p (.int j)) m1
    | none => .stuck
  | _ => .stuck
theorem de_gIndex {x : Str} {t : Addr} {its : Array Value} {n : Nat} {sl : Array (Option Value)} {ys : List Str} {apos cpos p : Pos} (hg : Gl X x) (hm : X.mg x = some (.ref t)) (hk : X.K.lookup t = some ⟨.type "tuple", none, .seq its n, sl⟩) (hz : its.size ≤ sizeLine) (hv : Vals (ys.map V.str) its.toList) (he : DE X W e f)
    (hdb : (x == ("__debug__" : Str)) = false := by decide)
    (hbase : attributeBase (.Name x p) "index" X.env (eval (.Name x p) X.env) = eval (.Name x p) X.env := by rfl)
    (hfew : ((backTo cpos (starEach [e] X.env)).all (fun x => !x.1) && (backToKw cpos (keywordEach [] X.env)).all (fun x => x.1.isSome)
      && decide ([e].length + ([] : List Keyword).length + (if ([] : List Keyword).isEmpty then 0 else 1) < 30)) = true := by rfl)
    (hline : (apos.endLine == cpos.line) = true := by rfl) (hs : starEach [e] X.env = (false, eval e X.env) :: starEach [] X.env := by rfl) (hplain : (backTo cpos (starEach [] X.env)).any (·.1) = false := by rfl) :
    DE X W (.Call (.Attribute (.Name x p) "index" apos) [e] [] cpos) (idxE ys f) := fun c ρ m σ H Q r s w => by
  have sq : ∀ H, SqT X.K H t (ys.map V.str) := fun H => .inr ⟨_, its, n, hk, rfl, rfl, hz, hv⟩
  refine we_of (pe_bm (T := "tuple") (id := "tuple.index") PySem.F.plainAttrs_tuple PySem.F.slot_tuple_index PySem.F.type_tuple_index mt_tup_index (pe_glob hg hm (v := .ref t) rfl hdb) (pa_cons pe_w pa_nil hs) hbase hfew hline hs hplain) ?_
  refine ⟨.inr (.inl ⟨rfl, _, hk, rfl, rfl⟩), ?_⟩
  refine he.thenE r s w fun d m1 c1 v H1 r1 s1 g1 h1 w1 => ?_
  split at w1
  · rename_i z
    split at w1
    · rename_i j hj
      obtain ⟨hl, hy, hn⟩ := List.findIdx?_eq_some_iff_getElem.mp hj
      refine ⟨t, ys, z, j, rfl, by rw [VD.str.mp h1], sq H1, ?_, fun k hk q => ?_, w1.now r1 (VD.int.mpr rfl)⟩
      · rw [List.getElem?_eq_getElem hl, eq_of_beq hy]
      · have := hn k hk
        obtain ⟨hk', e'⟩ := List.getElem?_eq_some_iff.mp q
        rw [e'] at this
        simp at this
    · exact w1.elim
  · exact w1.elim
end
end L2.Dn
namespace L2.Dn
open PySem PySem.Spec PyProof.Rows L2
/-! ### the law's own call -/
/-- the heap that tracks the script alone -/
def onlyAt (a : Addr) (vs : List Value) (ns : List Int) : Hp := fun b => if b = a then some (.frz { cls := .type "list", data := .seq vs.toArray } (.lst (ns.map V.int))) else none
theorem onlyAt_eq {a b : Addr} {vs : List Value} {ns : List Int} {o : HO} (h : onlyAt a vs ns b = some o) : b = a ∧ o = .frz { cls := .type "list", data := .seq vs.toArray } (.lst (ns.map V.int)) := by
  unfold onlyAt at h
  split at h
  · rename_i e
    exact ⟨e, (Option.some.inj h).symm⟩
  · cases h
def nums (ns : List Int) : D := .p (.list (ns.map PyData.int))
theorem nums_dp {K : KW} {H : Hp} : ∀ ns : List Int, DpZs K H (ns.map V.int) (ns.map PyData.int)
  | [] => .nil
  | n :: ns => .cons (.int n) (nums_dp ns)
section
variable {P : Program} {w : World} {K : PySem.W.Frag} {mg mb : Str → Option Value} {k : Nat} {fa a : Addr} {fd : FuncData} {x : Str} {den : Den} {s₁ : Shared} {vs : List Value} {ns : List Int}
theorem law_run (H : Hp) (KX : K.In s₁.heap) (hns : s₁.heap.Ns mainGlobals mg) (hb : s₁.heap.Ns builtinsNs mb) (hbb : ∀ x : Str, x ≠ "__name__" → mb x = bootBuiltins x) (hlim : s₁.heap.NoLimit) (hg : s₁.gens = #[])
    (ha : s₁.heap.get? a = some { cls := .type "list", data := .seq vs.toArray }) (hr : Room k callerA)
    (F : ∀ base : Heap, K.In base → base.Ns mainGlobals mg → FnG P w K mg base k fa fd [x] (spD ⟨K, w, mg, none⟩ 1 den)) (hbind : ∀ (s : Shared) (u : Value), BindsTo s fd ⟨[u], []⟩ [(x, u)])
    (hden : ∃ g, den [nums ns] [] = .ok (.p (.bool true)) g)
    (hH : ∀ b o, H b = some o → b = a ∧ o = .frz { cls := .type "list", data := .seq vs.toArray } (.lst (ns.map V.int))) (hf : FzL K H a (ns.map V.int)) (hok : HOk P w H s₁.heap) (hK : H a = none ∨ K.lookup a = none) :
    codeAny (model P w) callerA (.call (.ref fa) ⟨[.ref a], []⟩) (fun r s' => r = .ok (.ret (.bool true)) ∧ OldK s₁.heap s'.heap ∧ s'.os = s₁.os ∧ AllBare s'.gens) s₁ := by
  have free : ∀ b o, s₁.heap.get? b = some o → (∀ vs n, o.data ≠ .seq vs n) → H b = none := fun b o e nd => by
    cases q : H b with
    | none => rfl
    | some u =>
      obtain ⟨rfl, _⟩ := hH b u q
      rw [ha] at e
      cases e
      exact (nd _ _ rfl).elim
  have nsK : ∀ {b : Addr} {m : Str → Option Value}, s₁.heap.Ns b m → (hidT s₁.heap H).Ns b m := fun {b m} ⟨o, es, ep, e, d, r⟩ =>
    ⟨o, es, ep, hidT_get e (free b o e fun _ _ z => by rw [d] at z; cases z), d, r⟩
  have kb : K.In (hidT s₁.heap H) := fun b o e => hidT_get (KX b o e) (by
    cases q : H b with
    | none => rfl
    | some u =>
      obtain ⟨rfl, _⟩ := hH b u q
      rcases hK with z | z
      · rw [q] at z; cases z
      · rw [z] at e; cases e)
  have hM : Mod K mg (hidT s₁.heap H) := ⟨kb, nsK hns, ⟨mb, nsK hb, hbb⟩, let ⟨mc, h1, h2⟩ := hlim; ⟨mc, nsK h1, h2⟩⟩
  have e0 : Env0 P w K mg (hidT s₁.heap H) callerA [] s₁ H :=
    { frames := rfl, mod := hM, bs := fun b o e => of_hidT e, bsz := Nat.le_of_eq (hidT_size _ _), funs := trivial, frf := fun b hb => absurd (show b ∈ ([] : List Addr) from hb) List.not_mem_nil, hok := hok, bare := .of_eq hg }
  have R0 : RelS ⟨K, w, mg, none⟩ ⟨[], []⟩ ⟨[], []⟩ H := by
    refine ⟨⟨rfl, rfl⟩, fun i j b h1 => ?_, fun i b x h1 => ?_⟩
    · cases i <;> cases h1
    · cases i <;> cases h1
  have want : spD ⟨K, w, mg, none⟩ 1 den [.ref a] H (fun v _ => v = .bl true) (fun _ _ _ => False) := by
    obtain ⟨g, e⟩ := hden
    refine ⟨[], [nums ns], [], rfl, R0, VDs.one (by unfold nums VD; exact .lst hf (nums_dp ns)), ?_⟩
    rw [e]
    exact fun cg' v H' _ hv => VD.bl.mp hv
  refine codeAny_mono ((F _ kb (nsK hns)).go callerA [] s₁ H ⟨[.ref a], []⟩ [.ref a] [.ref a] _ _ rfl hr e0 (hbind s₁ (.ref a)) (.cons rfl .nil) want) fun out s' q => ?_
  match out, q with
  | .error e, q => obtain ⟨_, _, _, _, _, _, _, _, _, _, _, _, z⟩ := q; exact z.elim
  | .ok (.ret u), q =>
    obtain ⟨v, H', os, bare, un, hok', rv, ev⟩ := q
    have ev : v = .bl true := ev
    subst ev
    obtain rfl : u = Value.bool true := rv
    refine ⟨rfl, OldK.of_keep fun b o e => ?_, os, bare⟩
    cases q : H b with
    | none => exact un.keep b o e q (fun z => absurd (show b ∈ ([] : List Addr) from z) List.not_mem_nil) List.not_mem_nil
    | some u =>
      obtain ⟨_, rfl⟩ := hH b u q
      have z1 := (hok b _ q).1
      have z2 := (hok' b _ (un.frzs b _ _ q)).1
      rw [e] at z1
      rw [z2, z1]
theorem law_den (KX : K.In s₁.heap) (hns : s₁.heap.Ns mainGlobals mg) (hb : s₁.heap.Ns builtinsNs mb) (hbb : ∀ x : Str, x ≠ "__name__" → mb x = bootBuiltins x) (hlim : s₁.heap.NoLimit) (hg : s₁.gens = #[])
    (ha : s₁.heap.get? a = some { cls := .type "list", data := .seq vs.toArray }) (hi : IntsAre vs ns) (hl : ns.length ≤ sizeLine) (hr : Room k callerA)
    (F : ∀ base : Heap, K.In base → base.Ns mainGlobals mg → FnG P w K mg base k fa fd [x] (spD ⟨K, w, mg, none⟩ 1 den)) (hbind : ∀ (s : Shared) (u : Value), BindsTo s fd ⟨[u], []⟩ [(x, u)])
    (hden : ∃ g, den [nums ns] [] = .ok (.p (.bool true)) g) :
    codeAny (model P w) callerA (.call (.ref fa) ⟨[.ref a], []⟩) (fun r s' => r = .ok (.ret (.bool true)) ∧ OldK s₁.heap s'.heap ∧ s'.os = s₁.os ∧ AllBare s'.gens) s₁ := by
  have rv := vals_ints hi
  have lv := hi.length
  cases hk : K.lookup a with
  | some o =>
    have e := KX a o hk
    rw [ha] at e
    cases e
    refine law_run (fun _ => none) KX hns hb hbb hlim hg ha hr F hbind hden (fun b o z => nomatch z) (.inr ⟨vs.toArray, 0, hk, ?_, by simpa using rv⟩) (fun b o z => nomatch z) (.inl rfl)
    rw [List.size_toArray, lv]
    exact hl
  | none =>
    have ta : onlyAt a vs ns a = some (.frz { cls := .type "list", data := .seq vs.toArray } (.lst (ns.map V.int))) := if_pos rfl
    refine law_run (onlyAt a vs ns) KX hns hb hbb hlim hg ha hr F hbind hden (fun b o z => onlyAt_eq z) (.inl ⟨_, ta⟩) (fun b o z => ?_) (.inr hk)
    obtain ⟨rfl, rfl⟩ := onlyAt_eq z
    exact ⟨ha, by rw [List.length_map]; exact hl, vs, _, rv, ha⟩
end
/-- the goal that k_head leaves, from the law's denotation -/
theorem walk_den {l : PySem.W.OpenLaw} {n k : Nat} {q : Program} {loose : List Str} {XP : (Str → Option Value) → Heap → Prop} {YP : World → Heap → Prop} {d : DefRec} {K : Params → PySem.W.Frag} {den : Den} {x : Str}
    (hn : l.most = some n) (hn2 : n ≤ sizeLine) (hdf : d.params.defaults = []) (hr : Room k callerA) (hY : ∀ (w : World) (h : Heap), YP w h → (K w.params).In h)
    (F : ∀ (w : World) (mg : Str → Option Value) (fa : Addr) (h : Heap), (K w.params).In h → h.Ns mainGlobals mg → mg d.name = some (.ref fa) →
      ∃ fd : FuncData, (∀ (s : Shared) (u : Value), BindsTo s fd ⟨[u], []⟩ [(x, u)]) ∧ ∀ base : Heap, (K w.params).In base → base.Ns mainGlobals mg → FnG l.prog w (K w.params) mg base k fa fd [x] (spD ⟨K w.params, w, mg, none⟩ 1 den))
    (hden : ∀ ns : List Int, ns.length ≤ n → ∃ g, den [nums ns] [] = .ok (.p (.bool true)) g) : PySem.W.WalkO q loose XP YP l.row.toRowW d [] (fun f vs => PySem.call f vs) := by
  refine Att.attach_call hn hdf fun w s₀ s₁ mg mb fa o pm cd doc a vs ns G Y _ _ _ hmg hobj hints hlen hg => ?_
  obtain ⟨fd, hb, hF⟩ := F w mg fa _ (hY w _ Y) G.T.g hmg
  exact law_den (hY w _ Y) G.T.g G.T.b G.T.builtins G.T.nolimit hg hobj hints (Nat.le_trans hlen hn2) hr hF hb (hden ns hlen)
end L2.Dn
namespace L2.Dn
open PySem PySem.Spec PyProof.Rows L2
/-! ### one operation of several kinds -/
def altO (g h : D → D → Store → OD) : D → D → Store → OD := fun x y m => match g x y m with
  | some r => some r
  | none => h x y m
def altS (g h : D → Option Int → Option Int → Store → OD) : D → Option Int → Option Int → Store → OD := fun x lo hi m => match g x lo hi m with
  | some r => some r
  | none => h x lo hi m
section
variable {X : Cx}
theorem rOf_alt {K : KW} {g h : D → D → Store → OD} {x y : V} {H : Hp} {Q : VK} (w : rOf K (altO g h) x y H Q) : rOf K g x y H Q ∨ rOf K h x y H Q := by
  obtain ⟨c, m, dx, dy, r, h1, h2, w⟩ := w
  unfold altO at w
  cases q : g dx dy m with
  | some z => rw [q] at w; exact .inl ⟨c, m, dx, dy, r, h1, h2, by rw [q]; exact w⟩
  | none => rw [q] at w; exact .inr ⟨c, m, dx, dy, r, h1, h2, w⟩
theorem OpR.alt {fn : Value → Value → Sem Value} {g h : D → D → Store → OD} (a : OpR X fn (rOf X.kw g)) (b : OpR X fn (rOf X.kw h)) : OpR X fn (rOf X.kw (altO g h)) := fun pins s σ H x y v u Q I rx ry w =>
  (rOf_alt w).elim (a pins s σ H x y v u Q I rx ry) (b pins s σ H x y v u Q I rx ry)
theorem SlR.alt {g h : D → Option Int → Option Int → Store → OD} (a : SlR X (rOfS X.kw g)) (b : SlR X (rOfS X.kw h)) : SlR X (rOfS X.kw (altS g h)) := fun pins s σ H x v vl vu lo hi sl Q I rx hs pl pu w => by
  obtain ⟨c, m, dx, r, h1, w⟩ := w
  unfold altS at w
  cases q : g dx lo hi m with
  | some z => rw [q] at w; exact a pins s σ H x v vl vu lo hi sl Q I rx hs pl pu ⟨c, m, dx, r, h1, by rw [q]; exact w⟩
  | none => rw [q] at w; exact b pins s σ H x v vl vu lo hi sl Q I rx hs pl pu ⟨c, m, dx, r, h1, w⟩
def addD (z : Md) := altO addI (altO addS (altO (addL z) addT))
theorem op_addD (z : Md) : OpR X (binaryOp .Add) (rOf X.kw (addD z)) := OpR.alt op_addI (OpR.alt op_addS (OpR.alt (op_addL z) op_addT))
def mulD := altO mulI mulS
theorem op_mulD : OpR X (binaryOp .Mult) (rOf X.kw mulD) := OpR.alt op_mulI op_mulS
def slD (z : Md) := altS (slL z) (altS slS slT)
theorem sl_D (z : Md) : SlR X (rOfS X.kw (slD z)) := SlR.alt (sl_L z) (SlR.alt sl_S sl_T)
/-- two texts, whatever they hold; else deep data -/
def eqS (neg : Bool) : D → D → Store → OD
  | .p (.str x), .p (.str y), m => some (.p (.bool (if neg then !(x == y) else x == y)), m)
  | _, _, _ => none
theorem op_eqS : OpR X (compareOp .Eq) (rOf X.kw (eqS false)) := by
  refine OpR.by_ L2.op_eq fun x y H Q w => ?_
  obtain ⟨c, m, dx, dy, r, h1, h2, w⟩ := w
  unfold eqS at w
  split at w
  · cases VD.str.mp h1
    cases VD.str.mp h2
    exact ⟨rfl, by rw [dec_str]; exact .inl (WantO.now r w (VD.bl.mpr rfl))⟩
  · exact w.elim
theorem op_neS : OpR X (compareOp .NotEq) (rOf X.kw (eqS true)) := by
  refine OpR.by_ L2.op_ne fun x y H Q w => ?_
  obtain ⟨c, m, dx, dy, r, h1, h2, w⟩ := w
  unfold eqS at w
  split at w
  · cases VD.str.mp h1
    cases VD.str.mp h2
    exact ⟨rfl, by rw [dec_str]; exact .inl (WantO.now r w (VD.bl.mpr rfl))⟩
  · exact w.elim
def eqG (neg : Bool) := altO (eqS neg) (eqP neg)
theorem op_eqG' (hu : X.A.units + 64 < cLine) : OpR X (compareOp .Eq) (rOf X.kw (eqG false)) := OpR.alt op_eqS (op_eqP hu)
theorem op_neG' (hu : X.A.units + 64 < cLine) : OpR X (compareOp .NotEq) (rOf X.kw (eqG true)) := OpR.alt op_neS (op_neP hu)
def inD := altO (inSg false) (altO (inTs false) (inL false))
theorem op_inD' (hu : X.A.units + 65 < cLine) : OpR X (compareOp .In) (rOf X.kw inD) := OpR.alt op_inSg (OpR.alt op_inTs (op_inL hu))
def notInD := altO (inSg true) (inL true)
theorem op_notInD' (hu : X.A.units + 65 < cLine) : OpR X (compareOp .NotIn) (rOf X.kw notInD) := OpR.alt op_notInSg (op_notInL hu)
theorem u65 {k : Nat} {A : Around} (hr : Room k A) : A.units + 65 < cLine := by have := hr.un; omega
theorem u64 {k : Nat} {A : Around} (hr : Room k A) : A.units + 64 < cLine := by have := hr.un; omega
end
/-- a tuple of texts of the module -/
structure KTup (K : PySem.W.Frag) (mg : Str → Option Value) (x : Str) (ys : List Str) (t : Addr) (its : Array Value) (n : Nat) (sl : Array (Option Value)) : Prop where
  g : mg x = some (.ref t)
  k : K.lookup t = some ⟨.type "tuple", none, .seq its n, sl⟩
  z : its.size ≤ sizeLine
  v : Vals (ys.map V.str) its.toList
theorem strs_dp {K : KW} {H : Hp} : ∀ ys : List Str, DpZs K H (ys.map V.str) (ys.map PyData.str)
  | [] => .nil
  | y :: ys => .cons (.str y) (strs_dp ys)
theorem KTup.dp {K : KW} {mg : Str → Option Value} {x : Str} {ys : List Str} {t : Addr} {its : Array Value} {n : Nat} {sl : Array (Option Value)} (h : KTup K mg x ys t its n sl) (H : Hp) : DpZ K H (.ref t) (.tuple (ys.map PyData.str)) :=
  .tup (.inr ⟨_, its, n, h.k, rfl, rfl, h.z, h.v⟩) (strs_dp ys)
section
variable {X : Cx} {W : WX} {pos : Pos} {x : Str}
theorem de_gStr {z : Str} (h : ∃ t, X.mg x = some (.str z t)) (hg : Gl X x := by rfl) (hd : (x == ("__debug__" : Str)) = false := by decide) : DE X W (.Name x pos) (cE (.str z)) := by
  obtain ⟨t, h⟩ := h
  exact de_glob (v := .str z) hg h ⟨t, rfl⟩ (fun _ => .str z) hd
theorem de_gInt {z : Int} (h : ∃ t, X.mg x = some (.int z t)) (hg : Gl X x := by rfl) (hd : (x == ("__debug__" : Str)) = false := by decide) : DE X W (.Name x pos) (cE (.int z)) := by
  obtain ⟨t, h⟩ := h
  exact de_glob (v := .int z) hg h ⟨t, rfl⟩ (fun _ => .int z) hd
theorem de_gTup {ys : List Str} {t : Addr} {its : Array Value} {n : Nat} {sl : Array (Option Value)} (h : KTup X.K X.mg x ys t its n sl) (hg : Gl X x := by rfl) (hd : (x == ("__debug__" : Str)) = false := by decide) : DE X W (.Name x pos) (cE (.tuple (ys.map .str))) :=
  de_glob (v := .ref t) hg h.g rfl h.dp hd
theorem blk_by {N : List Str} {sc scope : Scope} {own : List (Str × Nat)} (h : blkC N sc scope own = true) : blkC N sc scope own = true := h
end
end L2.Dn
/-! Dk: dicts whose keys are any of None, whole numbers, truths, texts and tuples of such, mixed as they come. -/
namespace L2.Dn
open PySem
abbrev Ent := NestedKey × Value × Value
def entOf (w : World) (x : Ent) : DictEntry := ⟨x.1.hash w, x.2.1, x.2.2⟩
/-- the value v is the key k -/
def IsK (h : Heap) (k : NestedKey) (v : Value) : Prop := NestedIs h k v ∧ k.depth ≤ 8
/-- at d: a dict with these entries, in their order -/
def GDict (w : World) (h : Heap) (d : Addr) (xs : List Ent) : Prop :=
  ∃ o es ep, h.get? d = some o ∧ o.ExactDict ∧ o.data = .dict es ep ∧ es.toList = xs.map (entOf w) ∧ (∀ x ∈ xs, IsK h x.1 x.2.1) ∧ (xs.map (·.1)).Nodup
section
variable {P : Program} {w : World} {A : Around} {E : Value → Shared → Prop} {s : Shared}
theorem ent_get {es : Array DictEntry} {xs : List Ent} (he : es.toList = xs.map (entOf w)) (j : Nat) : es[j]? = (xs[j]?).map (entOf w) := by
  rw [← List.getElem?_map, ← he]
  simp
theorem ent_size {es : Array DictEntry} {xs : List Ent} (he : es.toList = xs.map (entOf w)) : es.size = xs.length := by
  have := congrArg List.length he
  simpa using this
theorem ent_mem {es : Array DictEntry} {xs : List Ent} (he : es.toList = xs.map (entOf w)) {e : DictEntry} (h : e ∈ es) : ∃ x ∈ xs, e = entOf w x := by
  have h1 : e ∈ es.toList := by simpa using h
  rw [he] at h1
  obtain ⟨x, hx, q⟩ := List.mem_map.mp h1
  exact ⟨x, hx, q.symm⟩
theorem key_one {xs : List Ent} (hn : (xs.map (·.1)).Nodup) {i j : Nat} {k : NestedKey} {p q : Value × Value} (hi : xs[i]? = some (k, p)) (hj : xs[j]? = some (k, q)) : i = j := by
  have a : (xs.map (·.1))[i]? = some k := by simp [hi]
  have b : (xs.map (·.1))[j]? = some k := by simp [hj]
  exact (List.getElem?_inj (List.getElem?_eq_some_iff.mp a).1 hn).mp (a.trans b.symm)
theorem isK_quiet {k : NestedKey} {v : Value} (h : IsK s.heap k v) {Q : Bool → Shared → Prop} (q : Q true s) : wpAny (model P w) A (eqIsQuiet 8 v) Q E s := quiet_key k v 8 s h.1 h.2 A E Q q
theorem isK_eq {x y : NestedKey} {a b : Value} (hu : A.units + 8 < cLine) (hx : IsK s.heap x a) (hy : IsK s.heap y b) {Q : Bool → Shared → Prop} (q : Q (decide (x = y)) s) : wpAny (model P w) A (eqBool a b) Q E s :=
  eqAt_key x y A s a b hx.1 hy.1 (by have := hx.2; omega) P w E Q (by rw [← NestedKey.decide_eq]; exact q)
theorem isK_hash {k : NestedKey} {v : Value} (hu : A.units + 8 < cLine) (h : IsK s.heap k v) {Q : Int → Shared → Prop} (q : Q (k.hash w) { s with toks := s.toks + k.draws }) : wpAny (model P w) A (pyHash v) Q E s :=
  pyHash_key k v A s Q h.1 (by have := h.2; omega) q
theorem tells_not {k : NestedKey} {v : Value} {st : List Value} {Q : Bool → Shared → Prop} (hk : IsK s.heap k v) (hs : ∀ u ∈ st, ∃ y, IsK s.heap y u) (q : Q false s) : wpAny (model P w) A (tableMayTell v st) Q E s := by
  unfold tableMayTell
  split
  · exact wpAny_pure q
  · refine wpAny_bind (isK_quiet hk ?_)
    simp only [Bool.not_true, Bool.false_eq_true, if_false]
    refine wpAny_bind (wpAny_forIn_list _ (fun r b s' => s' = s ∧ b = (none, ()) ∧ ∀ u ∈ r, ∃ y, IsK s.heap y u) _ ?_ ?_ _ _ ⟨rfl, rfl, hs⟩)
    · rintro u r b s' ⟨rfl, rfl, hr⟩
      obtain ⟨y, hy⟩ := hr u List.mem_cons_self
      refine wpAny_bind (isK_quiet hy ?_)
      simp only [Bool.not_true, Bool.false_eq_true, if_false]
      exact wpAny_pure ⟨rfl, rfl, fun z hz => hr z (List.mem_cons_of_mem _ hz)⟩
    · rintro b s' ⟨rfl, rfl, _⟩
      exact wpAny_pure q
theorem is_text {h : Heap} {k : NestedKey} {x : Str} {t : Tok} (hk : NestedIs h k (.str x t)) : k = .text x := by cases hk; rfl
/-- where a key stands -/
theorem find_key {d : Addr} {v : Value} {o : Obj} {es : Array DictEntry} {ep : Nat} {xs : List Ent} {k : NestedKey} {Q : Option Nat → Shared → Prop} (hu : A.units + 8 < cLine) (hkey : IsK s.heap k v) (ho : s.heap.get? d = some o) (hd : o.data = .dict es ep)
    (he : es.toList = xs.map (entOf w)) (his : ∀ x ∈ xs, IsK s.heap x.1 x.2.1) (hn : (xs.map (·.1)).Nodup)
    (q0 : (∀ (j : Nat) (p : Value × Value), xs[j]? ≠ some (k, p)) → Q none s) (q1 : ∀ (j : Nat) (p : Value × Value), xs[j]? = some (k, p) → Q (some j) s) : wpAny (model P w) A (dictFind d v (k.hash w)) Q E s := by
  have hz := ent_size he
  let pw : Nat → Bool := fun i => (es[i]?.map (·.hash)) == some (k.hash w)
  have hpw : ∀ (j : Nat) (p : Value × Value), xs[j]? = some (k, p) → pw j = true := fun j p hj => by
    show ((es[j]?.map (·.hash)) == some (k.hash w)) = true
    rw [ent_get he j, hj]
    simp [entOf]
  have hst : ∀ u ∈ (placesWithHash es.size (fun i => es[i]?.map (·.hash)) (k.hash w)).filterMap (fun i => es[i]?.map (·.key)), ∃ y, IsK s.heap y u := fun u hu' => by
    obtain ⟨i, _, hi⟩ := List.mem_filterMap.mp hu'
    cases hei : es[i]? with
    | none => rw [hei] at hi; cases hi
    | some e =>
      rw [hei] at hi
      obtain rfl : e.key = u := by simpa using hi
      obtain ⟨x, hx, rfl⟩ := ent_mem he (Array.mem_of_getElem? hei)
      exact ⟨x.1, his x hx⟩
  have at_ : ∀ {x : Nat}, x < es.size → ∃ y b u, xs[x]? = some (y, b, u) ∧ IsK s.heap y b ∧ es[x]? = some ⟨y.hash w, b, u⟩ := fun {x} hx => by
    have hx' : x < xs.length := by omega
    refine ⟨xs[x].1, xs[x].2.1, xs[x].2.2, List.getElem?_eq_getElem hx', his _ (List.getElem_mem hx'), ?_⟩
    rw [ent_get he x, List.getElem?_eq_getElem hx']
    rfl
  -- the walk over the places, whichever
  have old : wpAny (model P w) A (dictWalkPlain d v (k.hash w) es (placesWithHash es.size (fun i => es[i]?.map (·.hash)) (k.hash w))) Q E s := by
    refine wpAny_bind (wpAny_forIn_list _ (fun r b s' => s' = s ∧ b = (none, ()) ∧ ∃ i, r = (List.range' i (es.size - i)).filter pw ∧ i ≤ es.size ∧ ∀ j p, j < i → xs[j]? ≠ some (k, p)) _ ?_ ?_ _ _
      ⟨rfl, rfl, 0, by rw [placesWithHash, List.range_eq_range', Nat.sub_zero], Nat.zero_le _, fun _ _ h => absurd h (Nat.not_lt_zero _)⟩)
    · rintro x r b s' ⟨rfl, rfl, i, hr, hi, hno⟩
      obtain ⟨h1, h2, h3, h4, h5⟩ := filter_range'_cons _ _ _ _ _ hr.symm
      have hlt : x < es.size := by omega
      obtain ⟨y, b, u, k1, k2, k3⟩ := at_ hlt
      have hr' : r = (List.range' (x + 1) (es.size - (x + 1))).filter pw := by rw [h5]; congr 2; omega
      have nx : ¬ y = k → ∀ j p, j < x + 1 → xs[j]? ≠ some (k, p) := fun ne j p hj e => by
        by_cases c1 : j < i
        · exact hno j p c1 e
        · by_cases c2 : j < x
          · have := h4 j (by omega) c2
            rw [hpw j p e] at this
            cases this
          · have : j = x := by omega
            subst this
            rw [k1] at e
            cases e
            exact ne rfl
      rw [k3]
      dsimp only
      by_cases hh : (y.hash w == k.hash w) = true
      · rw [if_pos hh]
        refine wpAny_bind (wpAny_dictEpoch ho hd (wpAny_bind (isK_eq hu k2 hkey (wpAny_bind (wpAny_dictEpoch ho hd ?_)))))
        rw [if_neg (by simp)]
        by_cases hk : y = k
        · rw [decide_eq_true hk]
          subst hk
          exact wpAny_bind (wpAny_rule (wpAny_pure (wpAny_pure (q1 x _ k1))))
        · rw [decide_eq_false hk]
          exact wpAny_bind (wpAny_rule (wpAny_pure ⟨rfl, rfl, x + 1, hr', hlt, nx hk⟩))
      · rw [if_neg hh]
        exact wpAny_pure ⟨rfl, rfl, x + 1, hr', hlt, nx fun e => hh (by rw [e]; simp)⟩
    · rintro b s' ⟨rfl, rfl, i, hr, hi, hno⟩
      refine wpAny_pure (q0 fun j p e => ?_)
      by_cases c1 : j < i
      · exact hno j p c1 e
      · have hj : j < es.size := by rw [hz]; exact (List.getElem?_eq_some_iff.mp e).1
        have := List.filter_eq_nil_iff.mp hr.symm j (List.mem_range'_1.mpr ⟨by omega, by omega⟩)
        exact this (hpw j p e)
  have hany : ∀ a, v = .ref a → ¬ (es.any fun e => e.key == Value.ref a && e.hash != k.hash w) = true := fun a hv h => by
    rw [← Array.any_toList, List.any_eq_true] at h
    obtain ⟨e, h1, h2⟩ := h
    obtain ⟨x, hx, rfl⟩ := ent_mem he (by simpa using h1)
    simp only [entOf, Bool.and_eq_true, beq_iff_eq, bne_iff_ne, ne_eq] at h2
    have := (his x hx).1
    rw [h2.1, ← hv] at this
    exact h2.2 (by rw [NestedIs.inj _ _ _ this hkey.1])
  unfold dictFind
  try with_reducible refine wpAny_holding ?_
  refine wpAny_bind (wpAny_dictEntries ho hd ?_)
  dsimp only
  by_cases hall : ((v :: (placesWithHash es.size (fun i => es[i]?.map (·.hash)) (k.hash w)).filterMap fun i => es[i]?.map (·.key)).all carriedByValue) = true
  · rw [if_pos hall]
    split
    next x t =>
      split
      next hs =>
        obtain rfl := is_text hkey.1
        have hf : ∀ (j : Nat) (y : NestedKey) (b u : Value), xs[j]? = some (y, b, u) → (b.isStr x = true ↔ y = .text x) := fun j y b u e => by
          have h1 := (his _ (List.mem_of_getElem? e)).1
          have h2 : isExactStrKey b = true := by
            have hj : es[j]? = some ⟨y.hash w, b, u⟩ := by rw [ent_get he j, e]; rfl
            have := Array.all_eq_true'.mp hs _ (Array.mem_of_getElem? hj)
            exact this
          cases h1 with
          | text x' t' => simp [Value.isStr]
          | none => cases h2
          | bool => cases h2
          | int => cases h2
          | tup => cases h2
        unfold foundByValue
        cases hi : es.findIdx? (fun e => e.key.isStr x) with
        | none =>
          refine wpAny_pure (q0 fun j p e => ?_)
          have hj : es[j]? = some ⟨NestedKey.hash w (.text x), p.1, p.2⟩ := by rw [ent_get he j, e]; rfl
          have := Array.findIdx?_eq_none_iff.mp hi _ (Array.mem_of_getElem? hj)
          have h2 := (hf j _ _ _ e).mpr rfl
          rw [h2] at this
          cases this
        | some i =>
          obtain ⟨hlt, h1, _⟩ := Array.findIdx?_eq_some_iff_getElem.mp hi
          obtain ⟨y, b, u, k1, k2, k3⟩ := at_ hlt
          have hk3 : es[i] = ⟨y.hash w, b, u⟩ := by
            rw [Array.getElem?_eq_getElem hlt] at k3
            exact Option.some.inj k3
          rw [hk3] at h1
          obtain rfl := (hf i y b u k1).mp h1
          simp only [k3]
          refine wpAny_bind (wpAny_dictEpoch ho hd (wpAny_bind (isK_eq hu k2 hkey (wpAny_bind (wpAny_dictEpoch ho hd ?_)))))
          rw [if_neg (by simp), decide_eq_true rfl]
          exact wpAny_bind (wpAny_rule (wpAny_pure (q1 i _ k1)))
      next => exact old
    next => exact old
  · rw [if_neg hall]
    have str_all : ∀ x t, v = .str x t → ¬ (es.all fun e => isExactStrKey e.key) = true := fun x t hv hs => hall (by
      rw [List.all_cons, hv]
      refine List.all_eq_true.mpr fun u hu' => ?_
      obtain ⟨i, _, hi⟩ := List.mem_filterMap.mp hu'
      cases hei : es[i]? with
      | none => rw [hei] at hi; cases hi
      | some e =>
        rw [hei] at hi
        obtain rfl : e.key = u := by simpa using hi
        have h2 := Array.all_eq_true'.mp hs _ (Array.mem_of_getElem? hei)
        cases hk : e.key with
        | ref a => rw [hk] at h2; cases h2
        | _ => rfl)
    split
    next x t =>
      rw [if_neg (str_all x t rfl)]
      (
      by_cases one : ((placesWithHash es.size (fun i => es[i]?.map (·.hash)) (k.hash w)).filterMap (fun i => es[i]?.map (·.key)) == [Value.str x t]) = true <;>
      (first | rw [if_pos one] | rw [if_neg one]) <;> (first | refine wpAny_bind (wpAny_pure ?_) | refine wpAny_bind (tells_not hkey hst ?_)) <;> (
        rw [if_neg (by simp)]
        refine wpAny_bind (wpAny_forIn_list _ (fun r b s' => s' = s ∧ ∃ i hit, b = (none, hit) ∧ r = (List.range' i (es.size - i)).filter pw ∧ i ≤ es.size ∧ ((hit = none ∧ ∀ j p, j < i → xs[j]? ≠ some (k, p)) ∨ ∃ j p, hit = some j ∧ j < i ∧ xs[j]? = some (k, p))) _ ?_ ?_ _ _
          ⟨rfl, 0, none, rfl, by rw [placesWithHash, List.range_eq_range', Nat.sub_zero], Nat.zero_le _, .inl ⟨rfl, fun _ _ h => absurd h (Nat.not_lt_zero _)⟩⟩)
        · rintro x r b s' ⟨rfl, i, hit, rfl, hr, hi, hH⟩
          obtain ⟨h1, h2, h3, h4, h5⟩ := filter_range'_cons _ _ _ _ _ hr.symm
          have hlt : x < es.size := by omega
          obtain ⟨y, b, u, k1, k2, k3⟩ := at_ hlt
          have hr' : r = (List.range' (x + 1) (es.size - (x + 1))).filter pw := by rw [h5]; congr 2; omega
          have hx : (hit = none ∧ ∀ j p, j < x → xs[j]? ≠ some (k, p)) ∨ ∃ j p, hit = some j ∧ j < x ∧ xs[j]? = some (k, p) := by
            rcases hH with ⟨a1, a2⟩ | ⟨j, p, a1, a2, a3⟩
            · refine .inl ⟨a1, fun j p hj e => ?_⟩
              by_cases c1 : j < i
              · exact a2 j p c1 e
              · have := h4 j (by omega) hj
                rw [hpw j p e] at this
                cases this
            · exact .inr ⟨j, p, a1, by omega, a3⟩
          have nx : ¬ y = k → ((hit = none ∧ ∀ j p, j < x + 1 → xs[j]? ≠ some (k, p)) ∨ ∃ j p, hit = some j ∧ j < x + 1 ∧ xs[j]? = some (k, p)) := fun ne => by
            rcases hx with ⟨a1, a2⟩ | ⟨j, p, a1, a2, a3⟩
            · refine .inl ⟨a1, fun j p hj e => ?_⟩
              by_cases c1 : j < x
              · exact a2 j p c1 e
              · have : j = x := by omega
                subst this
                rw [k1] at e
                cases e
                exact ne rfl
            · exact .inr ⟨j, p, a1, by omega, a3⟩
          rw [k3]
          dsimp only
          by_cases hh : (y.hash w == k.hash w) = true
          · rw [if_pos hh]
            refine wpAny_bind (wpAny_dictEpoch ho hd (wpAny_bind (isK_eq hu k2 hkey (wpAny_bind (wpAny_dictEpoch ho hd ?_)))))
            rw [if_neg (by simp)]
            by_cases hk : y = k
            · rw [decide_eq_true hk]
              subst hk
              rcases hx with ⟨rfl, _⟩ | ⟨j, p, _, a2, a3⟩
              · simp only [Option.isSome_none, Bool.false_eq_true, if_false, if_true]
                refine wpAny_bind (wpAny_rule ?_)
                split
                · exact wpAny_pure (wpAny_pure (q1 x _ k1))
                · exact wpAny_pure ⟨rfl, x + 1, some x, rfl, hr', hlt, .inr ⟨x, _, rfl, Nat.lt_succ_self x, k1⟩⟩
              · exact absurd (key_one hn a3 k1) (by omega)
            · rw [decide_eq_false hk]
              simp only [Bool.false_eq_true, if_false, Bool.false_and]
              exact wpAny_bind (wpAny_rule (wpAny_pure ⟨rfl, x + 1, hit, rfl, hr', hlt, nx hk⟩))
          · rw [if_neg hh]
            exact wpAny_pure ⟨rfl, x + 1, hit, rfl, hr', hlt, nx fun e => hh (by rw [e]; simp)⟩
        · rintro b s' ⟨rfl, i, hit, rfl, hr, hi, hH⟩
          rcases hH with ⟨rfl, hno⟩ | ⟨j, p, rfl, _, e⟩
          · refine wpAny_pure (q0 fun j p e => ?_)
            by_cases c1 : j < i
            · exact hno j p c1 e
            · have hj : j < es.size := by rw [hz]; exact (List.getElem?_eq_some_iff.mp e).1
              have := List.filter_eq_nil_iff.mp hr.symm j (List.mem_range'_1.mpr ⟨by omega, by omega⟩)
              exact this (hpw j p e)
          · exact wpAny_pure (q1 j p e)))
    next =>
      split
      next a _ =>
        rw [if_neg (hany a rfl)]
        (
      by_cases one : ((placesWithHash es.size (fun i => es[i]?.map (·.hash)) (k.hash w)).filterMap (fun i => es[i]?.map (·.key)) == [Value.ref a]) = true <;>
      (first | rw [if_pos one] | rw [if_neg one]) <;> (first | refine wpAny_bind (wpAny_pure ?_) | refine wpAny_bind (tells_not hkey hst ?_)) <;> (
        rw [if_neg (by simp)]
        refine wpAny_bind (wpAny_forIn_list _ (fun r b s' => s' = s ∧ ∃ i hit, b = (none, hit) ∧ r = (List.range' i (es.size - i)).filter pw ∧ i ≤ es.size ∧ ((hit = none ∧ ∀ j p, j < i → xs[j]? ≠ some (k, p)) ∨ ∃ j p, hit = some j ∧ j < i ∧ xs[j]? = some (k, p))) _ ?_ ?_ _ _
          ⟨rfl, 0, none, rfl, by rw [placesWithHash, List.range_eq_range', Nat.sub_zero], Nat.zero_le _, .inl ⟨rfl, fun _ _ h => absurd h (Nat.not_lt_zero _)⟩⟩)
        · rintro x r b s' ⟨rfl, i, hit, rfl, hr, hi, hH⟩
          obtain ⟨h1, h2, h3, h4, h5⟩ := filter_range'_cons _ _ _ _ _ hr.symm
          have hlt : x < es.size := by omega
          obtain ⟨y, b, u, k1, k2, k3⟩ := at_ hlt
          have hr' : r = (List.range' (x + 1) (es.size - (x + 1))).filter pw := by rw [h5]; congr 2; omega
          have hx : (hit = none ∧ ∀ j p, j < x → xs[j]? ≠ some (k, p)) ∨ ∃ j p, hit = some j ∧ j < x ∧ xs[j]? = some (k, p) := by
            rcases hH with ⟨a1, a2⟩ | ⟨j, p, a1, a2, a3⟩
            · refine .inl ⟨a1, fun j p hj e => ?_⟩
              by_cases c1 : j < i
              · exact a2 j p c1 e
              · have := h4 j (by omega) hj
                rw [hpw j p e] at this
                cases this
            · exact .inr ⟨j, p, a1, by omega, a3⟩
          have nx : ¬ y = k → ((hit = none ∧ ∀ j p, j < x + 1 → xs[j]? ≠ some (k, p)) ∨ ∃ j p, hit = some j ∧ j < x + 1 ∧ xs[j]? = some (k, p)) := fun ne => by
            rcases hx with ⟨a1, a2⟩ | ⟨j, p, a1, a2, a3⟩
            · refine .inl ⟨a1, fun j p hj e => ?_⟩
              by_cases c1 : j < x
              · exact a2 j p c1 e
              · have : j = x := by omega
                subst this
                rw [k1] at e
                cases e
                exact ne rfl
            · exact .inr ⟨j, p, a1, by omega, a3⟩
          rw [k3]
          dsimp only
          by_cases hh : (y.hash w == k.hash w) = true
          · rw [if_pos hh]
            refine wpAny_bind (wpAny_dictEpoch ho hd (wpAny_bind (isK_eq hu k2 hkey (wpAny_bind (wpAny_dictEpoch ho hd ?_)))))
            rw [if_neg (by simp)]
            by_cases hk : y = k
            · rw [decide_eq_true hk]
              subst hk
              rcases hx with ⟨rfl, _⟩ | ⟨j, p, _, a2, a3⟩
              · simp only [Option.isSome_none, Bool.false_eq_true, if_false, if_true]
                refine wpAny_bind (wpAny_rule ?_)
                split
                · exact wpAny_pure (wpAny_pure (q1 x _ k1))
                · exact wpAny_pure ⟨rfl, x + 1, some x, rfl, hr', hlt, .inr ⟨x, _, rfl, Nat.lt_succ_self x, k1⟩⟩
              · exact absurd (key_one hn a3 k1) (by omega)
            · rw [decide_eq_false hk]
              simp only [Bool.false_eq_true, if_false, Bool.false_and]
              exact wpAny_bind (wpAny_rule (wpAny_pure ⟨rfl, x + 1, hit, rfl, hr', hlt, nx hk⟩))
          · rw [if_neg hh]
            exact wpAny_pure ⟨rfl, x + 1, hit, rfl, hr', hlt, nx fun e => hh (by rw [e]; simp)⟩
        · rintro b s' ⟨rfl, i, hit, rfl, hr, hi, hH⟩
          rcases hH with ⟨rfl, hno⟩ | ⟨j, p, rfl, _, e⟩
          · refine wpAny_pure (q0 fun j p e => ?_)
            by_cases c1 : j < i
            · exact hno j p c1 e
            · have hj : j < es.size := by rw [hz]; exact (List.getElem?_eq_some_iff.mp e).1
              have := List.filter_eq_nil_iff.mp hr.symm j (List.mem_range'_1.mpr ⟨by omega, by omega⟩)
              exact this (hpw j p e)
          · exact wpAny_pure (q1 j p e)))
      next => (
      by_cases one : ((placesWithHash es.size (fun i => es[i]?.map (·.hash)) (k.hash w)).filterMap (fun i => es[i]?.map (·.key)) == [v]) = true <;>
      (first | rw [if_pos one] | rw [if_neg one]) <;> (first | refine wpAny_bind (wpAny_pure ?_) | refine wpAny_bind (tells_not hkey hst ?_)) <;> (
        rw [if_neg (by simp)]
        refine wpAny_bind (wpAny_forIn_list _ (fun r b s' => s' = s ∧ ∃ i hit, b = (none, hit) ∧ r = (List.range' i (es.size - i)).filter pw ∧ i ≤ es.size ∧ ((hit = none ∧ ∀ j p, j < i → xs[j]? ≠ some (k, p)) ∨ ∃ j p, hit = some j ∧ j < i ∧ xs[j]? = some (k, p))) _ ?_ ?_ _ _
          ⟨rfl, 0, none, rfl, by rw [placesWithHash, List.range_eq_range', Nat.sub_zero], Nat.zero_le _, .inl ⟨rfl, fun _ _ h => absurd h (Nat.not_lt_zero _)⟩⟩)
        · rintro x r b s' ⟨rfl, i, hit, rfl, hr, hi, hH⟩
          obtain ⟨h1, h2, h3, h4, h5⟩ := filter_range'_cons _ _ _ _ _ hr.symm
          have hlt : x < es.size := by omega
          obtain ⟨y, b, u, k1, k2, k3⟩ := at_ hlt
          have hr' : r = (List.range' (x + 1) (es.size - (x + 1))).filter pw := by rw [h5]; congr 2; omega
          have hx : (hit = none ∧ ∀ j p, j < x → xs[j]? ≠ some (k, p)) ∨ ∃ j p, hit = some j ∧ j < x ∧ xs[j]? = some (k, p) := by
            rcases hH with ⟨a1, a2⟩ | ⟨j, p, a1, a2, a3⟩
            · refine .inl ⟨a1, fun j p hj e => ?_⟩
              by_cases c1 : j < i
              · exact a2 j p c1 e
              · have := h4 j (by omega) hj
                rw [hpw j p e] at this
                cases this
            · exact .inr ⟨j, p, a1, by omega, a3⟩
          have nx : ¬ y = k → ((hit = none ∧ ∀ j p, j < x + 1 → xs[j]? ≠ some (k, p)) ∨ ∃ j p, hit = some j ∧ j < x + 1 ∧ xs[j]? = some (k, p)) := fun ne => by
            rcases hx with ⟨a1, a2⟩ | ⟨j, p, a1, a2, a3⟩
            · refine .inl ⟨a1, fun j p hj e => ?_⟩
              by_cases c1 : j < x
              · exact a2 j p c1 e
              · have : j = x := by omega
                subst this
                rw [k1] at e
                cases e
                exact ne rfl
            · exact .inr ⟨j, p, a1, by omega, a3⟩
          rw [k3]
          dsimp only
          by_cases hh : (y.hash w == k.hash w) = true
          · rw [if_pos hh]
            refine wpAny_bind (wpAny_dictEpoch ho hd (wpAny_bind (isK_eq hu k2 hkey (wpAny_bind (wpAny_dictEpoch ho hd ?_)))))
            rw [if_neg (by simp)]
            by_cases hk : y = k
            · rw [decide_eq_true hk]
              subst hk
              rcases hx with ⟨rfl, _⟩ | ⟨j, p, _, a2, a3⟩
              · simp only [Option.isSome_none, Bool.false_eq_true, if_false, if_true]
                refine wpAny_bind (wpAny_rule ?_)
                split
                · exact wpAny_pure (wpAny_pure (q1 x _ k1))
                · exact wpAny_pure ⟨rfl, x + 1, some x, rfl, hr', hlt, .inr ⟨x, _, rfl, Nat.lt_succ_self x, k1⟩⟩
              · exact absurd (key_one hn a3 k1) (by omega)
            · rw [decide_eq_false hk]
              simp only [Bool.false_eq_true, if_false, Bool.false_and]
              exact wpAny_bind (wpAny_rule (wpAny_pure ⟨rfl, x + 1, hit, rfl, hr', hlt, nx hk⟩))
          · rw [if_neg hh]
            exact wpAny_pure ⟨rfl, x + 1, hit, rfl, hr', hlt, nx fun e => hh (by rw [e]; simp)⟩
        · rintro b s' ⟨rfl, i, hit, rfl, hr, hi, hH⟩
          rcases hH with ⟨rfl, hno⟩ | ⟨j, p, rfl, _, e⟩
          · refine wpAny_pure (q0 fun j p e => ?_)
            by_cases c1 : j < i
            · exact hno j p c1 e
            · have hj : j < es.size := by rw [hz]; exact (List.getElem?_eq_some_iff.mp e).1
              have := List.filter_eq_nil_iff.mp hr.symm j (List.mem_range'_1.mpr ⟨by omega, by omega⟩)
              exact this (hpw j p e)
          · exact wpAny_pure (q1 j p e)))
end
end L2.Dn
namespace L2.Dn
open PySem
/-! ### what such a dict answers -/
def lkE (xs : List Ent) (k : NestedKey) : Option Value := (xs.find? fun x => decide (x.1 = k)).map (·.2.2)
def putE (xs : List Ent) (k : NestedKey) (v u : Value) : List Ent := if k ∈ xs.map (·.1) then xs.map fun x => if x.1 = k then (x.1, x.2.1, u) else x else xs ++ [(k, v, u)]
theorem lkE_at {xs : List Ent} (hn : (xs.map (·.1)).Nodup) {j : Nat} {k : NestedKey} {p : Value × Value} (h : xs[j]? = some (k, p)) : lkE xs k = some p.2 := by
  unfold lkE
  have hm := List.mem_of_getElem? h
  cases hf : xs.find? fun x => decide (x.1 = k) with
  | none => exact absurd (decide_eq_true rfl) (List.find?_eq_none.mp hf _ hm)
  | some y =>
    have h1 : y.1 = k := by simpa using List.find?_some hf
    have h2 := List.mem_of_find?_eq_some hf
    obtain ⟨i, hi⟩ := List.mem_iff_getElem?.mp h2
    obtain ⟨y1, y2⟩ := y
    cases h1
    have := key_one hn hi h
    subst this
    rw [hi] at h
    cases h
    rfl
theorem lkE_no {xs : List Ent} {k : NestedKey} (h : ∀ (j : Nat) (p : Value × Value), xs[j]? ≠ some (k, p)) : lkE xs k = none := by
  unfold lkE
  rw [Option.map_eq_none_iff, List.find?_eq_none]
  intro x hx hk
  obtain ⟨j, hj⟩ := List.mem_iff_getElem?.mp hx
  obtain ⟨y, p⟩ := x
  have : y = k := of_decide_eq_true hk
  exact h j p (by rw [hj, this])
theorem mem_no {xs : List Ent} {k : NestedKey} (h : ∀ (j : Nat) (p : Value × Value), xs[j]? ≠ some (k, p)) : k ∉ xs.map (·.1) := fun hm => by
  obtain ⟨x, hx, rfl⟩ := List.mem_map.mp hm
  obtain ⟨j, hj⟩ := List.mem_iff_getElem?.mp hx
  exact h j x.2 hj
theorem map_no {xs : List Ent} {k : NestedKey} {u : Value} (h : k ∉ xs.map (·.1)) : (xs.map fun x => if x.1 = k then (x.1, x.2.1, u) else x) = xs := by
  conv => rhs; rw [← List.map_id xs]
  exact List.map_congr_left fun x hx => if_neg fun e => h (by rw [← e]; exact List.mem_map.mpr ⟨x, hx, rfl⟩)
theorem map_at {w : World} {u : Value} {k : NestedKey} : ∀ {xs : List Ent} {j : Nat} {p : Value × Value}, (xs.map (·.1)).Nodup → xs[j]? = some (k, p) → (xs.map (entOf w)).modify j (fun e => { e with val := u }) = (xs.map fun x => if x.1 = k then (x.1, x.2.1, u) else x).map (entOf w)
  | [], _, _, _, h => by cases h
  | x :: xs, 0, p, hn, h => by
    cases h
    rw [List.map_cons, List.nodup_cons] at hn
    rw [List.map_cons, List.map_cons, map_no hn.1, if_pos rfl]
    rfl
  | x :: xs, j + 1, p, hn, h => by
    rw [List.map_cons, List.nodup_cons] at hn
    have ne : ¬ x.1 = k := fun e => hn.1 (by rw [e]; exact List.mem_map.mpr ⟨_, List.mem_of_getElem? h, rfl⟩)
    rw [List.map_cons, List.map_cons, if_neg ne, List.map_cons, List.modify_succ_cons, map_at (xs := xs) (j := j) hn.2 h]
theorem keys_put {xs : List Ent} {k : NestedKey} {u : Value} : (xs.map fun x => if x.1 = k then (x.1, x.2.1, u) else x).map (·.1) = xs.map (·.1) := by
  rw [List.map_map]
  exact List.map_congr_left fun x _ => by simp only [Function.comp]; split <;> rfl
section
variable {P : Program} {w : World} {A : Around} {E : Value → Shared → Prop} {s : Shared} {d : Addr} {xs : List Ent} {k : NestedKey} {v u : Value}
theorem GDict.ty (h : GDict w s.heap d xs) : s.TypeIs (.ref d) "dict" := by
  obtain ⟨o, _, _, h1, h2, _⟩ := h
  exact ⟨o, h1, h2.1⟩
theorem GDict.nd {hp : Heap} (h : GDict w hp d xs) : (xs.map (·.1)).Nodup := by
  obtain ⟨_, _, _, _, _, _, _, _, h⟩ := h
  exact h
theorem isK_but {h h' : Heap} {o : Obj} {es : Array DictEntry} {ep : Nat} {y : NestedKey} {b : Value} (hk : IsK h y b) (ho : h.get? d = some o) (hd : o.data = .dict es ep) (hs : Heap.SameBut d h h') : IsK h' y b :=
  ⟨NestedIs.at (fun c ob vs n hb hc => (hs.2 c fun e => by
    subst e
    rw [ho] at hb
    cases hb
    rw [hd] at hc
    cases hc).trans hb) y b hk.1, hk.2⟩
theorem get_key {Q : Option Value → Shared → Prop} (hu : A.units + 8 < cLine) (hk : IsK s.heap k v) (hm : GDict w s.heap d xs) (q : Q (lkE xs k) { s with toks := s.toks + k.draws }) : wpAny (model P w) A (dictGet d v) Q E s := by
  obtain ⟨o, es, ep, ho, _, hd, he, his, hn⟩ := hm
  unfold dictGet
  try with_reducible refine wpAny_holding ?_
  refine wpAny_bind (isK_hash hu hk (wpAny_bind (find_key (s := { s with toks := s.toks + k.draws }) hu hk ho hd he his hn (fun no => ?_) fun j p hj => ?_)))
  · rw [lkE_no no] at q
    exact wpAny_pure q
  · rw [lkE_at hn hj] at q
    refine wpAny_bind (wpAny_dictEntries (s := { s with toks := s.toks + k.draws }) ho hd ?_)
    rw [ent_get he j, hj]
    exact wpAny_pure q
theorem seth_key {Q : Unit → Shared → Prop} (hu : A.units + 8 < cLine) (hk : IsK s.heap k v) (hm : GDict w s.heap d xs) (hz : xs.length ≤ sizeLine)
    (q : ∀ h', GDict w h' d (putE xs k v u) → Heap.SameBut d s.heap h' → Q () { s with heap := h' }) : wpAny (model P w) A (dictSetHashed d v (k.hash w) u) Q E s := by
  obtain ⟨o, es, ep, ho, hc, hd, he, his, hn⟩ := hm
  unfold dictSetHashed
  try with_reducible refine wpAny_holding ?_
  refine wpAny_bind (find_key hu hk ho hd he his hn (fun no => ?_) fun j p hj => ?_)
  · have nm := mem_no no
    have ep0 : putE xs k v u = xs ++ [(k, v, u)] := if_neg nm
    refine wpAny_bind (wpAny_rule (wpAny_updateDictKeys (hz := by have := ent_size he; omega) ho hd (q _ ⟨_, _, ep + 1, Heap.get?_update_self _ ho (Obj.isFreed_of_dict (Obj.data_mapDictKeys hd _)), hc.mapDictKeys _, Obj.data_mapDictKeys hd _, ?_, ?_, ?_⟩ (Heap.SameBut.update ..))))
    · rw [ep0]
      simp [he, entOf]
    · rw [ep0]
      intro x hx
      rcases List.mem_append.mp hx with hx | hx
      · exact isK_but (his x hx) ho hd (Heap.SameBut.update ..)
      · obtain rfl := List.mem_singleton.mp hx
        exact isK_but hk ho hd (Heap.SameBut.update ..)
    · rw [ep0, List.map_append, List.nodup_append]
      refine ⟨hn, by simp, fun a ha b hb e => ?_⟩
      have : b = k := by simpa using hb
      exact nm (by rw [← this, ← e]; exact ha)
  · have mm : k ∈ xs.map (·.1) := List.mem_map.mpr ⟨_, List.mem_of_getElem? hj, rfl⟩
    have ep0 : putE xs k v u = xs.map fun x => if x.1 = k then (x.1, x.2.1, u) else x := if_pos mm
    refine wpAny_bind (wpAny_rule (wpAny_bind (wpAny_updateDict ho hd (wpAny_point (q _ ⟨_, _, ep, Heap.get?_update_self _ ho (Obj.isFreed_of_dict (Obj.data_mapDict hd _)), hc.mapDict _, Obj.data_mapDict hd _, ?_, ?_, ?_⟩ (Heap.SameBut.update ..))))))
    · rw [ep0, ← map_at hn hj, ← he]
      simp
    · rw [ep0]
      intro x hx
      obtain ⟨y, hy, rfl⟩ := List.mem_map.mp hx
      split <;> exact isK_but (his y hy) ho hd (Heap.SameBut.update ..)
    · rw [ep0, keys_put]
      exact hn
theorem set_key {Q : Unit → Shared → Prop} (hu : A.units + 8 < cLine) (hk : IsK s.heap k v) (hm : GDict w s.heap d xs) (hz : xs.length ≤ sizeLine)
    (q : ∀ h', GDict w h' d (putE xs k v u) → Heap.SameBut d s.heap h' → Q () { s with heap := h', toks := s.toks + k.draws }) : wpAny (model P w) A (dictSet d v u) Q E s := by
  unfold dictSet
  try with_reducible refine wpAny_holding ?_
  exact wpAny_bind (isK_hash hu hk (seth_key (s := { s with toks := s.toks + k.draws }) hu hk hm hz q))
theorem gi_key {Q : Value → Shared → Prop} (hu : A.units + 9 < cLine) (hk : IsK s.heap k v) (hm : GDict w s.heap d xs) (hl : lkE xs k = some u) (q : Q u { s with toks := s.toks + k.draws }) : wpAny (model P w) A (getItem (.ref d) v) Q E s := by
  unfold getItem
  try with_reducible refine wpAny_holding ?_
  refine wpAny_bind (wpAny_sequenceKey hm.ty (by decide) ?_)
  refine wpAny_bind (wpAny_callSpecial?_slot (name := Str.ofString "__getitem__") hm.ty slot_dict_getitem (wpAny_call_entry slot_dict_getitem hm.ty entry_dict_getitem ?_ (args_dict_getitem _ _)))
  show wpAny _ _ (dictGet d v >>= _) _ _ s
  refine wpAny_bind (get_key (by show A.units + 1 + 8 < _; omega) hk hm ?_)
  rw [hl]
  exact wpAny_pure ⟨u, rfl, wpAny_pure q⟩
theorem si_key {Q : Unit → Shared → Prop} (hu : A.units + 9 < cLine) (hk : IsK s.heap k v) (hm : GDict w s.heap d xs) (hz : xs.length ≤ sizeLine)
    (q : ∀ h', GDict w h' d (putE xs k v u) → Heap.SameBut d s.heap h' → Q () { s with heap := h', toks := s.toks + k.draws }) : wpAny (model P w) A (setItem (.ref d) v u) Q E s := by
  unfold setItem
  try with_reducible refine wpAny_holding ?_
  refine wpAny_bind (wpAny_sequenceKey hm.ty (by decide) ?_)
  refine wpAny_bind (wpAny_callSpecial?_slot (name := Str.ofString "__setitem__") hm.ty slot_dict_setitem (wpAny_call_entry slot_dict_setitem hm.ty entry_dict_setitem ?_ (args_dict_setitem _ _ _)))
  show wpAny _ _ (Builtin.Dict.notOrdered "__setitem__" ⟨[.ref d, v, u], []⟩ >>= _) _ _ s
  refine wpAny_bind (wpAny_notOrdered_dict hm.ty ?_)
  show wpAny _ _ (dictSet d v u >>= _) _ _ s
  exact wpAny_bind (set_key (by show A.units + 1 + 8 < _; omega) hk hm hz fun h' hm' hs' => wpAny_pure ⟨.none, rfl, wpAny_pure (q h' hm' hs')⟩)
theorem con_key {Q : Bool → Shared → Prop} (hu : A.units + 9 < cLine) (hk : IsK s.heap k v) (hd : (d == sysModules) = false) (hm : GDict w s.heap d xs) (q : Q (lkE xs k).isSome { s with toks := s.toks + k.draws }) : wpAny (model P w) A (contains (.ref d) v) Q E s := by
  refine wpAny_contains_slot hm.ty F.slot_dict_contains ?_
  refine call_meetsIn F.slot_dict_contains hm.ty F.entry_dict_contains (F.args_dict_contains_2 _ _) (S := fun A' R s' => A' = A ∧ s' = s ∧ R (.ok (.ret (.bool (lkE xs k).isSome))) { s with toks := s.toks + k.draws }) (fun A' R s' hS => ?_) ⟨rfl, rfl, wpAny_truthy_bool q⟩
  obtain ⟨rfl, rfl, hq⟩ := hS
  show wpAny _ _ (dictGet d v >>= _) _ _ _
  refine wpAny_bind (get_key (by show A'.units + 1 + 8 < _; omega) hk hm ?_)
  cases hf : lkE xs k with
  | some p =>
    rw [hf] at hq
    show wpAny _ _ (ret (.bool true)) _ _ _
    exact wpAny_pure hq
  | none =>
    rw [hf] at hq
    show wpAny _ _ (Builtin.Dict.pendingKey? d v >>= _) _ _ _
    exact wpAny_bind (wpAny_pendingKey_other hd (wpAny_pure hq))
end
end L2.Dn
namespace L2.Dn
open PySem PySem.Spec PyProof.Rows L2
section
variable {X : Cx} {pins : List (Addr × Obj)} {σ : St} {H : Hp} {s : Shared}
mutual
/-- frozen data that may be a key is that key in the machine's heap -/
theorem key_is (I : Inv X pins σ H s) : ∀ {v : V} {d : PyData} {u : Value} {k : NestedKey}, DpZ X.kw H v d → nk d = some k → RelV v u → NestedIs s.heap k u
  | _, _, u, k, .non, e, r => by cases r; cases e; exact .none
  | _, _, u, k, .bl b, e, r => by cases r; cases e; exact .bool rfl
  | _, _, u, k, .int i, e, r => by obtain ⟨t, rfl⟩ := r; cases e; exact .int i t
  | _, _, u, k, .str x, e, r => by obtain ⟨t, rfl⟩ := r; cases e; exact .text x t
  | _, _, u, k, .lst _ _, e, r => by simp [nk] at e
  | _, _, u, k, .dG _ _ _ _ _ _, e, r => by simp [nk] at e
  | _, _, u, k, .tup (ds := ds) h q, e, r => by
    cases r
    obtain ⟨its, rv, ⟨o, e1, hc, n, hd⟩, z⟩ := I.tuple h
    simp only [nk, Option.map_eq_some_iff] at e
    obtain ⟨ks, e2, rfl⟩ := e
    exact .tup e1 hc hd (keys_are I q e2 (by simpa using rv))
theorem keys_are (I : Inv X pins σ H s) : ∀ {vs : List V} {ds : List PyData} {us : List Value} {ks : List NestedKey}, DpZs X.kw H vs ds → nk.nks ds = some ks → Vals vs us → NestedAll s.heap ks us
  | _, _, us, ks, .nil, e, r => by cases r; simp [nk.nks] at e; subst e; exact .nil
  | _, _, us, ks, .cons (d := d) (ds := ds) h q, e, r => by
    cases r with
    | cons r1 r2 =>
      unfold nk.nks at e
      cases e1 : nk d with
      | none => rw [e1] at e; cases e
      | some k1 =>
        cases e2 : nk.nks ds with
        | none => rw [e1, e2] at e; cases e
        | some k2 =>
          rw [e1, e2] at e
          cases e
          exact .cons (key_is I h e1 r1) (keys_are I q e2 r2)
end
/-- an entry as it is told and as it lies -/
def EntV (e : NestedKey × V × V) (x : Ent) : Prop := e.1 = x.1 ∧ RelV e.2.1 x.2.1 ∧ RelV e.2.2 x.2.2
theorem ents_of {w : World} : ∀ {es : List (NestedKey × V × V)} {ens : List DictEntry}, Paired (fun (e : NestedKey × V × V) (x : DictEntry) => x.hash = e.1.hash w ∧ RelV e.2.1 x.key ∧ RelV e.2.2 x.val) es ens → ∃ xs : List Ent, ens = xs.map (entOf w) ∧ Paired EntV es xs
  | _, _, .nil => ⟨[], rfl, .nil⟩
  | _, _, .cons (b := x) (a := e) h r => by
    obtain ⟨xs, e1, e2⟩ := ents_of r
    refine ⟨(e.1, x.key, x.val) :: xs, ?_, .cons ⟨rfl, h.2.1, h.2.2⟩ e2⟩
    rw [e1, List.map_cons]
    congr 1
    obtain ⟨a, b, c⟩ := x
    simp only [entOf]
    rw [← h.1]
theorem ents_keys : ∀ {es : List (NestedKey × V × V)} {xs : List Ent}, Paired EntV es xs → es.map (·.1) = xs.map (·.1)
  | _, _, .nil => rfl
  | _, _, .cons h r => by rw [List.map_cons, List.map_cons, h.1, ents_keys r]
theorem ents_isK (I : Inv X pins σ H s) : ∀ {es : List (NestedKey × V × V)} {xs : List Ent} {ks : List PyData}, Paired EntV es xs → DpZs X.kw H (es.map (·.2.1)) ks → es.map (fun e => some e.1) = ks.map nk → (∀ e ∈ es, e.1.depth ≤ 8) → ∀ x ∈ xs, IsK s.heap x.1 x.2.1
  | _, _, _, .nil, _, _, _, x, hx => by cases hx
  | _, _, ks, .cons (a := e) (b := y) h r, q, ek, hd, x, hx => by
    cases q with
    | @cons _ _ d ds q1 q2 =>
      simp only [List.map_cons, List.cons.injEq] at ek
      rcases List.mem_cons.mp hx with rfl | hx
      · exact ⟨key_is I q1 (by rw [← ek.1, h.1]) h.2.1, by rw [← h.1]; exact hd _ List.mem_cons_self⟩
      · exact ents_isK I r q2 ek.2 (fun z hz => hd z (List.mem_cons_of_mem _ hz)) x hx
/-- a told dict as it lies -/
theorem gd_at {a : Addr} {es : List (NestedKey × V × V)} {kvs : List (PyData × D)} {c : Anc} (I : Inv X pins σ H s) (h : Rd H a (gdO X.w a es)) (r : DctR X.kw H c es kvs) : (a == sysModules) = false ∧ ∃ xs : List Ent, GDict X.w s.heap a xs ∧ Paired EntV es xs := by
  have z : ObjOk X.prog X.w H s.heap a (HO.ext _) := h.ok I.hok
  obtain ⟨o, ens, ep, h0, h1, h2, h3, h4⟩ := z.1
  obtain ⟨xs, e1, e2⟩ := ents_of h4
  have ek : es.map (fun e => some e.1) = (kvs.map (·.1)).map nk := by rw [r.key, List.map_map]; rfl
  exact ⟨h0, xs, ⟨o, ens, ep, h1, h2, h3, e1, ents_isK I e2 r.kd ek r.dp, by rw [← ents_keys e2]; exact r.nd⟩, e2⟩
end
end L2.Dn
namespace L2.Dn
open PySem PySem.Spec PyProof.Rows L2
/-! ### a dict's answers as data -/
def lkD (kvs : List (PyData × D)) (k : NestedKey) : Option D := (kvs.find? fun q => decide (nk q.1 = some k)).map (·.2)
/-- d[k] = v: the key that stands stays -/
def putD (kvs : List (PyData × D)) (kd : PyData) (k : NestedKey) (d : D) : List (PyData × D) := if some k ∈ kvs.map (fun q => nk q.1) then kvs.map fun q => if nk q.1 = some k then (q.1, d) else q else kvs ++ [(kd, d)]
def dctOf (d : D) (m : Store) : Option (List (PyData × D)) := match dctZ d with
  | some q => some (q.1.zip q.2)
  | none => match d with
    | .cell i => match m.at_ i with
      | some (.dct kvs) => some kvs
      | _ => none
    | _ => none
theorem DctR.ofK {K : KW} {H : Hp} {c : Anc} {es : List (NestedKey × V × V)} {ks : List PyData} {xs : List D} (h : DctK K H es ks) (hv : VDs K H c (es.map (·.2.2)) xs) : DctR K H c es (ks.zip xs) := by
  have l1 := h.len
  have l2 : es.length = xs.length := by rw [← hv.length, List.length_map]
  have z1 : (ks.zip xs).map (·.1) = ks := List.map_fst_zip (by omega)
  have z2 : (ks.zip xs).map (·.2) = xs := List.map_snd_zip (by omega)
  refine ⟨?_, h.dp, h.nd, by rw [z1]; exact h.kd, by rw [z2]; exact hv⟩
  have := congrArg (List.map nk) z1
  simp only [List.map_map] at this
  rw [h.key]
  exact this.symm
/-- a datum that may be a key -/
def keyK : D → Option NestedKey
  | .p d => match nk d with
    | some k => if k.depth ≤ 8 then some k else none
    | none => none
  | _ => none
section
variable {X : Cx} {pins : List (Addr × Obj)} {σ : St} {H : Hp} {s : Shared} {c : Anc} {m : Store}
theorem lk_some {K : KW} {k : NestedKey} {d : D} : ∀ {es : List (NestedKey × V × V)} {xs : List Ent} {kvs : List (PyData × D)}, Paired EntV es xs → es.map (fun e => some e.1) = kvs.map (fun q => nk q.1) → VDs K H c (es.map (·.2.2)) (kvs.map (·.2)) → lkD kvs k = some d → ∃ v u, lkE xs k = some u ∧ RelV v u ∧ VD K H c v d
  | _, _, [], .nil, _, _, e => by cases e
  | _, _, q :: kvs, .nil, ek, _, e => by cases ek
  | _, _, [], .cons h r, ek, _, e => by cases ek
  | _, _, q :: kvs, .cons (a := e0) (b := x) h r, ek, hv, e => by
    simp only [List.map_cons, List.cons.injEq] at ek
    simp only [List.map_cons] at hv
    unfold VDs at hv
    obtain ⟨v, vr, e1, h1, h2⟩ := hv
    cases e1
    by_cases hk : x.1 = k
    · have : nk q.1 = some k := by rw [← ek.1, h.1, hk]
      simp only [lkD, List.find?_cons, this, decide_true, Option.map_some, Option.some.injEq] at e
      refine ⟨_, x.2.2, ?_, h.2.2, by rw [← e]; exact h1⟩
      simp only [lkE, List.find?_cons, hk, decide_true, Option.map_some]
    · have : ¬ nk q.1 = some k := fun z => hk (by rw [← ek.1, h.1] at z; exact Option.some.inj z)
      have e' : lkD kvs k = some d := by
        simp only [lkD, List.find?_cons, this, decide_false] at e
        exact e
      obtain ⟨v', u', g1, g2, g3⟩ := lk_some r ek.2 h2 e'
      refine ⟨v', u', ?_, g2, g3⟩
      simp only [lkE, List.find?_cons, hk, decide_false]
      exact g1
theorem lk_none {k : NestedKey} : ∀ {es : List (NestedKey × V × V)} {xs : List Ent} {kvs : List (PyData × D)}, Paired EntV es xs → es.map (fun e => some e.1) = kvs.map (fun q => nk q.1) → lkD kvs k = none → lkE xs k = none
  | _, _, _, .nil, _, _ => rfl
  | _, _, [], .cons h r, ek, _ => by cases ek
  | _, _, q :: kvs, .cons (a := e0) (b := x) h r, ek, e => by
    simp only [List.map_cons, List.cons.injEq] at ek
    by_cases hk : x.1 = k
    · have : nk q.1 = some k := by rw [← ek.1, h.1, hk]
      simp only [lkD, List.find?_cons, this, decide_true, Option.map_some] at e
      cases e
    · have : ¬ nk q.1 = some k := fun z => hk (by rw [← ek.1, h.1] at z; exact Option.some.inj z)
      have e' : lkD kvs k = none := by
        simp only [lkD, List.find?_cons, this, decide_false] at e
        exact e
      simp only [lkE, List.find?_cons, hk, decide_false]
      exact lk_none r ek.2 e'
theorem lk_isSome {k : NestedKey} {es : List (NestedKey × V × V)} {xs : List Ent} {kvs : List (PyData × D)} (p : Paired EntV es xs) (r : DctR X.kw H c es kvs) : (lkE xs k).isSome = (lkD kvs k).isSome := by
  cases e : lkD kvs k with
  | none => rw [lk_none p r.key e]; rfl
  | some d =>
    obtain ⟨v, u, h1, _⟩ := lk_some p r.key r.vd e
    rw [h1]
    rfl
theorem dctOf_ok {v : V} {d : D} {kvs : List (PyData × D)} (r : RelS X.kw c m H) (hv : VD X.kw H c v d) (e : dctOf d m = some kvs) : ∃ a es, v = .ref a ∧ Rd H a (gdO X.w a es) ∧ DctR X.kw H c es kvs := by
  unfold dctOf at e
  split at e
  · rename_i q hq
    cases e
    obtain ⟨a, o, es, h1, h2, h3, h4⟩ := dctZ_ok (ks := q.1) (xs := q.2) hv hq
    exact ⟨a, es, h1, .inr ⟨o, h2⟩, DctR.ofK h3 h4⟩
  · split at e
    · rename_i i _
      split at e
      · rename_i k2 hm
        cases e
        unfold VD at hv
        obtain ⟨a, h1, h2⟩ := hv
        obtain ⟨es, h3, h4⟩ := r.at_ _ a _ h1 hm
        exact ⟨a, es, h2, .inl h3, h4.warm.mono (Ext.refl _) (forI_le _ _)⟩
      · cases e
    · cases e
theorem keyK_is (I : Inv X pins σ H s) {v : V} {d : D} {u : Value} {k : NestedKey} (hv : VD X.kw H c v d) (e : keyK d = some k) (r : RelV v u) : IsK s.heap k u := by
  unfold keyK at e
  split at e
  · rename_i d
    split at e
    · rename_i k' hk
      split at e
      · rename_i hd
        cases e
        unfold VD at hv
        exact ⟨key_is I hv hk r, hd⟩
      · cases e
    · cases e
  · cases e
/-! ### k in d, k not in d, d[k] -/
def inDc (neg : Bool) (x y : D) (m : Store) : OD := match keyK x, dctOf y m with
  | some k, some kvs => some (.p (.bool (if neg then !(lkD kvs k).isSome else (lkD kvs k).isSome)), m)
  | _, _ => none
theorem op_inDc (hu : X.A.units + 65 < cLine) : OpR X (compareOp .In) (rOf X.kw (inDc false)) := by
  intro pins s σ H x y v u Q I rx ry h
  obtain ⟨c, m, dx, dy, r, h1, h2, w⟩ := h
  unfold inDc at w
  split at w
  · rename_i k kvs hk hd
    obtain ⟨a, es, rfl, h3, h4⟩ := dctOf_ok r h2 hd
    cases ry
    obtain ⟨hS, xs, hg, hp⟩ := gd_at I h3 h4
    show wpAny _ _ (do return Value.bool (← contains (Value.ref a) v)) _ _ _
    refine wpAny_bind (con_key (by omega) (keyK_is I h1 hk rx) hS hg (wpAny_pure ?_))
    rw [lk_isSome hp h4]
    exact ⟨.bl _, H, I.tok _, rfl, w.now r (VD.bl.mpr rfl)⟩
  · exact w.elim
theorem op_notInDc (hu : X.A.units + 65 < cLine) : OpR X (compareOp .NotIn) (rOf X.kw (inDc true)) := by
  intro pins s σ H x y v u Q I rx ry h
  obtain ⟨c, m, dx, dy, r, h1, h2, w⟩ := h
  unfold inDc at w
  split at w
  · rename_i k kvs hk hd
    obtain ⟨a, es, rfl, h3, h4⟩ := dctOf_ok r h2 hd
    cases ry
    obtain ⟨hS, xs, hg, hp⟩ := gd_at I h3 h4
    show wpAny _ _ (do return Value.bool (!(← contains (Value.ref a) v))) _ _ _
    refine wpAny_bind (con_key (by omega) (keyK_is I h1 hk rx) hS hg (wpAny_pure ?_))
    rw [lk_isSome hp h4]
    exact ⟨.bl _, H, I.tok _, rfl, w.now r (VD.bl.mpr rfl)⟩
  · exact w.elim
def ixDc (x y : D) (m : Store) : OD := match dctOf x m, keyK y with
  | some kvs, some k => (lkD kvs k).map fun d => (d, m)
  | _, _ => none
end
end L2.Dn
namespace L2.Dn
open PySem PySem.Spec PyProof.Rows L2
section
variable {X : Cx} {pins : List (Addr × Obj)} {σ : St} {H : Hp} {s : Shared} {c : Anc} {m : Store}
theorem ix_Dc (hu : X.A.units + 65 < cLine) : IxR X (rOf X.kw ixDc) := by
  intro value slice pins s σ H x y v u Q I rx ry h hs
  obtain ⟨c, m, dx, dy, r, h1, h2, w⟩ := h
  unfold ixDc at w
  split at w
  · rename_i kvs k hd hk
    obtain ⟨a, es, rfl, h3, h4⟩ := dctOf_ok r h1 hd
    cases rx
    obtain ⟨hS, xs, hg, hp⟩ := gd_at I h3 h4
    cases e : lkD kvs k with
    | none => rw [e] at w; exact w.elim
    | some d =>
      rw [e] at w
      obtain ⟨v', u', g1, g2, g3⟩ := lk_some hp h4.key h4.vd e
      exact tail_any hg.ty slot_dict_getitem.lookup (gi_key (by omega) (keyK_is I h2 hk ry) hg g1 ⟨v', H, I.tok _, g2, w.now r g3⟩) hs
  · exact w.elim
/-- the told entries behind d[k] = v -/
def esPut (es : List (NestedKey × V × V)) (k : NestedKey) (kv v : V) : List (NestedKey × V × V) := if k ∈ es.map (·.1) then es.map fun x => if x.1 = k then (x.1, x.2.1, v) else x else es ++ [(k, kv, v)]
theorem ent_map {k : NestedKey} {v : V} {u : Value} (rv : RelV v u) : ∀ {es : List (NestedKey × V × V)} {xs : List Ent}, Paired EntV es xs → Paired EntV (es.map fun x => if x.1 = k then (x.1, x.2.1, v) else x) (xs.map fun x => if x.1 = k then (x.1, x.2.1, u) else x)
  | _, _, .nil => .nil
  | _, _, .cons (a := e) (b := x) h r => by
    refine .cons ?_ (ent_map rv r)
    have e1 : e.1 = x.1 := h.1
    dsimp only
    by_cases hk : x.1 = k
    · rw [if_pos hk, if_pos (e1.trans hk)]
      exact ⟨h.1, h.2.1, rv⟩
    · rw [if_neg hk, if_neg (fun z => hk (e1 ▸ z))]
      exact h
theorem ent_app {es es' : List (NestedKey × V × V)} {xs xs' : List Ent} (h : Paired EntV es xs) (h' : Paired EntV es' xs') : Paired EntV (es ++ es') (xs ++ xs') := by
  induction h with
  | nil => exact h'
  | cons h r ih => exact .cons h ih
theorem ent_put {k : NestedKey} {kv v : V} {ku u : Value} (rk : RelV kv ku) (rv : RelV v u) {es : List (NestedKey × V × V)} {xs : List Ent} (h : Paired EntV es xs) : Paired EntV (esPut es k kv v) (putE xs k ku u) := by
  unfold esPut putE
  rw [ents_keys h]
  split
  · exact ent_map rv h
  · exact ent_app h (.cons ⟨rfl, rk, rv⟩ .nil)
theorem keys_esPut {k : NestedKey} {v : V} {es : List (NestedKey × V × V)} : (es.map fun x => if x.1 = k then (x.1, x.2.1, v) else x).map (·.1) = es.map (·.1) := by
  rw [List.map_map]
  exact List.map_congr_left fun x _ => by simp only [Function.comp]; split <;> rfl
theorem DpZs.app {K : KW} {H : Hp} : ∀ {vs ws : List V} {ds es : List PyData}, DpZs K H vs ds → DpZs K H ws es → DpZs K H (vs ++ ws) (ds ++ es)
  | _, _, _, _, .nil, q => q
  | _, _, _, _, .cons h r, q => .cons h (DpZs.app r q)
theorem vd_put {K : KW} {k : NestedKey} {v : V} {d : D} (hv : VD K H c v d) : ∀ {es : List (NestedKey × V × V)} {kvs : List (PyData × D)}, es.map (fun e => some e.1) = kvs.map (fun q => nk q.1) → VDs K H c (es.map (·.2.2)) (kvs.map (·.2)) → VDs K H c ((es.map fun x => if x.1 = k then (x.1, x.2.1, v) else x).map (·.2.2)) ((kvs.map fun q => if nk q.1 = some k then (q.1, d) else q).map (·.2))
  | [], [], _, h => h
  | [], _ :: _, e, _ => by cases e
  | _ :: _, [], e, _ => by cases e
  | e :: es, q :: kvs, ek, h => by
    simp only [List.map_cons, List.cons.injEq] at ek h ⊢
    unfold VDs at h ⊢
    obtain ⟨v0, vr, e1, h1, h2⟩ := h
    cases e1
    by_cases hk : e.1 = k
    · have : nk q.1 = some k := by rw [← ek.1, hk]
      rw [if_pos hk, if_pos this]
      exact ⟨v, _, rfl, hv, vd_put hv ek.2 h2⟩
    · have : ¬ nk q.1 = some k := fun z => hk (by rw [← ek.1] at z; exact Option.some.inj z)
      rw [if_neg hk, if_neg this]
      exact ⟨_, _, rfl, h1, vd_put hv ek.2 h2⟩
theorem DctR.put {K : KW} {es : List (NestedKey × V × V)} {kvs : List (PyData × D)} {k : NestedKey} {kv v : V} {kd : PyData} {d : D} (r : DctR K H c es kvs) (hk : nk kd = some k) (h8 : k.depth ≤ 8) (hkd : DpZ K H kv kd) (hv : VD K H c v d) : DctR K H c (esPut es k kv v) (putD kvs kd k d) := by
  have mm : (some k ∈ kvs.map fun q => nk q.1) ↔ k ∈ es.map (·.1) := by
    rw [← r.key]
    simp
  unfold esPut putD
  by_cases hm : k ∈ es.map (·.1)
  · rw [if_pos hm, if_pos (mm.mpr hm)]
    have ek2 : ((es.map fun x => if x.1 = k then (x.1, x.2.1, v) else x).map (·.2.1)) = es.map (·.2.1) := by
      rw [List.map_map]
      exact List.map_congr_left fun x _ => by simp only [Function.comp]; split <;> rfl
    have ek3 : ((kvs.map fun q => if nk q.1 = some k then (q.1, d) else q).map (·.1)) = kvs.map (·.1) := by
      rw [List.map_map]
      exact List.map_congr_left fun x _ => by simp only [Function.comp]; split <;> rfl
    refine ⟨?_, fun e he => ?_, by rw [keys_esPut]; exact r.nd, by rw [ek2, ek3]; exact r.kd, vd_put hv r.key r.vd⟩
    · have a1 := congrArg (List.map some) (keys_esPut (k := k) (v := v) (es := es))
      have a2 := congrArg (List.map nk) ek3
      simp only [List.map_map] at a1 a2 ⊢
      have r' := r.key
      exact a1.trans (r'.trans a2.symm)
    · obtain ⟨x, hx, rfl⟩ := List.mem_map.mp he
      have := r.dp x hx
      split <;> exact this
  · rw [if_neg hm, if_neg fun z => hm (mm.mp z)]
    refine ⟨?_, fun e he => ?_, ?_, ?_, ?_⟩
    · rw [List.map_append, List.map_append, r.key]
      simp [hk]
    · rcases List.mem_append.mp he with he | he
      · exact r.dp e he
      · obtain rfl := List.mem_singleton.mp he
        exact h8
    · rw [List.map_append, List.nodup_append]
      refine ⟨r.nd, by simp, fun a ha b hb e => ?_⟩
      have : b = k := by simpa using hb
      exact hm (by rw [← this, ← e]; exact ha)
    · rw [List.map_append, List.map_append]
      exact DpZs.app r.kd (.cons hkd .nil)
    · rw [List.map_append, List.map_append]
      exact r.vd.append (VDs.one hv)
/-- how a told dict is told anew -/
theorem gd_ok {P : Program} {w : World} {h : Heap} {a : Addr} {es : List (NestedKey × V × V)} {xs : List Ent} (hS : (a == sysModules) = false) (hg : GDict w h a xs) (hp : Paired EntV es xs) : ObjOk P w H h a (gdO w a es) := by
  obtain ⟨o, ens, ep, h1, h2, h3, h4, h5, h6⟩ := hg
  refine ⟨⟨o, ens, ep, hS, h1, h2, h3, ?_⟩, ⟨o, h1⟩, fun g1 g2 z k => ?_⟩
  · rw [h4]
    clear h1 h2 h3 h4 h5 h6
    induction hp with
    | nil => exact .nil
    | cons h r ih => exact .cons ⟨by rw [h.1]; rfl, h.2.1, h.2.2⟩ ih
  · obtain ⟨o, ens, ep, y0, y1, y2, y3, y4⟩ := z
    exact ⟨o, ens, ep, y0, k _ y1, y2, y3, y4⟩
/-- o[i] = v, a dict -/
def setItemDc (o i d : D) (m : Store) : Option Store := match o, i with
  | .cell x, .p kd => match m.at_ x, keyK (.p kd) with
    | some (.dct kvs), some k => if kvs.length < sizeLine ∧ okIn d x = true then some (m.set (.dct (putD kvs kd k d)) x) else none
    | _, _ => none
  | _, _ => none
theorem keyK_p {kd : PyData} {k : NestedKey} (e : keyK (.p kd) = some k) : nk kd = some k ∧ k.depth ≤ 8 := by
  unfold keyK at e
  dsimp only at e
  split at e
  · rename_i k' hk
    split at e
    · rename_i hd
      cases e
      exact ⟨hk, hd⟩
    · cases e
  · cases e
theorem set_dict (hu : X.A.units + 65 < cLine) : PSet X (rSetOf X.kw setItemDc) := by
  intro pins s σ H o i v ov iv u Q I ro ri rv h
  obtain ⟨c, m, m', do_, di, dd, r, h1, h2, h3, e, q⟩ := h
  unfold setItemDc at e
  split at e
  · rename_i x kd
    split at e
    · rename_i kvs k hm hk
      split at e
      · rename_i hc
        cases e
        unfold VD at h1
        obtain ⟨a, ha, rfl⟩ := h1
        cases ro
        obtain ⟨es, g1, g2⟩ := r.at_ x a _ ha hm
        obtain ⟨hS, xs, hg, hp⟩ := gd_at I (.inl g1) g2.warm
        obtain ⟨k1, k2⟩ := keyK_p hk
        have hlen : xs.length ≤ sizeLine := by
          have a1 := congrArg List.length (ents_keys hp)
          have a2 := congrArg List.length g2.key
          simp only [List.length_map] at a1 a2
          have := hc.1
          omega
        refine si_key (by omega) (keyK_is I (c := c) h2 hk ri) hg hlen fun h' hg' hs => ?_
        have hkd : DpZ X.kw H i kd := by unfold VD at h2; exact h2
        have r2 : DctR X.kw.cold H (forI c x) (esPut es k i v) (putD kvs kd k dd) := g2.put k1 k2 (DpZ.kw (K := X.kw) (K' := X.kw.cold) rfl rfl hkd) (VD.forI h3 hc.2)
        refine ⟨_, I.write (x := a) (e := a) (o := gdO X.w a (esPut es k i v)) (by rw [g1]; exact True.intro) (.inl rfl) (fun b u hb e => (hs.2 b hb).trans e) ?_ (gd_ok hS hg' (ent_put ri rv hp)), q _ ?_⟩
        · obtain ⟨o, _, _, e, _⟩ := hg'
          exact ⟨o, e⟩
        · exact r.putC ha hm (by intro z; cases z) g1 rfl ⟨_, upd_same, r2.mono (Ext.putO g1 rfl) (Pre.refl _)⟩
      · cases e
    · cases e
  · cases e
end
end L2.Dn
namespace L2.Dn
open PySem PySem.Spec PyProof.Rows L2
section
variable {X : Cx} {W : WX} {pos : Pos} {c : Anc} {ρ : Rho} {m : Store} {σ : St} {H : Hp}
theorem gd_empty {P : Program} {w : World} {H : Hp} (h : Heap) (hb : sysModules < h.objs.size) : ObjOk P w H (h.push { cls := .type "dict", data := .dict #[] }) h.objs.size (gdO w h.objs.size []) :=
  gd_ok (xs := []) (beq_eq_false_iff_ne.mpr (Nat.ne_of_gt hb)) ⟨_, #[], 0, Heap.get?_push_size _ rfl, ⟨rfl, rfl, rfl⟩, rfl, rfl, fun x hx => (by cases hx), List.nodup_nil⟩ .nil
/-- {} -/
def tDNew (w : World) : TE := fun _ H Q => ∀ p, H p = none → Q (.ref p) (upd H p (gdO w p []))
theorem pe_dnew : PE X (.Dict [] [] pos) (tDNew X.w) := ⟨fun pins s σ H Q I h =>
  wpAny_Dict_empty ⟨.ref s.heap.objs.size, _, I.laid (a := s.heap.objs.size) (o := gdO X.w s.heap.objs.size []) (h' := s.heap.push { cls := .type "dict", data := .dict #[] }) (t' := s.toks) (fun _ _ q => Heap.get?_push_of_some _ q) (Nat.le_refl _) (gd_empty s.heap I.big), rfl, h _ (I.hok.fresh (Nat.le_refl _))⟩⟩
/-- a new dict, a cell -/
def newD : Md → List (PyData × D) → Store → Res D
  | .z, kvs, m => .ok (mkDct kvs) m
  | .l, kvs, m => if nxs (kvs.map (·.2)) then .ok (.cell (m.next true)) (m.push (.dct kvs) true) else .stuck
  | .g, kvs, m => if nls (kvs.map (·.2)) then .ok (.cell (m.next false)) (m.push (.dct kvs) false) else .stuck
def dct0E (z : Md) : FE := fun _ m => newD z [] m
theorem newD_ok {z : Md} {kvs : List (PyData × D)} {es : List (NestedKey × V × V)} {Q : VK} (r : RelS X.kw c m H) {p : Addr} (hp : H p = none) (hv : DctR X.kw H c es kvs) (h : Want X W c H σ (newD z kvs m) Q) : QF Q (.ref p) (upd H p (gdO X.w p es)) := by
  have ex : Ext H (upd H p (gdO X.w p es)) := Ext.new hp
  cases z with
  | z =>
    right
    refine ⟨p, _, rfl, upd_same, trivial, fun o => ?_⟩
    rw [upd_upd]
    have g : Gd X.kw c c m H (upd H p (.frz o (gdO X.w p es))) := r.lay hp
    exact h c _ _ g (mkDct_ok (hv.mono g.ext (Pre.refl _)) upd_same)
  | l =>
    left
    cases hn : nxs (kvs.map (·.2)) with
    | false => rw [newD, hn] at h; exact h.elim
    | true =>
      rw [newD, hn] at h
      have cr : DctR X.kw.cold H c es kvs := ⟨hv.key, hv.dp, hv.nd, DpZs.kw (K := X.kw) (K' := X.kw.cold) rfl rfl hv.kd, hv.vd.cold hn⟩
      refine h _ _ _ (r.newC true hp ⟨es, upd_same, cr.mono ex (Pre.refl _)⟩) ?_
      unfold VD
      exact ⟨p, by rw [← next_eq r]; exact push_next _ _ _, rfl⟩
  | g =>
    left
    cases hn : nls (kvs.map (·.2)) with
    | false => rw [newD, hn] at h; exact h.elim
    | true =>
      rw [newD, hn] at h
      have cr : DctR X.kw.cold H (glob c) es kvs := ⟨hv.key, hv.dp, hv.nd, DpZs.kw (K := X.kw) (K' := X.kw.cold) rfl rfl hv.kd, (VDs.nl _ hv.vd hn).cold (nxs_of_nls _ hn)⟩
      refine h _ _ _ (r.newC false hp ⟨es, upd_same, cr.mono ex (Pre.refl _)⟩) ?_
      unfold VD
      exact ⟨p, by rw [← next_eq r]; exact push_next _ _ _, rfl⟩
/-- the same of a dict that lies already, beside the cells -/
theorem newD_at {c' : Anc} {m' : Store} {H' : Hp} {z : Md} {kvs : List (PyData × D)} {es : List (NestedKey × V × V)} {u0 : HO} {p : Addr} {Q : VK} (g : Gd X.kw c c' m' H H') (h0 : H p = none) (hn : ¬ Has c' p) (ha : H' p = some u0) (lu : liveO u0 = true) (hv : DctR X.kw H' c' es kvs) (h : Want X W c H σ (newD z kvs m') Q) : QF Q (.ref p) (upd H' p (gdO X.w p es)) := by
  have neF : ∀ b o, H b = some o → b ≠ p := fun b o e z => by rw [z, h0] at e; cases e
  have side : ∀ u, Gd X.kw c c' m' H (upd H' p u) := fun u => by
    have ex : Ext H' (upd H' p u) := Ext.putO ha lu
    refine ⟨g.pre, g.ext.trans ex, g.new, fun b u hb e => by rw [upd_ne (neF b u e)]; exact g.frame b u hb e, g.rel.len, g.rel.inj, fun i b x h1 h2 => (g.rel.at_ i b x h1 h2).mono ex (Pre.refl _) fun zs _ e => ?_⟩
    rw [upd_ne (fun z => hn ⟨i, by rw [← z]; exact h1⟩)]
    exact e
  have hv2 : ∀ u, DctR X.kw (upd H' p u) c' es kvs := fun u => hv.mono (Ext.putO ha lu) (Pre.refl _)
  have push : ∀ loc, CellR X.kw.cold (upd H' p (gdO X.w p es)) (forI c' (c'.next loc)) p (.dct kvs) → Gd X.kw c (c'.push p loc) (m'.push (.dct kvs) loc) H (upd H' p (gdO X.w p es)) := fun loc cr => by
    have s := side (gdO X.w p es)
    exact ⟨s.pre.trans (push_pre _ _ _), s.ext, fun b hb => (has_push hb).elim (s.new b) fun e => .inr (by rw [e]; exact h0), s.frame, s.rel.adoptC loc hn cr⟩
  cases z with
  | z =>
    right
    refine ⟨p, _, rfl, upd_same, trivial, fun o => ?_⟩
    rw [upd_upd]
    exact h c' _ _ (side _) (mkDct_ok (hv2 _) upd_same)
  | l =>
    left
    cases hx : nxs (kvs.map (·.2)) with
    | false => rw [newD, hx] at h; exact h.elim
    | true =>
      rw [newD, hx] at h
      have v2 := hv2 (gdO X.w p es)
      refine h _ _ _ (push true ⟨es, upd_same, v2.key, v2.dp, v2.nd, DpZs.kw (K := X.kw) (K' := X.kw.cold) rfl rfl v2.kd, v2.vd.cold hx⟩) ?_
      unfold VD
      exact ⟨p, by rw [← next_eq g.rel]; exact push_next _ _ _, rfl⟩
  | g =>
    left
    cases hx : nls (kvs.map (·.2)) with
    | false => rw [newD, hx] at h; exact h.elim
    | true =>
      rw [newD, hx] at h
      have v2 := hv2 (gdO X.w p es)
      refine h _ _ _ (push false ⟨es, upd_same, v2.key, v2.dp, v2.nd, DpZs.kw (K := X.kw) (K' := X.kw.cold) rfl rfl v2.kd, (VDs.nl _ v2.vd hx).cold (nxs_of_nls _ hx)⟩) ?_
      unfold VD
      exact ⟨p, by rw [← next_eq g.rel]; exact push_next _ _ _, rfl⟩
theorem de_dict0 (z : Md) : DE X W (.Dict [] [] pos) (dct0E z) := fun c ρ m σ H Q r s w => WE.frz (we_of pe_dnew fun p hp =>
  newD_ok (z := z) (kvs := []) (es := []) r hp ⟨rfl, fun e he => (by cases he), List.nodup_nil, .nil, by simp [VDs]⟩ w)
end
end L2.Dn
namespace L2.Dn
open PySem PySem.Spec PyProof.Rows L2
/-! ### {k: v, ..} -/
def putAllE : List Ent → List Ent → List Ent
  | xs, [] => xs
  | xs, e :: r => putAllE (putE xs e.1 e.2.1 e.2.2) r
theorem putE_len (xs : List Ent) (k : NestedKey) (v u : Value) : (putE xs k v u).length ≤ xs.length + 1 := by
  unfold putE
  split
  · rw [List.length_map]; omega
  · simp
section
variable {P : Program} {w : World} {A : Around} {E : Value → Shared → Prop} {d : Addr}
theorem storeG (hu : A.units + 8 < cLine) : ∀ (vs : List Ent) (xs : List Ent) (s : Shared) (Q : PUnit → Shared → Prop), (∀ x ∈ vs, IsK s.heap x.1 x.2.1) → GDict w s.heap d xs → xs.length + vs.length ≤ sizeLine →
    (∀ h' tk, GDict w h' d (putAllE xs vs) → Heap.SameBut d s.heap h' → Q PUnit.unit { s with heap := h', toks := tk }) →
    wpAny (model P w) A (forIn (vs.map fun x => (x.2.1, x.2.2)) PUnit.unit fun (x : Value × Value) (_ : PUnit) => (do dictSet d x.1 x.2; pure (ForInStep.yield PUnit.unit) : Sem (ForInStep PUnit))) Q E s
  | [], xs, s, Q, _, hm, _, hQ => by
    rw [List.map_nil, List.forIn_nil]
    exact wpAny_pure (hQ s.heap s.toks hm (Heap.SameBut.refl _ _))
  | x :: vs, xs, s, Q, hk, hm, hz, hQ => by
    rw [List.length_cons] at hz
    rw [List.map_cons, List.forIn_cons]
    refine wpAny_bind (wpAny_bind (set_key hu (hk x List.mem_cons_self) hm (by omega) fun h1 m1 s1 => wpAny_pure ?_))
    obtain ⟨o, es, ep, ho, _, hd, _⟩ := id hm
    refine storeG hu vs _ _ Q (fun y hy => isK_but (hk y (List.mem_cons_of_mem _ hy)) ho hd s1) m1 (show (putE xs x.1 x.2.1 x.2.2).length + vs.length ≤ sizeLine by have := putE_len xs x.1 x.2.1 x.2.2; omega) fun h2 tk m2 s2 => ?_
    exact hQ h2 tk m2 (s1.trans s2)
theorem subG_ {s : Shared} {prs : List (Sem Value × Sem Value)} {Q : Addr → Shared → Prop} (hu : A.units + 8 < cLine) (hl : prs.length ≤ 15)
    (h : wpAny (model P w) A (evalPairs prs) (fun vs s1 => ∃ es : List Ent, vs = es.map (fun x => (x.2.1, x.2.2)) ∧ (∀ x ∈ es, IsK s1.heap x.1 x.2.1) ∧ GDict w s1.heap s.heap.objs.size [] ∧
      ∀ h' tk, GDict w h' s.heap.objs.size (putAllE [] es) → Heap.SameBut s.heap.objs.size s1.heap h' → Q s.heap.objs.size { s1 with heap := h', toks := tk }) E
      { s with heap := s.heap.push ⟨.type "dict", none, .dict #[] 0, #[]⟩ }) : wpAny (model P w) A (subDict prs) Q E s := by
  unfold subDict
  refine wpAny_bind (wpAny_alloc (wpAny_bind (wpAny_holding ?_)))
  rw [if_pos hl]
  refine wpAny_bind (wpAny_mono (wpAny_evalPairs_len h) ?_ fun _ _ e => e)
  rintro vs s1 ⟨e1, es, rfl, h1, h2, h3⟩
  have z : ([] : List Ent).length + es.length ≤ sizeLine := by
    rw [List.length_map] at e1
    rw [sizeLine_eq, List.length_nil]
    omega
  exact wpAny_holding (wpAny_bind (storeG hu es [] s1 _ h1 h2 z fun h' tk m' s' => wpAny_pure (wpAny_pure (h3 h' tk m' s'))))
end
/-- the pairs of a display -/
abbrev FP := Rho → Store → Res (List (D × D))
def nilP : FP := fun _ m => .ok [] m
def consP (fk fv : FE) (g : FP) : FP := fun ρ m => (fk ρ m).bind fun k m1 => (fv ρ m1).bind fun v m2 => (g ρ m2).bind fun r m3 => .ok ((k, v) :: r) m3
def WantP (X : Cx) (W : WX) (c : Anc) (H : Hp) (σ : St) (r : Res (List (D × D))) (Q : List (V × V) → Hp → Prop) : Prop := match r with
  | .ok ds m' => ∀ c' vs H', Gd X.kw c c' m' H H' → VDs X.kw H' c' (vs.map (·.1)) (ds.map (·.1)) → VDs X.kw H' c' (vs.map (·.2)) (ds.map (·.2)) → Q vs H'
  | .exc x m' => ∀ c' cls dd H', Gd X.kw c c' m' H H' → ExcV X.kw H' c' x cls dd → W cls dd σ H'
  | .stuck => False
def WP (X : Cx) (pos : Pos) (ks : List (Option Expr)) (vs : List Expr) (σ : St) (H : Hp) (Q : List (V × V) → Hp → Prop) : Prop := ∀ (pins : List (Addr × Obj)) (s : Shared), Inv X pins σ H s →
  wpAny (model X.prog X.w) X.A (evalPairs (pairTrees ks vs X.env pos)) (fun us s' => ∃ ps H', Inv X pins σ H' s' ∧ VV ps us ∧ Q ps H') X.xe s
def DPs (X : Cx) (W : WX) (pos : Pos) (ks : List (Option Expr)) (vs : List Expr) (f : FP) : Prop := ∀ (c : Anc) (ρ : Rho) (m : Store) (σ : St) (H : Hp) (Q : List (V × V) → Hp → Prop), RelS X.kw c m H → Slo X.kw H c ρ σ → WantP X W c H σ (f ρ m) Q → WP X pos ks vs σ H Q
section
variable {X : Cx} {W : WX} {a b e k v : Expr} {ks : List (Option Expr)} {vs : List Expr} {fk fv : FE} {g : FP} {pos : Pos} {c : Anc} {ρ : Rho} {m : Store} {σ : St} {H : Hp}
theorem WantP.shift {c' : Anc} {H' : Hp} {m' : Store} {r : Res (List (D × D))} {Q : List (V × V) → Hp → Prop} (gd : Gd X.kw c c' m' H H') (h : WantP X W c H σ r Q) : WantP X W c' H' σ r Q := by
  cases r with
  | ok d m1 => exact fun c1 v H1 g1 h1 h2 => h c1 v H1 (gd.trans g1) h1 h2
  | exc x m1 => exact fun c1 cls dd H1 g1 hv => h c1 cls dd H1 (gd.trans g1) hv
  | stuck => exact h
theorem dps_nil : DPs X W pos [] [] nilP := fun c ρ m σ H Q r s w pins st I => pairTrees_nil_walk ⟨[], H, I, .nil, w c [] H (Gd.refl r) (by simp [VDs]) (by simp [VDs])⟩
theorem DE.thenP {f : FE} {kk : D → Store → Res (List (D × D))} {Q : VK} {Q' : List (V × V) → Hp → Prop} (h : DE X W a f) (r : RelS X.kw c m H) (s : Slo X.kw H c ρ σ) (hb : WantP X W c H σ ((f ρ m).bind kk) Q')
    (q : ∀ d m1 c1 v H1, RelS X.kw c1 m1 H1 → Slo X.kw H1 c1 ρ σ → Gd X.kw c c1 m1 H H1 → VD X.kw H1 c1 v d → WantP X W c1 H1 σ (kk d m1) Q' → Q v H1) : WE X a σ H Q :=
  h.then_ (WB := fun c H r => WantP X W c H σ r Q') r s hb (fun _ _ z => z) (fun _ _ _ _ z => z) (fun g z => z.shift g) q
theorem dps_cons (hk : DE X W k fk) (hv : DE X W v fv) (hr : DPs X W pos ks vs g) : DPs X W pos (some k :: ks) (v :: vs) (consP fk fv g) := fun c ρ m σ H Q r s w pins st I => by
  refine pairTrees_cons_walk (thn ((hk.thenP (Q := fun x H1 => WE X v σ H1 fun y H2 => WP X pos ks vs σ H2 fun ps H3 => Q ((x, y) :: ps) H3) r s w (fun dk m1 c1 vk H1 r1 s1 g1 h1 w1 => ?_)).go pins st I) ?_)
  · refine hv.thenP r1 s1 w1 fun dv m2 c2 vv H2 r2 s2 g2 h2 w2 => ?_
    refine hr c2 ρ m2 σ H2 _ r2 s2 ?_
    cases q : g ρ m2 with
    | stuck => rw [q] at w2; exact w2
    | exc x m3 => rw [q] at w2; exact w2
    | ok ds m3 =>
      rw [q] at w2
      intro c3 ps H3 g3 k1 k2
      refine w2 c3 _ H3 g3 ?_ ?_
      · show VDs X.kw H3 c3 (vk :: ps.map (·.1)) (dk :: ds.map (·.1))
        unfold VDs
        exact ⟨_, _, rfl, g3.vd (g2.vd h1), k1⟩
      · show VDs X.kw H3 c3 (vv :: ps.map (·.2)) (dv :: ds.map (·.2))
        unfold VDs
        exact ⟨_, _, rfl, g3.vd h2, k2⟩
  · rintro u s1 ⟨x, H1, I1, rx, q1⟩
    refine thn (q1.go pins s1 I1) ?_
    rintro u2 s2 ⟨y, H2, I2, ry, q2⟩
    refine thn (q2 pins s2 I2) ?_
    rintro us s3 ⟨ps, H3, I3, rp, q3⟩
    exact ⟨(x, y) :: ps, H3, I3, .cons ⟨rx, ry⟩ rp, q3⟩
/-- the entries of a display, later ones for earlier ones -/
def putsD : List (PyData × D) → List (D × D) → Option (List (PyData × D))
  | kvs, [] => some kvs
  | kvs, (.p kd, d) :: r => match keyK (.p kd) with
    | some k => putsD (putD kvs kd k d) r
    | none => none
  | _, _ => none
theorem puts_ok {pins : List (Addr × Obj)} {s : Shared} {P : Program} (I : Inv X pins σ H s) : ∀ {ds : List (D × D)} {ps : List (V × V)} {us : List (Value × Value)} {kvs kvs' : List (PyData × D)} {es : List (NestedKey × V × V)} {xs : List Ent}, VV ps us → VDs X.kw H c (ps.map (·.1)) (ds.map (·.1)) → VDs X.kw H c (ps.map (·.2)) (ds.map (·.2)) →
    putsD kvs ds = some kvs' → DctR X.kw H c es kvs → Paired EntV es xs → ∃ (en : List Ent) (es' : List (NestedKey × V × V)), us = en.map (fun x => (x.2.1, x.2.2)) ∧ (∀ x ∈ en, IsK s.heap x.1 x.2.1) ∧ DctR X.kw H c es' kvs' ∧ Paired EntV es' (putAllE xs en)
  | [], ps, us, kvs, kvs', es, xs, rv, h1, h2, e, r, p => by
    cases e
    cases ps with
    | cons p ps => simp [VDs] at h1
    | nil =>
      cases rv
      exact ⟨[], es, rfl, fun x hx => (by cases hx), r, p⟩
  | (dk, dv) :: ds, ps, us, kvs, kvs', es, xs, rv, h1, h2, e, r, p => by
    cases ps with
    | nil => simp [VDs] at h1
    | cons q ps =>
      simp only [List.map_cons] at h1 h2
      unfold VDs at h1 h2
      obtain ⟨_, _, z1, h1, h1'⟩ := h1
      cases z1
      obtain ⟨_, _, z2, h2, h2'⟩ := h2
      cases z2
      cases rv with
      | @cons _ u _ us rq rv =>
        cases dk with
        | p kd =>
          unfold putsD at e
          cases hk : keyK (.p kd) with
          | none => rw [hk] at e; cases e
          | some k =>
            rw [hk] at e
            obtain ⟨k1, k2⟩ := keyK_p hk
            have hkd : DpZ X.kw H q.1 kd := by unfold VD at h1; exact h1
            obtain ⟨en, es', e1, e2, e3, e4⟩ := puts_ok (P := P) I rv h1' h2' e (r.put k1 k2 hkd h2) (ent_put rq.1 rq.2 p)
            refine ⟨(k, u.1, u.2) :: en, es', by rw [e1]; rfl, fun x hx => ?_, e3, e4⟩
            rcases List.mem_cons.mp hx with rfl | hx
            · exact keyK_is I (c := c) (by unfold VD; exact hkd) hk rq.1
            · exact e2 x hx
        | _ => cases e
def dctE (z : Md) (g : FP) : FE := fun ρ m => (g ρ m).bind fun ds m1 => match putsD [] ds with
  | some kvs => newD z kvs m1
  | none => .stuck
theorem de_dict (z : Md) (hu : X.A.units + 65 < cLine) (h : DPs X W pos ks vs g) (hall : ks.all (·.isSome) = true := by rfl) (hl : ks.length = vs.length := by rfl) (h0 : ks ≠ [] := by intro z; cases z) (h15 : ks.length ≤ 15 := by decide) : DE X W (.Dict ks vs pos) (dctE z g) := fun c ρ m σ H Q r s w => WE.frz <| .mk fun pins st I => by
  have hn := pairTrees_length ks vs X.env pos hall hl
  have ne : pairTrees ks vs X.env pos ≠ [] := fun z => by
    rw [z] at hn
    exact h0 (List.length_eq_zero_iff.mp hn.symm)
  have hp : H st.heap.objs.size = none := I.hok.fresh (Nat.le_refl _)
  have np : ¬ Has c st.heap.objs.size := r.not hp
  have J := I.laid (a := st.heap.objs.size) (o := gdO X.w st.heap.objs.size []) (h' := st.heap.push ⟨.type "dict", none, .dict #[] 0, #[]⟩) (t' := st.toks) (fun _ _ q => Heap.get?_push_of_some _ q) (Nat.le_refl _) (gd_empty st.heap I.big)
  have g0 : Gd X.kw c c m H (upd H st.heap.objs.size (gdO X.w st.heap.objs.size [])) := r.lay hp
  rw [arm_eval_Dict, zip_pairTrees ks vs X.env pos hall hl, dictDisplay_pairs _ ne (by rw [hn]; omega)]
  refine wpAny_bind (wpAny_standAt (wpAny_bind (subG_ (Q := fun d s' => wpAny (model X.prog X.w) X.A (pure (Value.ref d)) (EP X pins σ (QF Q)) X.xe s') (by omega) (by rw [hn]; exact h15) ?_)))
  refine wpAny_mono (h c ρ m σ _ (fun ps H2 => ∃ c2 m2 kvs ds, Gd X.kw c c2 m2 H H2 ∧ H2 st.heap.objs.size = some (gdO X.w st.heap.objs.size []) ∧ ¬ Has c2 st.heap.objs.size ∧ VDs X.kw H2 c2 (ps.map (·.1)) (ds.map (·.1)) ∧ VDs X.kw H2 c2 (ps.map (·.2)) (ds.map (·.2)) ∧ putsD [] ds = some kvs ∧ Want X W c H σ (newD z kvs m2) Q) g0.rel (g0.slots s) ?_ pins _ J) ?_ fun _ _ e => e
  · unfold dctE at w
    cases q : g ρ m with
    | stuck => rw [q] at w; exact w
    | exc x m1 => rw [q] at w; exact fun c1 cls dd H1 g1 hx => w c1 cls dd H1 (g0.trans g1) hx
    | ok ds m1 =>
      rw [q] at w
      intro c1 ps H1 g1 k1 k2
      have w : Want X W c H σ (match putsD [] ds with | some kvs => newD z kvs m1 | none => .stuck) Q := w
      cases q2 : putsD [] ds with
      | none => rw [q2] at w; exact w.elim
      | some kvs =>
        rw [q2] at w
        refine ⟨c1, m1, kvs, ds, g0.trans g1, g1.frame _ _ np upd_same, fun z => ?_, k1, k2, q2, w⟩
        rcases g1.new _ z with y | y
        · exact np y
        · rw [upd_same] at y; cases y
  · rintro us s1 ⟨ps, H2, I2, rp, c2, m2, kvs, ds, gg, p2, np2, k1, k2, q2, w⟩
    obtain ⟨hS, xs, hg, hx⟩ := gd_at (es := []) (kvs := []) (c := c2) I2 (.inl p2) ⟨rfl, fun e he => (by cases he), List.nodup_nil, .nil, by simp [VDs]⟩
    cases hx
    obtain ⟨en, es', e1, e2, e3, e4⟩ := puts_ok (P := X.prog) I2 rp k1 k2 q2 (es := []) (xs := []) ⟨rfl, fun e he => (by cases he), List.nodup_nil, .nil, by simp [VDs]⟩ .nil
    refine ⟨en, e1, e2, hg, fun h' tk m' s' => wpAny_pure ⟨.ref st.heap.objs.size, upd H2 st.heap.objs.size (gdO X.w st.heap.objs.size es'), ?_, rfl, ?_⟩⟩
    · refine I2.write (t' := tk) (x := st.heap.objs.size) (e := st.heap.objs.size) (o := gdO X.w st.heap.objs.size es') (by rw [p2]; exact True.intro) (.inl rfl) (fun b u hb e => (s'.2 b hb).trans e) ?_ (gd_ok hS m' e4)
      obtain ⟨o, _, _, e, _⟩ := m'
      exact ⟨o, e⟩
    · exact newD_at gg hp np2 p2 rfl e3 w
end
end L2.Dn
namespace L2.Dn
open PySem PySem.Spec PyProof.Rows L2
/-! ### more that is asked of dicts -/
section
variable {P : Program} {w : World} {A : Around} {E : Value → Shared → Prop} {s : Shared} {d : Addr} {xs : List Ent} {ens : Array DictEntry} {ep : Nat} {k : NestedKey} {v u : Value}
theorem GDict.raw (h : GDict w s.heap d xs) : ∃ ens ep, s.heap.DictRaw d ens ep ∧ ens.toList = xs.map (entOf w) ∧ ens.size = xs.length := by
  obtain ⟨o, es, ep, h1, h2, h3, h4, _⟩ := h
  exact ⟨es, ep, ⟨o, h1, h2, h3⟩, h4, by rw [← Array.length_toList, h4, List.length_map]⟩
theorem lenB_raw {Q : Value → Shared → Prop} (hd : (d == sysModules) = false) (hm : s.heap.DictRaw d ens ep) (hf : (ens.size : Int) < 2 ^ 63) (h : ∀ t tk, Q (.int ens.size t) { s with toks := tk }) :
    wpAny (model P w) A (Builtin.«len» ⟨[.ref d], []⟩) (fun fin s' => ∃ r, fin = .done (.ret r) ∧ Q r s') E s := by
  unfold Builtin.«len»
  refine wpAny_bind (m := oneArg "len" _) (wpAny_pure ?_)
  refine wpAny_bind (m := callSpecial? (.ref d) (Str.ofString "__len__")) (wpAny_callSpecial?_slot (name := Str.ofString "__len__") hm.typeIs F.slot_dict_len (call_len_raw hd hm ?_))
  refine wpAny_bind (wpAny_holding (wpAny_pure (wpAny_bind (wpAny_letGo ?_))))
  show wpAny _ _ (if ((ens.size : Nat) : Int) < 0 then _ else _) _ _ _
  rw [if_neg (by omega)]
  show wpAny _ _ (if ((ens.size : Nat) : Int) ≥ 2 ^ 63 then _ else _) _ _ _
  rw [if_neg (by omega)]
  exact wpAny_bind (wpAny_mkInt (wpAny_pure ⟨_, rfl, h _ _⟩))
theorem len_raw {Q : Value → Shared → Prop} (hd : (d == sysModules) = false) (hm : s.heap.DictRaw d ens ep) (hf : (ens.size : Int) < 2 ^ 63) (h : ∀ t tk, Q (.int ens.size t) { s with toks := tk }) : wpAny (model P w) A (call (.builtin "len") [.ref d]) Q E s :=
  Calls.call_function_entry kind_len plain_len entry_len (args_len1 _) (lenB_raw hd hm hf h)
theorem truthy_raw {Q : Bool → Shared → Prop} (hd : (d == sysModules) = false) (hm : s.heap.DictRaw d ens ep) (hf : (ens.size : Int) < 2 ^ 63) (h : ∀ tk, Q ((ens.size : Int) != 0) { s with toks := tk }) : wpAny (model P w) A (truthy (.ref d)) Q E s := by
  have key : wpAny (model P w) A (runValue (.builtin "len" ⟨[.ref d], []⟩)) (fun r s' => ∃ t, r = .int ens.size t ∧ Q ((ens.size : Int) != 0) s') E s := by
    refine wpAny_runValue (codeAny_builtin entry_len ?_)
    rw [Around.under_plainId plain_len _]
    refine wpAny_mono (lenB_raw (Q := fun r s' => ∃ t, r = .int ens.size t ∧ Q ((ens.size : Int) != 0) s') hd hm hf fun t tk => ⟨t, rfl, h tk⟩) ?_ fun _ _ e => e
    rintro fin s' ⟨r, rfl, hq⟩
    exact hq
  unfold truthy
  first
    | refine wpAny_bind (wpAny_callSpecial?_none (name := Str.ofString "__bool__") hm.typeIs noBool_dict ?_)
    | refine wpAny_bind (wpAny_pure (wpAny_bind (wpAny_callSpecial?_none (name := Str.ofString "__bool__") hm.typeIs noBool_dict ?_)))
  first
    | refine wpAny_bind (wpAny_specialOf (name := Str.ofString "__len__") hm.typeIs F.slot_dict_len.lookup ?_)
    | refine wpAny_bind (wpAny_pure (wpAny_bind (wpAny_specialOf (name := Str.ofString "__len__") hm.typeIs F.slot_dict_len.lookup ?_)))
  have fin : ∀ r s', (∃ t, r = Value.int ens.size t ∧ Q ((ens.size : Int) != 0) s') → ∃ t, r = Value.int ens.size t ∧ Q ((ens.size : Int) != 0) s' := fun _ _ z => z
  first
    | exact wpAny_bind (wpAny_mono key (fun r s' h' => by obtain ⟨t, rfl, hq⟩ := h'; exact wpAny_pure hq) fun _ _ e => e)
    | exact wpAny_bind (wpAny_pure (wpAny_bind (wpAny_mono key (fun r s' h' => by obtain ⟨t, rfl, hq⟩ := h'; exact wpAny_pure hq) fun _ _ e => e)))
theorem get_raw1 {Q : Value → Shared → Prop} (hu : A.units + 9 < cLine) (hk : IsK s.heap k v) (hd : (d == sysModules) = false) (hm : GDict w s.heap d xs) (q : Q ((lkE xs k).getD .none) { s with toks := s.toks + k.draws }) : wpAny (model P w) A (call (.builtin "dict.get") [.ref d, v]) Q E s := by
  refine call_meetsIn F.slot_dict_get hm.ty F.entry_dict_get (F.args_dict_get_2 _ _) (S := fun A' R s' => A' = A ∧ s' = s ∧ R (.ok (.ret ((lkE xs k).getD .none))) { s with toks := s.toks + k.draws }) (fun A' R s' hS => ?_) ⟨rfl, rfl, q⟩
  obtain ⟨rfl, rfl, hq⟩ := hS
  show wpAny _ _ (dictGet d v >>= _) _ _ _
  refine wpAny_bind (get_key (by show A'.units + 1 + 8 < _; omega) hk hm ?_)
  cases hf : lkE xs k with
  | some p => rw [hf] at hq; exact wpAny_pure hq
  | none =>
    rw [hf] at hq
    show wpAny _ _ (Builtin.Dict.missed d v >>= _) _ _ _
    exact wpAny_bind (wpAny_missed_other hd (wpAny_pure hq))
theorem get_raw2 {Q : Value → Shared → Prop} (hu : A.units + 9 < cLine) (hk : IsK s.heap k v) (hd : (d == sysModules) = false) (hm : GDict w s.heap d xs) (q : Q ((lkE xs k).getD u) { s with toks := s.toks + k.draws }) : wpAny (model P w) A (call (.builtin "dict.get") [.ref d, v, u]) Q E s := by
  refine call_meetsIn F.slot_dict_get hm.ty F.entry_dict_get (F.args_dict_get_3 _ _ _) (S := fun A' R s' => A' = A ∧ s' = s ∧ R (.ok (.ret ((lkE xs k).getD u))) { s with toks := s.toks + k.draws }) (fun A' R s' hS => ?_) ⟨rfl, rfl, q⟩
  obtain ⟨rfl, rfl, hq⟩ := hS
  show wpAny _ _ (dictGet d v >>= _) _ _ _
  refine wpAny_bind (get_key (by show A'.units + 1 + 8 < _; omega) hk hm ?_)
  cases hf : lkE xs k with
  | some p => rw [hf] at hq; exact wpAny_pure hq
  | none =>
    rw [hf] at hq
    show wpAny _ _ (Builtin.Dict.missed d v >>= _) _ _ _
    exact wpAny_bind (wpAny_missed_other hd (wpAny_pure hq))
end
theorem lk_rel {K : KW} {k : NestedKey} {H : Hp} {c : Anc} {es : List (NestedKey × V × V)} {xs : List Ent} {kvs : List (PyData × D)} (p : Paired EntV es xs) (r : DctR K H c es kvs) {v0 : V} {u0 : Value} {d0 : D} (r0 : RelV v0 u0) (h0 : VD K H c v0 d0) : ∃ v, RelV v ((lkE xs k).getD u0) ∧ VD K H c v ((lkD kvs k).getD d0) := by
  cases e : lkD kvs k with
  | none => rw [lk_none p r.key e]; exact ⟨v0, r0, h0⟩
  | some d =>
    obtain ⟨v, u, h1, h2, h3⟩ := lk_some p r.key r.vd e
    rw [h1]
    exact ⟨v, h2, h3⟩
def getD1 : D → List D → Store → OD
  | d, [y], m => match dctOf d m, keyK y with
    | some kvs, some k => some ((lkD kvs k).getD (.p .none), m)
    | _, _ => none
  | d, [y, z], m => match dctOf d m, keyK y with
    | some kvs, some k => some ((lkD kvs k).getD z, m)
    | _, _ => none
  | _, _, _ => none
def clearD : D → List D → Store → OD
  | .cell i, [], m => match m.at_ i with
    | some (.dct kvs) => if kvs.length ≤ sizeLine then some (.p .none, m.set (.dct []) i) else none
    | _ => none
  | _, _, _ => none
section
variable {X : Cx} {W : WX} {a b e o : Expr} {es rest : List Expr} {fa fb f fo : FE} {fl : FI} {pos apos cpos : Pos} {c : Anc} {ρ : Rho} {m : Store} {σ : St} {H : Hp} {name : Str}
theorem dlen {K : KW} {es : List (NestedKey × V × V)} {kvs : List (PyData × D)} (r : DctR K H c es kvs) : es.length = kvs.length := by
  have := congrArg List.length r.key
  simpa using this
theorem mt_getD (hu : X.A.units + 65 < cLine) : MtR X "dict.get" (rOfM X.kw getD1) := by
  intro pins s σ H x xs v us Q I rx rs h
  obtain ⟨c, m, dx, ds, r, h1, h2, w⟩ := h
  unfold getD1 at w
  split at w
  · rename_i y
    split at w
    · rename_i kvs k hd hk
      obtain ⟨a, en, rfl, g1, g2⟩ := dctOf_ok r h1 hd
      cases rx
      obtain ⟨hS, ys, hg, hp⟩ := gd_at I g1 g2
      obtain ⟨vy, rfl, hy⟩ := VDs.onlyOne h2
      obtain ⟨uy, rfl, ry⟩ := vals1 rs
      obtain ⟨v', r1, r2⟩ := lk_rel (k := k) hp g2 (v0 := .non) (u0 := .none) (d0 := .p .none) rfl (VD.non.mpr rfl)
      exact get_raw1 (by omega) (keyK_is I hy hk ry) hS hg ⟨v', H, I.tok _, r1, w.now r r2⟩
    · exact w.elim
  · rename_i y z
    split at w
    · rename_i kvs k hd hk
      obtain ⟨a, en, rfl, g1, g2⟩ := dctOf_ok r h1 hd
      cases rx
      obtain ⟨hS, ys, hg, hp⟩ := gd_at I g1 g2
      obtain ⟨vy, vz, rfl, hy, hz⟩ := VDs.two h2
      obtain ⟨uy, uz, rfl, ry, rz⟩ := vals2 rs
      obtain ⟨v', r1, r2⟩ := lk_rel (k := k) hp g2 rz hz
      exact get_raw2 (by omega) (keyK_is I hy hk ry) hS hg ⟨v', H, I.tok _, r1, w.now r r2⟩
    · exact w.elim
  · exact w.elim
theorem mt_clearD : MtR X "dict.clear" (rOfM X.kw clearD) := by
  intro pins s σ H x xs v us Q I rx rs h
  obtain ⟨c, m, dx, ds, r, h1, h2, w⟩ := h
  unfold clearD at w
  split at w
  · rename_i i
    split at w
    · rename_i kvs hm
      split at w
      · rename_i hz
        unfold VD at h1
        obtain ⟨a, ha, rfl⟩ := h1
        cases rx
        simp [VDs] at h2
        subst h2
        cases rs
        obtain ⟨en, g1, g2⟩ := r.at_ i a _ ha hm
        obtain ⟨hS, ys, hg, hp⟩ := gd_at I (.inl g1) g2.warm
        obtain ⟨ens, ep, y1, y2, y3⟩ := hg.raw
        have l1 := dlen g2
        have l2 : en.length = ys.length := Paired.length hp
        refine call_meetsIn F.slot_dict_clear hg.ty F.entry_dict_clear (F.args_dict_clear_1 _) (meets_dict_clear_raw a) ⟨ens, ep, y1, by omega, fun h' z1 z2 => ?_⟩
        obtain ⟨o', q1, q2, q3⟩ := z1
        have gd : GDict X.w h' a [] := ⟨o', #[], ep + 1, q1, q2, q3, rfl, fun x hx => (by cases hx), List.nodup_nil⟩
        refine ⟨.non, upd H a (gdO X.w a []), I.write (t' := s.toks) (x := a) (e := a) (o := gdO X.w a []) (by rw [g1]; exact True.intro) (.inl rfl) (fun b u hb e => (z2.2 b hb).trans e) ⟨o', q1⟩ (gd_ok hS gd .nil), rfl, ?_⟩
        exact w c _ _ (r.putC ha hm (by intro z; cases z) g1 rfl ⟨[], upd_same, rfl, fun e he => (by cases he), List.nodup_nil, .nil, by simp [VDs]⟩) (VD.non.mpr rfl)
      · exact w.elim
    · exact w.elim
  · exact w.elim
/-- a dict's own methods -/
def dmE (g : D → List D → Store → OD) (fo : FE) (fl : FI) : FE := fun ρ m => (fo ρ m).bind fun d m1 => if (dctOf d m1).isSome then (fl ρ m1).bind fun ds m2 => lift (g d ds m2) else .stuck
theorem dct_ty {pins : List (Addr × Obj)} {s : Shared} {d : D} {v : V} {u : Value} (I : Inv X pins σ H s) (r : RelS X.kw c m H) (hv : VD X.kw H c v d) (e : (dctOf d m).isSome = true) (ru : RelV v u) : s.TypeIs u "dict" ∧ ∀ a, u = .ref a → ∃ ob, s.heap.get? a = some ob ∧ ob.dict = none := by
  obtain ⟨kvs, q⟩ := Option.isSome_iff_exists.mp e
  obtain ⟨a, en, rfl, g1, g2⟩ := dctOf_ok r hv q
  cases ru
  obtain ⟨hS, ys, hg, hp⟩ := gd_at I g1 g2
  refine ⟨hg.ty, fun b z => ?_⟩
  cases z
  obtain ⟨o, _, _, h1, h2, _⟩ := hg
  exact ⟨o, h1, h2.2.1⟩
theorem de_dm {id : String} {g : D → List D → Store → OD} (slot : Slot "dict" name id) (hty : typeOf (.builtin id) = pure (.type "method_descriptor")) (hm : MtR X id (rOfM X.kw g)) (ho : DE X W o fo) (ha : DA X W (e :: es) fl)
    (hbase : attributeBase o name X.env (eval o X.env) = eval o X.env := by rfl)
    (hfew : ((backTo cpos (starEach (e :: es) X.env)).all (fun x => !x.1) && (backToKw cpos (keywordEach [] X.env)).all (fun x => x.1.isSome)
      && decide ((e :: es).length + ([] : List Keyword).length + (if ([] : List Keyword).isEmpty then 0 else 1) < 30)) = true := by rfl)
    (hline : (apos.endLine == cpos.line) = true := by rfl) (hs : starEach (e :: es) X.env = (false, eval e X.env) :: starEach es X.env := by rfl) (hplain : (backTo cpos (starEach es X.env)).any (·.1) = false := by rfl) :
    DE X W (.Call (.Attribute o name apos) (e :: es) [] cpos) (dmE g fo fl) := fun c ρ m σ H Q r s w => .mk fun pins st I => by
  refine wpAny_Call_method_late hbase hfew hline rfl (thn ((ho.thenE (Q := fun v H1 => ∃ c1 m1 d, RelS X.kw c1 m1 H1 ∧ VD X.kw H1 c1 v d ∧ (dctOf d m1).isSome = true ∧ WA X (e :: es) σ H1 fun vs H2 => rOfM X.kw g v vs H2 Q) r s w (fun d m1 c1 v H1 r1 s1 g1 h1 w1 => ?_)).go pins st I) ?_)
  · cases q : (dctOf d m1).isSome with
    | false => rw [q] at w1; exact w1.elim
    | true =>
      rw [q] at w1
      exact ⟨c1, m1, d, r1, h1, q, ha.thenE r1 s1 w1 fun ds m2 c2 vs H2 r2 s2 g2 h2 w2 => ⟨c2, m2, d, ds, r2, g2.vd h1, h2, w2.o⟩⟩
  · rintro v s1 ⟨x, H1, I1, r1, c1, m1, d, k1, k2, k3, q1⟩
    obtain ⟨t1, t2⟩ := dct_ty I1 k1 k2 k3 r1
    refine ⟨"dict", id, F.plainAttrs_dict, slot, hty, t1, t2, ?_⟩
    have hA := q1.go cpos pins s1 I1
    rw [hs] at hA ⊢
    refine Calls.callWith_builtin (by show (false || (backTo cpos (starEach es X.env)).any (·.1)) = false; rw [hplain] <;> rfl) (Calls.evalArgs_plain (thn hA ?_))
    rintro us s2 ⟨vs, H2, I2, r2, q2⟩
    exact hm pins s2 σ H2 x vs v us Q I2 r1 r2 q2
theorem de_dm0 {id : String} {g : D → List D → Store → OD} (slot : Slot "dict" name id) (hty : typeOf (.builtin id) = pure (.type "method_descriptor")) (hm : MtR X id (rOfM X.kw g)) (ho : DE X W o fo)
    (hbase : attributeBase o name X.env (eval o X.env) = eval o X.env := by rfl) (hline : (apos.endLine == cpos.line) = true := by rfl) : DE X W (.Call (.Attribute o name apos) [] [] cpos) (dmE g fo nilA) := fun c ρ m σ H Q r s w => .mk fun pins st I => by
  refine wpAny_Call_method0_late hbase hline (thn ((ho.thenE (Q := fun v H1 => ∃ c1 m1 d, RelS X.kw c1 m1 H1 ∧ VD X.kw H1 c1 v d ∧ (dctOf d m1).isSome = true ∧ rOfM X.kw g v [] H1 Q) r s w (fun d m1 c1 v H1 r1 s1 g1 h1 w1 => ?_)).go pins st I) ?_)
  · cases q : (dctOf d m1).isSome with
    | false => rw [q] at w1; exact w1.elim
    | true =>
      rw [q] at w1
      exact ⟨c1, m1, d, r1, h1, q, c1, m1, d, [], r1, h1, (by unfold VDs; rfl), Want.o w1⟩
  · rintro v s1 ⟨x, H1, I1, r1, c1, m1, d, k1, k2, k3, q1⟩
    obtain ⟨t1, t2⟩ := dct_ty I1 k1 k2 k3 r1
    exact ⟨"dict", id, F.plainAttrs_dict, slot, hty, t1, t2, Calls.callWith_builtin rfl (PySem.evalArgs_none (hm pins s1 σ H1 x [] v [] Q I1 r1 .nil q1))⟩
/-! ### truth -/
def truG (d : D) (m : Store) : Option Bool := match truD d m with
  | some b => some b
  | none => match dctOf d m with
    | some kvs => if kvs.length ≤ sizeLine then some (!kvs.isEmpty) else none
    | none => none
theorem truG_ok {pins : List (Addr × Obj)} {s : Shared} {d : D} {v : V} {u : Value} {k : Bool} {A : Around} {E : Value → Shared → Prop} {Q : Bool → Shared → Prop} (I : Inv X pins σ H s) (r : RelS X.kw c m H) (hv : VD X.kw H c v d) (e : truG d m = some k) (ru : RelV v u)
    (q : ∀ s', Inv X pins σ H s' → Q k s') : wpAny (model X.prog X.w) X.A (truthy u) Q X.xe s := by
  unfold truG at e
  cases e1 : truD d m with
  | some b =>
    rw [e1] at e
    cases e
    refine thn (tru_ok pins s σ H v u (fun c H2 => c = k ∧ H2 = H) I ru ⟨k, truD_ok r hv e1, rfl, rfl⟩) ?_
    rintro c2 s2 ⟨H2, I2, rfl, rfl⟩
    exact q s2 I2
  | none =>
    rw [e1] at e
    cases e2 : dctOf d m with
    | none => rw [e2] at e; cases e
    | some kvs =>
      rw [e2] at e
      dsimp only at e
      split at e
      · rename_i hz
        cases e
        obtain ⟨a, en, rfl, g1, g2⟩ := dctOf_ok r hv e2
        cases ru
        obtain ⟨hS, ys, hg, hp⟩ := gd_at I g1 g2
        obtain ⟨ens, ep, y1, y2, y3⟩ := hg.raw
        have l1 := dlen g2
        have l2 : en.length = ys.length := Paired.length hp
        have ez : ((ens.size : Int) != 0) = !kvs.isEmpty := by
          have : ens.size = kvs.length := by omega
          rw [this]
          cases kvs <;> simp <;> omega
        refine truthy_raw hS y1 (by rw [sizeLine_eq] at hz; omega) fun tk => ?_
        rw [ez]
        exact q _ (I.tok tk)
      · cases e
def tvE (f : FE) : Rho → Store → Res Bool := fun ρ m => (f ρ m).bind fun d m1 => match truG d m1 with
  | some k => .ok k m1
  | none => .stuck
theorem dt_tv (h : DE X W e f) (he : ∀ whole, isTrue e X.env whole = (do let v ← whole; standAt e.pos; holding [v] (truthy v)) := by intro _; rfl) : DT X W e (tvE f) := fun c ρ m σ H Q r s w => .mk fun pins st I => by
  refine isTrue_plain (thn ((h.thenB (Q := fun v H1 => ∃ c1 m1 d k, RelS X.kw c1 m1 H1 ∧ VD X.kw H1 c1 v d ∧ truG d m1 = some k ∧ Q k H1) r s w (fun d m1 c1 v H1 r1 s1 g1 h1 w1 => ?_)).go pins st I) ?_) (he _)
  · cases q : truG d m1 with
    | none => rw [q] at w1; exact w1.elim
    | some k => rw [q] at w1; exact ⟨c1, m1, d, k, r1, h1, q, w1 c1 H1 (Gd.refl r1)⟩
  · rintro v s1 ⟨x, H1, I1, r1, c1, m1, d, k, k1, k2, k3, q1⟩
    exact truG_ok (A := X.A) (E := X.xe) I1 k1 k2 k3 r1 fun s' I' => ⟨H1, I', q1⟩
def orG (f g : FE) : FE := fun ρ m => (f ρ m).bind fun x m1 => match truG x m1 with
  | some true => .ok x m1
  | some false => g ρ m1
  | none => .stuck
def andG (f g : FE) : FE := fun ρ m => (f ρ m).bind fun x m1 => match truG x m1 with
  | some true => g ρ m1
  | some false => .ok x m1
  | none => .stuck
theorem de_orG (h : DE X W a fa) (h2 : DE X W (.BoolOp .Or (b :: rest) pos) fb) : DE X W (.BoolOp .Or (a :: b :: rest) pos) (orG fa fb) := fun c ρ m σ H Q r s w => .mk fun pins st I => by
  refine BoolOp_or (thn ((h.thenE (Q := fun v H1 => ∃ c1 m1 d k, RelS X.kw c1 m1 H1 ∧ VD X.kw H1 c1 v d ∧ truG d m1 = some k ∧ if k = true then Q v H1 else WE X (.BoolOp .Or (b :: rest) pos) σ H1 Q) r s w (fun d m1 c1 v H1 r1 s1 g1 h1 w1 => ?_)).go pins st I) ?_)
  · cases q : truG d m1 with
    | none => rw [q] at w1; exact w1.elim
    | some k =>
      rw [q] at w1
      refine ⟨c1, m1, d, k, r1, h1, q, ?_⟩
      cases k with
      | true => rw [if_pos rfl]; exact w1.now r1 h1
      | false => rw [if_neg Bool.false_ne_true]; exact h2 c1 ρ m1 σ H1 Q r1 s1 w1
  · rintro v s1 ⟨x, H1, I1, r1, c1, m1, d, k, k1, k2, k3, q1⟩
    refine truG_ok (A := X.A) (E := X.xe) I1 k1 k2 k3 r1 fun s' I' => ?_
    cases k with
    | true => rw [if_pos rfl] at q1; exact ⟨x, H1, I', r1, q1⟩
    | false => rw [if_neg Bool.false_ne_true] at q1; exact q1.go pins s' I'
theorem de_andG (h : DE X W a fa) (h2 : DE X W (.BoolOp .And (b :: rest) pos) fb) : DE X W (.BoolOp .And (a :: b :: rest) pos) (andG fa fb) := fun c ρ m σ H Q r s w => .mk fun pins st I => by
  refine BoolOp_and (thn ((h.thenE (Q := fun v H1 => ∃ c1 m1 d k, RelS X.kw c1 m1 H1 ∧ VD X.kw H1 c1 v d ∧ truG d m1 = some k ∧ if k = true then WE X (.BoolOp .And (b :: rest) pos) σ H1 Q else Q v H1) r s w (fun d m1 c1 v H1 r1 s1 g1 h1 w1 => ?_)).go pins st I) ?_)
  · cases q : truG d m1 with
    | none => rw [q] at w1; exact w1.elim
    | some k =>
      rw [q] at w1
      refine ⟨c1, m1, d, k, r1, h1, q, ?_⟩
      cases k with
      | true => rw [if_pos rfl]; exact h2 c1 ρ m1 σ H1 Q r1 s1 w1
      | false => rw [if_neg Bool.false_ne_true]; exact w1.now r1 h1
  · rintro v s1 ⟨x, H1, I1, r1, c1, m1, d, k, k1, k2, k3, q1⟩
    refine truG_ok (A := X.A) (E := X.xe) I1 k1 k2 k3 r1 fun s' I' => ?_
    cases k with
    | true => rw [if_pos rfl] at q1; exact q1.go pins s' I'
    | false => rw [if_neg Bool.false_ne_true] at q1; exact ⟨x, H1, I', r1, q1⟩
end
end L2.Dn
namespace L2.Dn
open PySem PySem.Spec PyProof.Rows L2
/-! ### dict(d) -/
mutual
/-- the hash of a key without texts -/
def hI : NestedKey → Option Int
  | .none => some (reduceHash 0xFCA86420)
  | .num i => some (hashInt i)
  | .text _ => none
  | .tup ks => (hIs ks).map fun hs => reduceHash (Builtin.Tuple.tupleHashOf hs)
def hIs : List NestedKey → Option (List Int)
  | [] => some []
  | k :: ks => match hI k, hIs ks with
    | some h, some hs => some (h :: hs)
    | _, _ => none
end
mutual
theorem hI_ok (w : World) : ∀ (k : NestedKey) (h : Int), hI k = some h → k.hash w = h
  | .none, h, e => by cases e; rfl
  | .num i, h, e => by cases e; rfl
  | .text x, h, e => by simp [hI] at e
  | .tup ks, h, e => by
    simp only [hI, Option.map_eq_some_iff] at e
    obtain ⟨hs, e1, rfl⟩ := e
    simp only [NestedKey.hash]
    rw [hIs_ok w ks hs e1]
theorem hIs_ok (w : World) : ∀ (ks : List NestedKey) (hs : List Int), hIs ks = some hs → NestedKey.hashes w ks = hs
  | [], hs, e => by cases e; rfl
  | k :: ks, hs, e => by
    unfold hIs at e
    split at e
    · rename_i h hs' e1 e2
      cases e
      simp only [NestedKey.hashes]
      rw [hI_ok w k h e1, hIs_ok w ks hs' e2]
    · cases e
end
def isTupK : NestedKey → Bool
  | .tup _ => true
  | _ => false
/-- no two keys of one hash, where tuples are among them -/
def apartK (ks : List NestedKey) : Bool := !ks.any isTupK || (match hIs ks with
  | some hs => decide hs.Nodup
  | none => false)
theorem hashes_map (w : World) : ∀ ks : List NestedKey, NestedKey.hashes w ks = ks.map (NestedKey.hash w)
  | [] => rfl
  | k :: ks => by simp only [NestedKey.hashes, List.map_cons, hashes_map w ks]
section
variable {P : Program} {w : World} {A : Around} {E : Value → Shared → Prop} {s : Shared} {d o : Addr} {xs : List Ent}
theorem apart_ok (hm : GDict w s.heap o xs) {ens : Array DictEntry} (he : ens.toList = xs.map (entOf w)) (ha : apartK (xs.map (·.1)) = true) : ∀ e ∈ ens.toList, KeyApart s ens e := by
  obtain ⟨_, _, _, _, _, _, _, his, _⟩ := hm
  intro e hee
  rw [he] at hee
  obtain ⟨x, hx, rfl⟩ := List.mem_map.mp hee
  obtain ⟨h1, _⟩ := his x hx
  obtain ⟨k, v, u⟩ := x
  cases h1 with
  | none => exact .inl rfl
  | bool _ => exact .inl rfl
  | int _ _ => exact .inl rfl
  | text _ _ => exact .inl rfl
  | @tup a ob vs n ks q1 q2 q3 q4 =>
    refine .inr ⟨a, rfl, ⟨ob, q1, q2⟩, ?_⟩
    have hany : (xs.map (·.1)).any isTupK = true := List.any_eq_true.mpr ⟨.tup ks, List.mem_map.mpr ⟨_, hx, rfl⟩, rfl⟩
    unfold apartK at ha
    rw [hany] at ha
    simp only [Bool.not_true, Bool.false_or] at ha
    split at ha
    · rename_i hs eh
      have nd : hs.Nodup := of_decide_eq_true ha
      rw [← hIs_ok w _ _ eh, hashes_map, List.map_map] at nd
      have l := filter_le_one (fun x : Ent => (entOf w x).hash) (NestedKey.hash w (.tup ks)) xs nd
      have e2 : (ens.filter (·.hash == (entOf w ((NestedKey.tup ks, Value.ref a, u) : Ent)).hash)).toList.length = (xs.filter fun x => (entOf w x).hash == NestedKey.hash w (.tup ks)).length := by
        rw [Array.toList_filter, he, List.filter_map, List.length_map]
        rfl
      rw [Array.length_toList] at e2
      rw [e2]
      exact l
    · cases ha
theorem putE_new {k : NestedKey} {v u : Value} {ys : List Ent} (h : k ∉ ys.map (·.1)) : putE ys k v u = ys ++ [(k, v, u)] := if_neg h
theorem take_app {α : Type} {l : List α} {i : Nat} {x : α} (h : l[i]? = some x) : l.take i ++ [x] = l.take (i + 1) := by
  rw [List.take_add_one, h]
  rfl
theorem GDict.same {h h' : Heap} (hm : GDict w h o xs) {oo : Obj} {es : Array DictEntry} {ep : Nat} (h1 : h.get? d = some oo) (h2 : oo.data = .dict es ep) (hne : d ≠ o) (hs : Heap.SameBut d h h') : GDict w h' o xs := by
  obtain ⟨ob, en, e, g1, g2, g3, g4, g5, g6⟩ := hm
  exact ⟨ob, en, e, (hs.2 o (Ne.symm hne)).trans g1, g2, g3, g4, fun x hx => isK_but (g5 x hx) h1 h2 hs, g6⟩
theorem mergeG {nm : String} {Q : Unit → Shared → Prop} (hu : A.units + 8 < cLine) (hdo : d ≠ o) (hoS : (o == sysModules) = false) (hd : GDict w s.heap d []) (ho : GDict w s.heap o xs) (ha : apartK (xs.map (·.1)) = true) (hz : xs.length ≤ sizeLine)
    (hQ : ∀ h', GDict w h' d xs → Heap.SameBut d s.heap h' → Q () { s with heap := h' }) : wpAny (model P w) A (Builtin.Dict.mergeDict nm d o) Q E s := by
  obtain ⟨od, esd, epd, d1, d2, d3, d4, d5, d6⟩ := id hd
  obtain ⟨oo, eso, epo, o1, o2, o3, o4, o5, o6⟩ := id ho
  have hlen : eso.size = xs.length := by rw [← Array.length_toList, o4, List.length_map]
  unfold Builtin.Dict.mergeDict
  rw [if_neg (by simpa using hdo)]
  unfold Builtin.Dict.showsAll
  rw [if_neg (by rw [hoS]; exact Bool.false_ne_true)]
  refine wpAny_bind (wpAny_pure (wpAny_bind (wpAny_dictEntries o1 o3 ?_)))
  have ze : esd = #[] := by
    have : esd.toList = [] := d4
    exact Array.toList_eq_nil_iff.mp this
  have loop : wpAny (model P w) A (do
      let epoch ← dictEpoch o
      let l ← dictEntries o
      forIn [:l.size] PUnit.unit fun i (_ : PUnit) => (do
          let l' ← dictEntries o
          match l'[i]? with
            | some e => do
              holding [e.key, e.val] (dictSetHashed d e.key e.hash e.val)
              let ep' ← dictEpoch o
              if (ep' != epoch) = true then do
                  (unsupported (toString nm ++ toString ":source-changed-during-callback") : Sem PUnit)
                  pure (ForInStep.yield PUnit.unit)
                else pure (ForInStep.yield PUnit.unit)
            | _ => do
              (unsupported "internal:dict-merge" : Sem PUnit)
              pure (ForInStep.yield PUnit.unit) : Sem (ForInStep PUnit))
      pure ()) Q E s := by
    refine wpAny_bind (wpAny_dictEpoch o1 o3 (wpAny_bind (wpAny_dictEntries o1 o3 (wpAny_bind ?_))))
    rw [Std.Legacy.Range.forIn_eq_forIn_range']
    simp only [Std.Legacy.Range.size, Nat.sub_zero, Nat.add_sub_cancel, Nat.div_one]
    refine wpAny_forIn_list _ (fun rest _ s' => ∃ h' i, s' = { s with heap := h' } ∧ rest = List.range' i (xs.length - i) ∧ i ≤ xs.length ∧ GDict w h' d (xs.take i) ∧ GDict w h' o xs ∧ h'.get? o = some oo ∧ Heap.SameBut d s.heap h')
      _ ?_ ?_ _ _ ⟨s.heap, 0, rfl, by rw [hlen, Nat.sub_zero], Nat.zero_le _, hd, ho, o1, Heap.SameBut.refl _ _⟩
    · rintro x rest b s' ⟨h', i, rfl, hr, hi, hd', ho', o1', hs'⟩
      have hlt : i < xs.length := by
        rcases Nat.lt_or_ge i xs.length with z | z
        · exact z
        · rw [Nat.sub_eq_zero_of_le z] at hr; cases hr
      have e1 : xs.length - i = (xs.length - (i + 1)) + 1 := by omega
      rw [e1, List.range'_succ] at hr
      injection hr with hx hrest
      subst hx
      have ex : xs[x]? = some xs[x] := List.getElem?_eq_getElem hlt
      refine wpAny_bind (wpAny_dictEntries o1' o3 ?_)
      have en : eso[x]? = some (entOf w xs[x]) := by
        rw [← Array.getElem?_toList, o4, List.getElem?_map, ex]
        rfl
      rw [en]
      show wpAny _ _ (holding [xs[x].2.1, xs[x].2.2] (dictSetHashed d xs[x].2.1 (xs[x].1.hash w) xs[x].2.2) >>= _) _ _ _
      have hk : IsK h' xs[x].1 xs[x].2.1 := by
        obtain ⟨_, _, _, _, _, _, _, z, _⟩ := ho'
        exact z _ (List.getElem_mem hlt)
      have hn : xs[x].1 ∉ (xs.take x).map (·.1) := fun hm => by
        have nd := o6
        rw [← List.take_append_drop x xs, List.map_append, List.nodup_append] at nd
        refine nd.2.2 _ hm xs[x].1 ?_ rfl
        rw [List.drop_eq_getElem_cons hlt]
        exact List.mem_cons_self
      obtain ⟨od', esd', epd', t1, _, t3, _⟩ := id hd'
      refine wpAny_bind (wpAny_holding (seth_key (s := { s with heap := h' }) hu hk hd' (by rw [List.length_take]; omega) fun h2 g2 s2 => ?_))
      have o1'' : h2.get? o = some oo := (s2.2 o (Ne.symm hdo)).trans o1'
      refine wpAny_bind (wpAny_dictEpoch o1'' o3 ?_)
      rw [if_neg (by simp)]
      refine wpAny_pure ⟨h2, x + 1, rfl, hrest, hlt, ?_, ho'.same t1 t3 hdo s2, o1'', hs'.trans s2⟩
      rw [putE_new hn] at g2
      rw [← take_app ex]
      exact g2
    · rintro b s' ⟨h', i, rfl, hr, hi, hd', ho', o1', hs'⟩
      have hin : i = xs.length := by
        rcases Nat.lt_or_ge i xs.length with z | z
        · have e1 : xs.length - i = (xs.length - (i + 1)) + 1 := by omega
          rw [e1, List.range'_succ] at hr
          cases hr
        · omega
      rw [hin, List.take_length] at hd'
      exact wpAny_pure (hQ h' hd' hs')
  dsimp only
  split
  · refine wpAny_bind (wpAny_dictEntries d1 d3 ?_)
    rw [ze]
    rw [if_pos (show (#[] : Array DictEntry).isEmpty = true from rfl)]
    refine wpAny_bind (wpAny_entriesForEmpty_raw o1 o3 (apart_ok ho o4 ha) ?_)
    split
    · refine wpAny_bind (wpAny_updateDictKeysTo d1 d3 (wpAny_pure (hQ _ ⟨_, _, epd + 1, Heap.get?_update_self _ d1 (Obj.isFreed_of_dict (Obj.data_mapDictKeys d3 _)), d2.mapDictKeys _, Obj.data_mapDictKeys d3 _, o4, fun x hx => isK_but (o5 x hx) d1 d3 (Heap.SameBut.update ..), o6⟩ (Heap.SameBut.update ..))) (by omega))
    · rename_i hne
      have z0 : eso = #[] := Array.isEmpty_iff.mp (by simpa using hne)
      have x0 : xs = [] := List.length_eq_zero_iff.mp (by rw [← hlen, z0]; rfl)
      subst x0
      exact wpAny_pure (hQ _ hd (Heap.SameBut.refl _ _))
  · exact loop
theorem dict_of {Q : Value → Shared → Prop} (hu : A.units + 10 < cLine) (hb : sysModules < s.heap.objs.size) (hoS : (o == sysModules) = false) (ho : GDict w s.heap o xs) (ha : apartK (xs.map (·.1)) = true) (hz : xs.length ≤ sizeLine)
    (h : ∀ h', GDict w h' s.heap.objs.size xs → (∀ b ob, s.heap.get? b = some ob → h'.get? b = some ob) → Q (.ref s.heap.objs.size) { s with heap := h' }) : wpAny (model P w) A (call (.type "dict") [.ref o]) Q E s := by
  refine callType_codes (Q₁ := fun obj s₁ => obj = .ref s.heap.objs.size ∧ s₁ = { s with heap := s.heap.push ⟨.type "dict", none, .dict #[] 0, #[]⟩ }) F.kt_called_dict (F.kt_typeCall_dict_1 _) F.entry_dict_init (kt_code_dict_new _ ⟨rfl, rfl⟩) ?_
  rintro obj s₁ ⟨rfl, rfl⟩
  have hlt : o < s.heap.objs.size := by
    obtain ⟨_, _, _, e, _⟩ := ho
    exact Heap.lt_size e
  have hnew : GDict w (s.heap.push ⟨.type "dict", none, .dict #[] 0, #[]⟩) s.heap.objs.size [] := ⟨_, #[], 0, Heap.get?_push_size _ rfl, ⟨rfl, rfl, rfl⟩, rfl, rfl, fun x hx => (by cases hx), List.nodup_nil⟩
  have ho' : GDict w (s.heap.push ⟨.type "dict", none, .dict #[] 0, #[]⟩) o xs := by
    obtain ⟨ob, en, e, g1, g2, g3, g4, g5, g6⟩ := ho
    exact ⟨ob, en, e, Heap.get?_push_of_some _ g1, g2, g3, g4, fun x hx => ⟨NestedIs.at (fun c ob vs n hb hc => Heap.get?_push_of_some _ hb) _ _ (g5 x hx).1, (g5 x hx).2⟩, g6⟩
  have ty1 : (⟨s.heap.push ⟨.type "dict", none, .dict #[] 0, #[]⟩, s.gens, s.drawn, s.toks, s.os⟩ : Shared).TypeIs (.ref s.heap.objs.size) "dict" := GDict.ty (s := ⟨s.heap.push ⟨.type "dict", none, .dict #[] 0, #[]⟩, s.gens, s.drawn, s.toks, s.os⟩) hnew
  have ty2 : (⟨s.heap.push ⟨.type "dict", none, .dict #[] 0, #[]⟩, s.gens, s.drawn, s.toks, s.os⟩ : Shared).TypeIs (.ref o) "dict" := GDict.ty (s := ⟨s.heap.push ⟨.type "dict", none, .dict #[] 0, #[]⟩, s.gens, s.drawn, s.toks, s.os⟩) ho'
  refine ⟨ty1, F.args_dict_init_2 _ _, ?_⟩
  unfold Builtin.«dict.__init__»
  refine wpAny_bind ?_
  unfold Builtin.Dict.selfAndRest
  refine wpAny_bind (wpAny_notOrdered_dict ty1 ?_)
  show wpAny _ _ (pure (s.heap.objs.size, [Value.ref o])) _ _ _
  refine wpAny_pure ?_
  show wpAny _ _ (Builtin.Dict.updateFrom "dict.__init__" s.heap.objs.size (.ref o) [] .none) _ _ _
  unfold Builtin.Dict.updateFrom
  refine wpAny_bind (wpAny_typeOf ty2 ?_)
  rw [if_neg (by decide)]
  refine wpAny_bind ?_
  unfold Builtin.Dict.merge
  refine wpAny_bind ?_
  unfold Builtin.Dict.readDirectly
  refine wpAny_bind (wpAny_isInstance ty2 isSubtype_dict_dict ?_)
  simp only [Bool.not_true, Bool.false_eq_true, if_false]
  refine wpAny_bind (wpAny_specialOf ty2 F.slot_dict_iter.lookup (wpAny_pure ?_))
  simp only [beq_self_eq_true, if_true]
  refine wpAny_bind (wpAny_pure ?_)
  refine mergeG (by show A.units + 1 + 1 + 8 < _; omega) (Nat.ne_of_gt hlt) hoS hnew ho' ha hz fun h' g' s' => ?_
  show wpAny _ _ (Builtin.Dict.addKeywords s.heap.objs.size [] >>= _) _ _ _
  exact wpAny_bind (wpAny_pure (wpAny_pure ⟨rfl, h h' g' fun b ob e => (s'.2 b (Nat.ne_of_lt (Heap.lt_size e))).trans (Heap.get?_push_of_some _ e)⟩))
end
/-! ### as data: dict(d), len(d), list(d), list(d.values()), xs * n -/
theorem pair_keys : ∀ {es : List (NestedKey × V × V)} {xs : List Ent}, Paired EntV es xs → xs.map (·.1) = es.map (·.1) := fun p => (ents_keys p).symm
def keysK (kvs : List (PyData × D)) : List NestedKey := kvs.filterMap fun q => nk q.1
theorem keysK_ok {K : KW} {H : Hp} {c : Anc} {es : List (NestedKey × V × V)} {kvs : List (PyData × D)} (r : DctR K H c es kvs) : keysK kvs = es.map (·.1) := by
  have := congrArg (List.filterMap id) r.key
  rw [List.filterMap_map, List.filterMap_map] at this
  unfold keysK
  have e1 : (es.filterMap (id ∘ fun e => some e.1)) = es.map (·.1) := by
    rw [← List.filterMap_eq_map]
    rfl
  rw [e1] at this
  exact this.symm
def newDO (z : Md) (kvs : List (PyData × D)) (m : Store) : OD := match newD z kvs m with
  | .ok d m' => some (d, m')
  | _ => none
theorem newDO_want {X : Cx} {c : Anc} {H : Hp} {σ : St} {z : Md} {kvs : List (PyData × D)} {m : Store} {Q : VK} (h : WantO X.kw c H (newDO z kvs m) Q) : Want X (fun _ _ _ _ => False) c H σ (newD z kvs m) Q := by
  unfold newDO at h
  cases q : newD z kvs m with
  | ok d m' => rw [q] at h; exact h
  | exc x m' => rw [q] at h; exact h.elim
  | stuck => rw [q] at h; exact h.elim
def dictD (z : Md) : List D → Store → OD
  | [d], m => match dctOf d m with
    | some kvs => if apartK (keysK kvs) = true ∧ kvs.length ≤ sizeLine then newDO z kvs m else none
    | none => none
  | _, _ => none
section
variable {X : Cx} {W : WX} {a b e o : Expr} {es rest : List Expr} {fa fb f fo : FE} {fl : FI} {pos apos cpos p : Pos} {c : Anc} {ρ : Rho} {m : Store} {σ : St} {H : Hp} {name : Str}
theorem call_dictD (z : Md) (hu : X.A.units + 65 < cLine) : CallR X (.type "dict") (rOfL X.kw (dictD z)) := by
  intro pins s σ H xs us Q I rv h
  obtain ⟨c, m, ds, r, hv, w⟩ := h
  unfold dictD at w
  split at w
  · rename_i d
    split at w
    · rename_i kvs hd
      split at w
      · rename_i hc
        obtain ⟨v, rfl, hv1⟩ := VDs.onlyOne hv
        obtain ⟨u, rfl, ru⟩ := vals1 rv
        obtain ⟨a, en, rfl, g1, g2⟩ := dctOf_ok r hv1 hd
        cases ru
        obtain ⟨hS, ys, hg, hp⟩ := gd_at I g1 g2
        have l1 := dlen g2
        have l2 : en.length = ys.length := Paired.length hp
        have ka : apartK (ys.map (·.1)) = true := by
          rw [pair_keys hp, ← keysK_ok g2]
          exact hc.1
        have hn : H s.heap.objs.size = none := I.hok.fresh (Nat.le_refl _)
        refine dict_of (by omega) I.big hS hg ka (by omega) fun h' g' k' => ?_
        have hm : (s.heap.objs.size == sysModules) = false := beq_eq_false_iff_ne.mpr (Nat.ne_of_gt I.big)
        refine EP.frz ⟨.ref s.heap.objs.size, upd H s.heap.objs.size (gdO X.w s.heap.objs.size en), I.laid (t' := s.toks) k' (Nat.le_refl _) (gd_ok hm g' hp), rfl, ?_⟩
        exact newD_ok (σ := σ) (W := fun _ _ _ _ => False) r hn g2 (newDO_want w)
      · exact w.elim
    · exact w.elim
  · exact w.elim
def lenG (ds : List D) (m : Store) : OD := match lenD ds m with
  | some r => some r
  | none => match ds with
    | [d] => match dctOf d m with
      | some kvs => if kvs.length ≤ sizeLine then some (.p (.int kvs.length), m) else none
      | none => none
    | _ => none
theorem call_lenG : CallR X (.builtin "len") (rOfL X.kw lenG) := by
  intro pins s σ H xs us Q I rv h
  obtain ⟨c, m, ds, r, hv, w⟩ := h
  unfold lenG at w
  cases e : lenD ds m with
  | some q => rw [e] at w; exact call_lenD pins s σ H xs us Q I rv ⟨c, m, ds, r, hv, by rw [e]; exact w⟩
  | none =>
    rw [e] at w
    dsimp only at w
    split at w
    · rename_i d
      split at w
      · rename_i kvs hd
        split at w
        · rename_i hz
          obtain ⟨v, rfl, hv1⟩ := VDs.onlyOne hv
          obtain ⟨u, rfl, ru⟩ := vals1 rv
          obtain ⟨a, en, rfl, g1, g2⟩ := dctOf_ok r hv1 hd
          cases ru
          obtain ⟨hS, ys, hg, hp⟩ := gd_at I g1 g2
          obtain ⟨ens, ep, y1, y2, y3⟩ := hg.raw
          have l1 := dlen g2
          have l2 : en.length = ys.length := Paired.length hp
          have el : ens.size = kvs.length := by omega
          refine len_raw hS y1 (by rw [sizeLine_eq] at hz; omega) fun t tk => ⟨.int kvs.length, H, I.tok tk, ⟨t, by rw [el]⟩, w.now r (VD.int.mpr rfl)⟩
        · exact w.elim
      · exact w.elim
    · exact w.elim
/-- list(d): its keys -/
def listG (z : Md) (ds : List D) (m : Store) : OD := match listD z ds m with
  | some r => some r
  | none => match ds with
    | [d] => match dctOf d m with
      | some kvs => if kvs.length ≤ sizeLine then newO z ((kvs.map (·.1)).map D.p) m else none
      | none => none
    | _ => none
theorem vals_of {w : World} {es : List (NestedKey × V × V)} {ens : Array DictEntry} {acc : Array Value} (f : NestedKey × V × V → V) (g : DictEntry → Value) (h : ∀ e x, EnR w e x → RelV (f e) (g x)) (p : Paired (EnR w) es ens.toList) (ha : ItemsOf (fun i v => ∃ hi : i < ens.size, v = g ens[i]) acc ens.size) : Vals (es.map f) acc.toList := by
  have ea : acc.toList = ens.toList.map g := by
    apply List.ext_getElem?
    intro i
    rw [List.getElem?_map, Array.getElem?_toList, Array.getElem?_toList]
    cases e : acc[i]? with
    | none =>
      have : acc.size ≤ i := Array.getElem?_eq_none_iff.mp e
      rw [Array.getElem?_eq_none (by rw [← ha.1]; exact this)]
      rfl
    | some v =>
      obtain ⟨hi, rfl⟩ := ha.2 i v e
      rw [Array.getElem?_eq_getElem hi]
      rfl
  rw [ea]
  clear ea ha
  generalize ens.toList = l at p
  induction p with
  | nil => exact .nil
  | cons hh r ih => exact .cons (h _ _ hh) ih
theorem rd_raw {pins : List (Addr × Obj)} {s : Shared} {d : Addr} {es : EsE} (I : Inv X pins σ H s) (h : Rd H d (gdO X.w d es)) :
    (d == sysModules) = false ∧ ∃ (ens : Array DictEntry) (ep : Nat), s.heap.DictRaw d ens ep ∧ ens.size = es.length ∧ Paired (EnR X.w) es ens.toList := by
  have z : ObjOk X.prog X.w H s.heap d (HO.ext _) := h.ok I.hok
  obtain ⟨o', ens, ep, h0, h1, h2, h3, h4⟩ := z.1
  have l : es.length = ens.toList.length := Paired.length h4
  exact ⟨h0, ens, ep, ⟨o', h1, h2, h3⟩, by simpa using l.symm, h4⟩
theorem call_listG (z : Md) (hc : X.calm = true) : CallR X (.type "list") (rOfL X.kw (listG z)) := by
  intro pins s σ H xs us Q I rv h
  obtain ⟨c, m, ds, r, hv, w⟩ := h
  unfold listG at w
  cases e : listD z ds m with
  | some q => rw [e] at w; exact Dn.call_listD z pins s σ H xs us Q I rv ⟨c, m, ds, r, hv, by rw [e]; exact w⟩
  | none =>
    rw [e] at w
    dsimp only at w
    split at w
    · rename_i d
      split at w
      · rename_i kvs hd
        split at w
        · rename_i hz
          obtain ⟨v, rfl, hv1⟩ := VDs.onlyOne hv
          obtain ⟨u, rfl, ru⟩ := vals1 rv
          obtain ⟨a, en, rfl, g1, g2⟩ := dctOf_ok r hv1 hd
          cases ru
          obtain ⟨hS, ens, ep, y1, y2, y3⟩ := rd_raw I g1
          have l1 := dlen g2
          have hn : H s.heap.objs.size = none := I.hok.fresh (Nat.le_refl _)
          refine PySem.W.kdl_call (KdlSrc.rawDict (ep := ep) (es := ens) hS) (I.ok.hd hc) y1 (by omega) fun h' tk acc c' hk hD hacc => ?_
          have hvl : Vals (en.map (·.2.1)) acc.toList := vals_of (·.2.1) (·.key) (fun _ _ z => z.2.1) y3 hacc
          refine EP.frz ⟨.ref s.heap.objs.size, upd H s.heap.objs.size (.lst (en.map (·.2.1))), I.laid (t' := tk) hk (Nat.le_refl _) ⟨by rw [List.length_map]; omega, acc.toList, c', hvl, by rw [Array.toArray_toList]; exact hD⟩, rfl, ?_⟩
          exact newO_ok r (VDs.ofp g2.kd) w _ hn
        · exact w.elim
      · exact w.elim
    · exact w.elim
/-- list(d.values()) -/
def lvE (z : Md) (f : FE) : FE := fun ρ m => (f ρ m).bind fun d m1 => match dctOf d m1 with
  | some kvs => if kvs.length ≤ sizeLine then lift (newO z (kvs.map (·.2)) m1) else .stuck
  | none => .stuck
theorem de_listVals (z : Md) {pl pc pa : Pos} (hg : Gl X "list") (hm : X.mg "list" = none) (hc : X.calm = true) (h : DE X W e f) (hbase : attributeBase e "values" X.env (eval e X.env) = eval e X.env := by rfl) (hline : (pa.endLine == pc.line) = true := by rfl)
    (hs : starEach [.Call (.Attribute e "values" pa) [] [] pc] X.env = [(false, eval (.Call (.Attribute e "values" pa) [] [] pc) X.env)] := by rfl) :
    DE X W (.Call (.Name "list" pl) [.Call (.Attribute e "values" pa) [] [] pc] [] pos) (lvE z f) := fun c ρ m σ H Q r s w => .mk fun pins st I => by
  refine Call_ (ld_blt I hg hm (show bootBuiltins "list" = some (.type "list") by decide +kernel) (PyProof.Rows.callWith_type1 ?_ hs rfl))
  have ev : WE X e σ H (fun v H1 => ∃ c1 m1 d kvs, RelS X.kw c1 m1 H1 ∧ VD X.kw H1 c1 v d ∧ dctOf d m1 = some kvs ∧ kvs.length ≤ sizeLine ∧ WantO X.kw c1 H1 (newO z (kvs.map (·.2)) m1) Q) := h.thenE r s w fun d m1 c1 v H1 r1 s1 g1 h1 w1 => by
    cases q : dctOf d m1 with
    | none => simp only [q] at w1; exact w1.elim
    | some kvs =>
      simp only [q] at w1
      by_cases hz : kvs.length ≤ sizeLine
      · rw [if_pos hz] at w1
        exact ⟨c1, m1, d, kvs, r1, h1, q, hz, w1.o⟩
      · rw [if_neg hz] at w1; exact w1.elim
  refine Calls.spliced_cons (wpAny_Call_method (T := "dict") (id := "dict.values") hbase rfl hline F.plainAttrs_dict F.slot_dict_values F.type_dict_values (thn (ev.go pins st I) ?_))
  rintro u s1 ⟨v, H1, J, rv, c1, m1, d, kvs, r1, h1, hd, hz, w1⟩
  obtain ⟨a, en, rfl, g1, g2⟩ := dctOf_ok r1 h1 hd
  cases rv
  obtain ⟨hS, ens, ep, y1, y2, y3⟩ := rd_raw J g1
  have l1 := dlen g2
  refine ⟨y1.typeIs, raw_noDict y1, ?_⟩
  show wpAny _ _ (callWith pc (.builtin "dict.values") [.ref a] [] []) _ X.xe s1
  refine method_meetsIn F.slot_dict_values F.entry_dict_values rfl (PySem.evalArgs_none ⟨rfl, y1.typeIs, F.args_dict_values_1 _, _, meets_dict_values_raw a hS, ⟨ens, ep, y1⟩, ?_⟩)
  refine Calls.spliced_nil ?_
  have J2 : Inv X pins σ H1 { s1 with heap := s1.heap.push ⟨.type "dict_values", none, .fields #[.ref a], #[]⟩ } := J.kept (t' := s1.toks) fun b ob q => Heap.get?_push_of_some _ q
  refine PySem.W.kdl_call (KdlSrc.rawValues (r := s1.heap.objs.size) (d := a) (ep := ep) (es := ens)) (I.ok.hd hc) ⟨⟨_, Heap.get?_push_size _ rfl, rfl, rfl⟩, DictRaw.pushed y1 _⟩ (by omega) fun h' tk acc c' hk hD hacc => ?_
  have hvl : Vals (en.map (·.2.2)) acc.toList := vals_of (·.2.2) (·.val) (fun _ _ z => z.2.2) y3 hacc
  have hn : H1 (s1.heap.push ⟨.type "dict_values", none, .fields #[.ref a], #[]⟩).objs.size = none := J2.hok.fresh (Nat.le_refl _)
  refine EP.frz ⟨.ref _, upd H1 (s1.heap.push ⟨.type "dict_values", none, .fields #[.ref a], #[]⟩).objs.size (.lst (en.map (·.2.2))), J2.laid (t' := tk) hk (Nat.le_refl _) ⟨by rw [List.length_map]; omega, acc.toList, c', hvl, by rw [Array.toArray_toList]; exact hD⟩, rfl, ?_⟩
  exact newO_ok r1 g2.vd w1 _ hn
end
end L2.Dn
namespace L2.Dn
open PySem PySem.Spec PyProof.Rows L2
/-! ### what the text says of a class -/
/-- a class of the module whose instances are plain, or an exception class -/
structure ClT (K : PySem.W.Frag) (Ca : Addr) : Prop where
  cl : Cls K Ca
  pc : PySem.W.plainGet K Ca "__class__" = true
  ha : PySem.W.findIn K (.ref Ca) "__class__" = some (some (.builtin "object.__class__"))
  hn : PySem.W.specialIn K (.builtin "object.__class__") "__get__" = some (some (.builtin "getset_descriptor.__get__"))
  ht : PySem.W.takesIn K (.builtin "object.__class__") = some true
  hm : PySem.W.mroIn K Ca (.type "object") = some true
structure XcT (K : PySem.W.Frag) (Ca : Addr) : Prop where
  oex : OexC K Ca
  xf : XfC K Ca
  ec : ExcC K Ca
/-- exceptions of a class, instances of a class, read by their fields -/
def FldX (K : PySem.W.Frag) (Ca : Addr) (f : Str) : Prop := XcT K Ca ∧ PySem.W.findIn K (.ref Ca) f = some none
def FldI (K : PySem.W.Frag) (Ca : Addr) (f : Str) : Prop := ClT K Ca ∧ NoAttr K Ca f
def fldIn (l : List Str) (C : Str) (f : Str) (ns : List Str) (xs : List D) (m : Store) : OD := if C ∈ l then ((ns.zip xs).lookup f).map fun d => (d, m) else none
def fldD (lx l : List Str) (f : Str) (d : D) (m : Store) : OD := match d with
  | .exn C ns xs => fldIn lx C f ns xs m
  | .obj C ns xs => fldIn l C f ns xs m
  | .cell i => match m.at_ i with
    | some (.ins C fs) => fldIn l C f (fs.map (·.1)) (fs.map (·.2)) m
    | _ => none
  | _ => none
section
variable {K : KW} {H : Hp} {c : Anc}
theorem fs_zip {fs : List (Str × V)} {ns : List Str} (h : fs.map (·.1) = ns) : fs = ns.zip (fs.map (·.2)) := by
  subst h
  induction fs with
  | nil => rfl
  | cons q fs ih => rw [List.map_cons, List.map_cons, List.zip_cons_cons, ← ih]
theorem lookup_rel {f : Str} : ∀ {ns : List Str} {vs : List V} {xs : List D} {d : D}, VDs K H c vs xs → (ns.zip xs).lookup f = some d → ∃ v, (ns.zip vs).lookup f = some v ∧ VD K H c v d
  | [], _, _, _, _, e => by simp at e
  | n :: ns, vs, [], d, h, e => by simp at e
  | n :: ns, vs, x :: xs, d, h, e => by
    unfold VDs at h
    obtain ⟨v, r, rfl, h1, h2⟩ := h
    simp only [List.zip_cons_cons, List.lookup_cons] at e ⊢
    cases q : f == n with
    | true => rw [q] at e; cases e; exact ⟨v, rfl, h1⟩
    | false => rw [q] at e; exact lookup_rel h2 e
end
section
variable {X : Cx} {W : WX} {a b e o : Expr} {es rest : List Expr} {fa fb f fo : FE} {fl : FI} {pos apos cpos p : Pos} {c : Anc} {ρ : Rho} {m : Store} {σ : St} {H : Hp} {name : Str}
theorem ins_rd {P : Program} {w : World} {h : Heap} {a C dx : Addr} {fs : List (Str × V)} (hok : HOk P w H h) (e : Rd H a (.ins C dx fs)) : ∃ mA, ObjM h a dx C mA ∧ (∀ f, RelO (fs.lookup f) (mA f)) ∧ PySem.Within mA (fs.map (·.1)) := by
  obtain ⟨d, z, ne, ob, mA, n, r, q⟩ := (show ObjOk P w H h a (.ins C dx fs) from e.ok hok)
  exact ⟨mA, ⟨ob, n, ne⟩, r, q⟩
theorem exn_pin {pins : List (Addr × Obj)} {s : Shared} {a : Addr} {oe : Obj} (I : Inv X pins σ H s) (h1 : X.kw.hd = some (a, oe)) : s.heap.get? a = some oe := by
  have h1 : (if X.calm then none else X.pn.head?) = some (a, oe) := h1
  have hcalm : X.calm = false := by
    cases hc : X.calm with
    | false => rfl
    | true => rw [hc] at h1; cases h1
  have hpn : X.pn.head? = some (a, oe) := by rw [hcalm] at h1; exact h1
  have hmem : (a, oe) ∈ X.pn := by
    cases hp : X.pn with
    | nil => rw [hp] at hpn; cases hpn
    | cons q l => rw [hp] at hpn; cases hpn; exact List.mem_cons_self
  exact (I.pin (a, oe) (List.mem_append_left _ hmem)).1
theorem fldIn_m {l : List Str} {C f : Str} {ns : List Str} {xs : List D} {d' : D} {m' : Store} (e : fldIn l C f ns xs m = some (d', m')) : m' = m ∧ C ∈ l ∧ (ns.zip xs).lookup f = some d' := by
  unfold fldIn at e
  split at e
  · rename_i hm
    obtain ⟨y, e1, e2⟩ := Option.map_eq_some_iff.mp e
    cases e2
    exact ⟨rfl, hm, e1⟩
  · cases e
theorem fldD_m {lx l : List Str} {f : Str} {d d' : D} {m' : Store} (e : fldD lx l f d m = some (d', m')) : m' = m := by
  unfold fldD at e
  split at e
  · exact (fldIn_m e).1
  · exact (fldIn_m e).1
  · split at e
    · exact (fldIn_m e).1
    · cases e
  · cases e
/-- o.f -/
theorem fld_ok {pins : List (Addr × Obj)} {s : Shared} {lx l : List Str} {f : Str} {d d' : D} {v : V} {u : Value} {bb : Bool} {m' : Store} {Q : VK} (hx : ∀ C ∈ lx, ∃ Ca, X.mg C = some (.ref Ca) ∧ FldX X.K Ca f) (hl : ∀ C ∈ l, ∃ Ca, X.mg C = some (.ref Ca) ∧ FldI X.K Ca f) (I : Inv X pins σ H s) (r : RelS X.kw c m H) (hv : VD X.kw H c v d) (ru : RelV v u) (e : fldD lx l f d m = some (d', m'))
    (q : ∀ v', VD X.kw H c v' d' → Q v' H) : wpAny (model X.prog X.w) X.A (getAttr u f bb) (EP X pins σ Q) X.xe s := by
  have ins : ∀ {a Ca dx : Addr} {C : Str} {fs : List (Str × V)} {ns : List Str} {xs : List D}, u = .ref a → X.mg C = some (.ref Ca) → Rd H a (.ins Ca dx fs) → fs.map (·.1) = ns → VDs X.kw H c (fs.map (·.2)) xs → fldIn l C f ns xs m = some (d', m') → wpAny (model X.prog X.w) X.A (getAttr u f bb) (EP X pins σ Q) X.xe s := fun {a Ca dx C fs ns xs} eu h1 hr hn hx e => by
    obtain ⟨_, hm, e⟩ := fldIn_m e
    obtain ⟨Cb, h2, T, hno⟩ := hl C hm
    have := h1.symm.trans h2
    cases this
    subst eu
    obtain ⟨mA, O, rr, _⟩ := ins_rd I.hok hr
    obtain ⟨y, k1, k2⟩ := lookup_rel hx e
    rw [← fs_zip hn] at k1
    obtain ⟨u', hu, ru'⟩ := RelO.some_of (v := y) (o := mA f) (by rw [← k1]; exact rr f)
    exact get_map I.kIn O (T.cl.get f) T.cl.hd hno hu (handed_of ru') ⟨y, H, I.tok _, ru', q y k2⟩
  unfold fldD at e
  split at e
  · obtain ⟨_, hm, k3⟩ := fldIn_m e
    obtain ⟨Cb, k1, T, hno⟩ := hx _ hm
    unfold VD at hv
    obtain ⟨a, oe, Ca, dd, fs, h1, rfl, h3, h4, ⟨vs, h5⟩, h6, h7⟩ := hv
    cases ru
    have := h3.symm.trans k1
    cases this
    have ha := exn_pin I h1
    rcases h6 with ⟨e1, _, _⟩ | ⟨dx, rfl, hx, hn⟩
    · rw [e1] at k3
      simp at k3
    · obtain ⟨mA, hns, hr⟩ := (show ObjOk X.prog X.w H s.heap dx (.xd fs) from I.hok dx _ hx)
      obtain ⟨od, ho, hlk⟩ := lookIn_ns hns
      obtain ⟨y, y1, y2⟩ := lookup_rel h7 k3
      rw [← fs_zip hn] at y1
      obtain ⟨u', hu, ru'⟩ := RelO.some_of (v := y) (o := mA f) (by rw [← y1]; exact hr f)
      have J : PySem.W.InstAt s.heap a oe _ (some od) := ⟨ha, h4.1, by unfold PySem.W.notCls; rw [h5] <;> rfl, by rw [h4.2]; exact ho⟩
      exact HandSPX.exc_get I.kIn J T.xf.ga T.xf.gg T.xf.exC (PySem.W.findObj_own T.xf.hdC hno rfl (by rw [hlk, hu])) (handed_of ru') ⟨y, H, I.tok _, ru', q y y2⟩
  · unfold VD at hv
    obtain ⟨a, ob, Ca, dx, fs, rfl, h2, h3, h4, h5⟩ := hv
    cases ru
    exact ins rfl h2 (.inr ⟨ob, h3⟩) h4 h5 e
  · rename_i i
    split at e
    · rename_i C fs hm
      unfold VD at hv
      obtain ⟨a, ha, rfl⟩ := hv
      cases ru
      obtain ⟨Ca, dx, vs, g1, g2, g3, g4⟩ := r.at_ i a _ ha hm
      exact ins rfl g2 (.inl g1) g3 (VDs.mono (Ext.refl _) (forI_le _ _) _ g4.warm) e
    · cases e
  · cases e
def fldE (lx l : List Str) (f : Str) (fa : FE) : FE := fun ρ m => (fa ρ m).bind fun d m1 => lift (fldD lx l f d m1)
theorem de_fld {lx l : List Str} {f : Str} (hx : ∀ C ∈ lx, ∃ Ca, X.mg C = some (.ref Ca) ∧ FldX X.K Ca f) (hl : ∀ C ∈ l, ∃ Ca, X.mg C = some (.ref Ca) ∧ FldI X.K Ca f) (ha : DE X W a fa) (hb : attributeBase a f X.env (eval a X.env) = eval a X.env := by rfl) : DE X W (.Attribute a f pos) (fldE lx l f fa) := fun c ρ m σ H Q r s w => .mk fun pins st I => by
  refine attr_of hb (thn ((ha.thenE (Q := fun v H1 => ∃ c1 m1 d, RelS X.kw c1 m1 H1 ∧ VD X.kw H1 c1 v d ∧ WantO X.kw c1 H1 (fldD lx l f d m1) Q) r s w (fun d m1 c1 v H1 r1 s1 g1 h1 w1 => ⟨c1, m1, d, r1, h1, w1.o⟩)).go pins st I) ?_)
  rintro u s1 ⟨v, H1, I1, ru, c1, m1, d, r1, h1, w1⟩
  cases q : fldD lx l f d m1 with
  | none => rw [q] at w1; exact w1.elim
  | some y =>
    obtain ⟨d', m'⟩ := y
    rw [q] at w1
    have e0 := fldD_m q
    subst e0
    exact fld_ok (bb := true) (Q := Q) hx hl I1 r1 h1 ru q fun v' hv' => w1 c1 v' H1 (Gd.refl r1) hv'
/-! ### isinstance(o, C), C a class of the module -/
def IsX (K : PySem.W.Frag) (Ca Cb : Addr) (b : Bool) : Prop := XcT K Ca ∧ PySem.W.kitOne K (.ref Ca) (.ref Cb) = some b
def IsI (K : PySem.W.Frag) (Ca Cb : Addr) (b : Bool) : Prop := ClT K Ca ∧ PySem.W.kitOne K (.ref Ca) (.ref Cb) = some b
def insCls (d : D) (m : Store) : Option Str := match d with
  | .obj C _ _ => some C
  | .cell i => match m.at_ i with
    | some (.ins C _) => some C
    | _ => none
  | _ => none
def exnCls : D → Option Str
  | .exn C _ _ => some C
  | _ => none
/-- lx, l: the classes of the module, with the answer; of built-in types it is no -/
def isCD (lx l : List (Str × Bool)) (d : D) (m : Store) : OD := match exnCls d with
  | some C => (lx.lookup C).map fun b => (.p (.bool b), m)
  | none => match insCls d m with
    | some C => (l.lookup C).map fun b => (.p (.bool b), m)
    | none => match tyN d m with
      | some _ => some (.p (.bool false), m)
      | none => none
theorem lookup_mem {l : List (Str × Bool)} {C : Str} {b : Bool} (h : l.lookup C = some b) : (C, b) ∈ l := by
  induction l with
  | nil => cases h
  | cons q l ih =>
    obtain ⟨n, k⟩ := q
    simp only [List.lookup_cons] at h
    cases e : C == n with
    | true => rw [e] at h; cases h; rw [eq_of_beq e]; exact List.mem_cons_self
    | false => rw [e] at h; exact List.mem_cons_of_mem _ (ih h)
/-- what isinstance says of the built-in types that data have -/
def NoTys (K : PySem.W.Frag) (Cb : Addr) : Prop := ∀ t ∈ ["NoneType", "bool", "int", "str", "list", "tuple", "dict"], PySem.W.kitOne K (.type t) (.ref Cb) = some false
theorem tyN_mem {d : D} {t : String} (h : tyN d m = some t) : t ∈ ["NoneType", "bool", "int", "str", "list", "tuple", "dict"] := by
  unfold tyN at h
  split at h <;> first
    | (cases h; done)
    | (cases h; decide)
    | (split at h <;> first | (cases h; done) | (cases h; decide))
theorem isC_ok {pins : List (Addr × Obj)} {s : Shared} {lx l : List (Str × Bool)} {Cb : Addr} {d d' : D} {v : V} {u : Value} {m' : Store} {Q : VK} (hx : ∀ q ∈ lx, ∃ Ca, X.mg q.1 = some (.ref Ca) ∧ IsX X.K Ca Cb q.2) (hl : ∀ q ∈ l, ∃ Ca, X.mg q.1 = some (.ref Ca) ∧ IsI X.K Ca Cb q.2) (hB : NoTys X.K Cb) (I : Inv X pins σ H s) (r : RelS X.kw c m H) (hv : VD X.kw H c v d) (ru : RelV v u) (e : isCD lx l d m = some (d', m'))
    (q : WantO X.kw c H (some (d', m')) Q) : wpAny (model X.prog X.w) X.A (call (.builtin "isinstance") [u, .ref Cb]) (EP X pins σ Q) X.xe s := by
  have fin : ∀ {b : Bool}, some (D.p (.bool b), m) = some (d', m') → ∀ tk, EP X pins σ Q (.bool b) { s with toks := tk } := fun {b} z tk => by
    cases z
    exact ⟨.bl b, H, I.tok tk, rfl, q.now r (VD.bl.mpr rfl)⟩
  have ins : ∀ {a Ca dx : Addr} {C : Str} {fs : List (Str × V)}, u = .ref a → X.mg C = some (.ref Ca) → Rd H a (.ins Ca dx fs) → (l.lookup C).map (fun b => (D.p (.bool b), m)) = some (d', m') → wpAny (model X.prog X.w) X.A (call (.builtin "isinstance") [u, .ref Cb]) (EP X pins σ Q) X.xe s := fun {a Ca dx C fs} eu h1 hr e => by
    obtain ⟨b, e1, e2⟩ := Option.map_eq_some_iff.mp e
    obtain ⟨Ca', k1, T, k3⟩ := hl _ (lookup_mem e1)
    have := h1.symm.trans k1
    cases this
    subst eu
    obtain ⟨mA, O, rr, _⟩ := ins_rd I.hok hr
    obtain ⟨od, J, hlk⟩ := O.look
    exact PySem.W.kia_one (PySem.W.kitx_own T.pc T.cl.hd T.ha T.hn T.ht T.hm) I.kIn J k3 (fun z => nomatch z) (fin (congrArg some e2))
  unfold isCD at e
  cases q0 : exnCls d with
  | some C =>
    rw [q0] at e
    obtain ⟨b, e1, e2⟩ := Option.map_eq_some_iff.mp e
    obtain ⟨Ca', k1, T, k3⟩ := hx _ (lookup_mem e1)
    cases d with
    | exn C' ns xs =>
      cases q0
      unfold VD at hv
      obtain ⟨a, oe, Ca, dd, fs, h1, rfl, h3, h4, ⟨vs, h5⟩, h6, h7⟩ := hv
      cases ru
      have ec : Ca = Ca' := by
        have := h3.symm.trans k1
        cases this
        rfl
      subst ec
      have ha := exn_pin I h1
      have go : ∀ od, PySem.W.InstAt s.heap a oe Ca od → wpAny (model X.prog X.w) X.A (call (.builtin "isinstance") [.ref a, .ref Cb]) (EP X pins σ Q) X.xe s := fun od J =>
        PySem.W.kia_one (PySem.W.kitx_exc (by obtain ⟨cd, hc, _⟩ := PySem.W.any_some T.ec.hd; rw [hc]; rfl) T.ec.hg T.ec.hk T.ec.hs T.ec.ha T.ec.hn T.ec.ht T.ec.hm) I.kIn J k3 (fun z => nomatch z) (fin (congrArg some e2))
      rcases h6 with ⟨_, e0, _⟩ | ⟨dx, rfl, hx, hn⟩
      · subst e0
        exact go none ⟨ha, h4.1, by unfold PySem.W.notCls; rw [h5] <;> rfl, by rw [h4.2]; trivial⟩
      · obtain ⟨mA, hns, hr⟩ := (show ObjOk X.prog X.w H s.heap dx (.xd fs) from I.hok dx _ hx)
        obtain ⟨od, ho, hlk⟩ := lookIn_ns hns
        exact go (some od) ⟨ha, h4.1, by unfold PySem.W.notCls; rw [h5] <;> rfl, by rw [h4.2]; exact ho⟩
    | _ => cases q0
  | none =>
    rw [q0] at e
    dsimp only at e
    cases q1 : insCls d m with
    | none =>
      rw [q1] at e
      dsimp only at e
      cases q2 : tyN d m with
      | none => rw [q2] at e; cases e
      | some t =>
        rw [q2] at e
        obtain ⟨P, Z, pp, hx⟩ := kitG I ru (tyN_ok r hv q2)
        exact PySem.W.kia_one Z I.kIn pp (hB t (tyN_mem q2)) hx (fin e)
    | some C =>
      rw [q1] at e
      unfold insCls at q1
      split at q1
      · cases q1
        unfold VD at hv
        obtain ⟨a, ob, Ca, dx, fs, rfl, h2, h3, h4, h5⟩ := hv
        cases ru
        exact ins rfl h2 (.inr ⟨ob, h3⟩) e
      · rename_i i
        split at q1
        · rename_i C' fs hmm
          cases q1
          unfold VD at hv
          obtain ⟨a, ha, rfl⟩ := hv
          cases ru
          obtain ⟨Ca, dx, vs, g1, g2, g3, g4⟩ := r.at_ i a _ ha hmm
          exact ins rfl g2 (.inl g1) e
        · cases q1
      · cases q1
/-- a def or a class as a value -/
def fnE (x : Str) : FE := fun _ m => .ok (.fn x) m
theorem de_fn {x : Str} {fa : Addr} (hm : X.mg x = some (.ref fa)) (hg : Gl X x := by rfl) (hd : (x == ("__debug__" : Str)) = false := by decide) : DE X W (.Name x pos) (fnE x) := fun c ρ m σ H Q rr s h =>
  we_of (pe_glob hg hm (v := .ref fa) rfl hd) (h.now rr (by unfold VD; exact ⟨fa, hm, rfl⟩))
def isCL (C : Str) (lx l : List (Str × Bool)) : List D → Store → OD
  | [d, .fn x], m => if x = C then isCD lx l d m else none
  | _, _ => none
theorem call_isC {C : Str} {Cb : Addr} {lx l : List (Str × Bool)} (hC : X.mg C = some (.ref Cb)) (hx : ∀ q ∈ lx, ∃ Ca, X.mg q.1 = some (.ref Ca) ∧ IsX X.K Ca Cb q.2) (hl : ∀ q ∈ l, ∃ Ca, X.mg q.1 = some (.ref Ca) ∧ IsI X.K Ca Cb q.2) (hB : NoTys X.K Cb) : CallR X (.builtin "isinstance") (rOfL X.kw (isCL C lx l)) := by
  intro pins s σ H xs us Q I rv h
  obtain ⟨c, m, ds, r, hv, w⟩ := h
  unfold isCL at w
  split at w
  · rename_i d x
    split at w
    · rename_i ex
      obtain ⟨v, v', rfl, h1, h2⟩ := VDs.two hv
      obtain ⟨u1, u2, rfl, r1, r2⟩ := vals2 rv
      unfold VD at h2
      obtain ⟨a, e1, rfl⟩ := h2
      cases r2
      rw [ex] at e1
      have := e1.symm.trans hC
      cases this
      cases q : isCD lx l d m with
      | none => rw [q] at w; exact w.elim
      | some y =>
        rw [q] at w
        exact isC_ok hx hl hB I r h1 r1 q w
    · exact w.elim
  · exact w.elim
end
end L2.Dn
namespace L2.Dn
open PySem PySem.Spec PyProof.Rows L2
/-! ### raise C(..) -/
/-- what the __init__ of an exception class promises: its fields are its arguments -/
def spX (Ca : Addr) (ns : List Str) : Sp := fun vs H Q _ => ∃ a ws, vs = .ref a :: ws ∧ ws.length = ns.length ∧ H a = some (exo a Ca none) ∧
  ∀ d H', H d = none → d ≠ a → H' a = some (exo a Ca (some d)) → H' d = some (exd d (ns.zip ws).reverse) → (∀ b, b ≠ a → b ≠ d → H' b = H b) → Q .non H'
theorem spX_len {Ca : Addr} {ns : List Str} : ∀ vs H Q E, spX Ca ns vs H Q E → vs.length = ((Str.ofString "self") :: ns).length := by
  rintro vs H Q E ⟨a, ws, rfl, h, _⟩
  simp [h]
section
variable {X : Cx} {W : WX} {a b e o : Expr} {es rest : List Expr} {fa fb f fo : FE} {fl : FI} {pos pos' apos cpos p p1 p2 : Pos} {c : Anc} {ρ : Rho} {m : Store} {σ : St} {H : Hp} {name x : Str} {ta : TA} {P Ca fI : Addr} {k : Nat} {fd : FuncData} {ns : List Str}
/-- P.__init__(self, ..), P an own class over ValueError without an __init__ of its own -/
theorem pe_ceinit {pl : Sem Bool} (hg : Gl X x) (hm : X.mg x = some (.ref P)) (g1 : PySem.W.specialIn X.K (.ref P) "__getattribute__" = some (some (.builtin "type.__getattribute__"))) (g2 : PySem.W.readsIn X.K P (.type "type") = true) (g3 : PySem.W.findCls X.K (.ref P) (.type "type") "__init__" = some (.val (.builtin "ValueError.__init__"))) (ha : PA X (e :: es) ta)
    (hdb : (x == ("__debug__" : Str)) = false := by decide)
    (hc : eval (.Call (.Attribute (.Name x p1) "__init__" p2) (e :: es) [] pos) X.env = (do
      let ov ← eval (.Name x p1) X.env
      standAt p2.atName
      let (f, first) ← holding [ov] (getMethod ov "__init__" pl)
      callWith pos f first (backTo pos (starEach (e :: es) X.env)) (backToKw pos (keywordEach [] X.env))) := by rfl)
    (he : starEach (e :: es) X.env = (false, eval e X.env) :: starEach es X.env := by rfl) (hpl : (backTo pos (starEach es X.env)).any (·.1) = false := by rfl) :
    PE X (.Call (.Attribute (.Name x p1) "__init__" p2) (e :: es) [] pos) (tVeI X.K ta) := by
  refine ⟨fun pins s σ H Q I h => PySem.W.methodCall_KW (ld_glob I hg hm ?_ hdb) hc⟩
  refine PySem.W.method_cls I.kIn g1 (PySem.W.cls_value I.kIn g2 g3 (by decide +kernel) ?_)
  show wpAny _ _ (callWith pos (Value.builtin "ValueError.__init__") [] (backTo pos (starEach (e :: es) X.env)) []) _ _ _
  refine PyProof.Rows.callWith_method1 (thn (ha.run pos pins _ σ H _ (I.tok _) h) ?_) he hpl
  rintro us s1 ⟨vs, H1, I1, r1, a, C, ws, rfl, hl, T, ea, q⟩
  cases r1 with
  | @cons _ u0 _ ur ra rw' =>
    cases ra
    have hlen : ur.length ≤ sizeLine := by
      rw [← Paired.length rw', sizeLine_eq]
      omega
    exact oinit_ok T I1 ea hlen fun s' J => ⟨.non, H1, J, rfl, q⟩
def raiseS (C : Str) (ns : List Str) (fl : FI) : FS := fun ρ m => (fl ρ m).bindS ρ fun ds m1 => if ds.length = ns.length then .exc ⟨C, (ns.zip ds).reverse⟩ ρ m1 else .stuck
theorem zip_map1 {α β : Type} {l : List α} {r : List β} (h : l.length = r.length) : (l.zip r).map (·.1) = l := List.map_fst_zip (by omega)
theorem zip_map2 {α β : Type} {l : List α} {r : List β} (h : l.length = r.length) : (l.zip r).map (·.2) = r := List.map_snd_zip (by omega)
theorem ds_raise {C : Str} (T : XcT X.K Ca) (hm : X.mg C = some (.ref Ca)) (iC : PySem.W.findIn X.K (.ref Ca) "__init__" = some (some (.ref fI))) (tI : PySem.W.typeIn X.K (.ref fI) = some (.type "function"))
    (F1 : FnOk X.prog X.w X.K X.mg X.base CX0 k fI fd (Str.ofString "self" :: ns) (spX Ca ns)) (hr : Room (k + 1) X.A) (hb : Binds X.K fd (Str.ofString "self" :: ns) []) (tk : Takes X W) (ha : DA X W (e :: es) fl)
    (hn : ns.length ≤ 1000 := by decide) (hg : Gl X C := by rfl) (hcalm : X.calm = true := by rfl) (hdb : (C == ("__debug__" : Str)) = false := by decide) (he : starEach (e :: es) X.env = (false, eval e X.env) :: starEach es X.env := by rfl) (hpl : (backTo pos (starEach es X.env)).any (·.1) = false := by rfl) :
    DS X W (.Raise (some (.Call (.Name C p) (e :: es) [] pos)) none pos') (raiseS C ns fl) := fun c ρ m σ H En r s w => by
  refine wst_of (ps_raise hcalm tk (pmk_oex T.oex iC tI F1 hr hb .nil pass0 hg hm pa_w hdb he hpl)) ?_
  refine ha.thenS (Q := fun vs H1 => vs.length ≤ 1000 ∧ ∀ a, H1 a = none → spX Ca ns (.ref a :: (vs ++ [])) (upd H1 a (exo a Ca none)) (fun v H2 => v = .non ∧ ∃ (d : Addr) (fs : List (Str × V)), H2 a = some (exo a Ca (some d)) ∧ H2 d = some (exd d fs) ∧ H1 d = none ∧ W (.ref Ca) (some d) σ (upd (del H2 a) d (.xd fs))) (fun _ _ _ => False)) r s w fun ds m1 c1 vs H1 r1 s1 g1 h1 w1 => ?_
  by_cases hl : ds.length = ns.length
  · rw [if_pos hl] at w1
    have hlv : vs.length = ns.length := by rw [h1.length]; exact hl
    refine ⟨by omega, fun a ha => ⟨a, vs ++ [], rfl, by rw [List.append_nil]; exact hlv, upd_same, fun d H' hd hne ha' hd' hrest => ⟨rfl, d, _, ha', hd', ?_, ?_⟩⟩⟩
    · rw [upd_ne hne] at hd
      exact hd
    · have hd1 : H1 d = none := by rw [upd_ne hne] at hd; exact hd
      rw [List.append_nil]
      have eH : upd (del H' a) d (.xd (ns.zip vs).reverse) = upd H1 d (.xd (ns.zip vs).reverse) := by
        funext b
        by_cases hbd : b = d
        · rw [hbd, upd_same, upd_same]
        · rw [upd_ne hbd, upd_ne hbd]
          by_cases hba : b = a
          · rw [hba, del_same, ha]
          · rw [del_ne hba, hrest b hba hbd, upd_ne hba]
      rw [eH]
      have g : Gd X.kw c1 c1 m1 H1 (upd H1 d (.xd (ns.zip vs).reverse)) := r1.lay hd1
      refine w1 c1 σ _ _ _ g (g.slots s1) ⟨Ca, hm, rfl, .inr ⟨d, _, rfl, upd_same, ?_, ?_⟩⟩
      · rw [List.map_reverse, List.map_reverse, zip_map1 hlv.symm, zip_map1 hl.symm]
      · rw [List.map_reverse, List.map_reverse, zip_map2 hlv.symm, zip_map2 hl.symm]
        exact (g.vds h1).reverse
  · rw [if_neg hl] at w1
    exact w1.elim
/-! ### try .. except C as n -/
def cleanR (ρ : Rho) : Bool := ρ.all fun o => match o with
  | some d => nx d
  | none => true
def endT (i : Nat) : SRes → SRes
  | .nx ρ m => if cleanR (ρ.set i none) then .nx (ρ.set i none) m else .stuck
  | .rt d m => if nx d then .rt d m else .stuck
  | .bk ρ m => if cleanR (ρ.set i none) then .bk (ρ.set i none) m else .stuck
  | .ct ρ m => if cleanR (ρ.set i none) then .ct (ρ.set i none) m else .stuck
  | _ => .stuck
/-- l: the exceptions that may come, and whether the clause names them -/
def tryS (l : List (Str × Bool)) (i : Nat) (gb gs : FS) : FS := fun ρ m => match gb ρ m with
  | .exc x ρ1 m1 => match l.lookup x.cls with
    | some true => endT i (gs (ρ1.set i (some (.exn x.cls (x.fs.map (·.1)) (x.fs.map (·.2))))) m1)
    | some false => .exc x ρ1 m1
    | none => .stuck
  | r => r
theorem Slo.kw {K K' : KW} (hk : K'.K = K.K) (hw : K'.w = K.w) (hm : K'.mg = K.mg) {ρ : Rho} (s : Slo K H c ρ σ) (h : cleanR ρ = true) : Slo K' H c ρ σ := by
  refine ⟨s.len, fun i d e => ?_⟩
  obtain ⟨v, h1, h2⟩ := s.at_ i d e
  refine ⟨v, h1, VD.kw hk hw hm d h2 ?_⟩
  have := List.all_eq_true.mp h _ (List.mem_of_getElem? e)
  exact this
theorem Slo.clean {K : KW} (hh : K.hd = none) {ρ : Rho} (s : Slo K H c ρ σ) : ∀ (i : Nat) (d : D), ρ[i]? = some (some d) → nx d = true := fun i d e => by
  obtain ⟨v, h1, h2⟩ := s.at_ i d e
  exact VD.nx hh d h2
theorem Slo.hot {K K' : KW} (hh : K.hd = none) (hk : K'.K = K.K) (hw : K'.w = K.w) (hm : K'.mg = K.mg) {ρ : Rho} (s : Slo K H c ρ σ) : Slo K' H c ρ σ :=
  ⟨s.len, fun i d e => let ⟨v, h1, h2⟩ := s.at_ i d e; ⟨v, h1, VD.kw hk hw hm d h2 (VD.nx hh d h2)⟩⟩
theorem Slo.del {K : KW} {ρ : Rho} (s : Slo K H c ρ σ) (i : Nat) : Slo K H c (ρ.set i none) (σ.set i none) := by
  refine ⟨by simp [s.len], fun j d e => ?_⟩
  by_cases hj : j = i
  · subst hj
    have hl : j < (ρ.set j none).length := (List.getElem?_eq_some_iff.mp e).1
    rw [List.getElem?_set_self (by simpa using hl)] at e
    cases e
  · rw [List.getElem?_set_ne (Ne.symm hj)] at e ⊢
    exact s.at_ j d e
theorem RelS.kw {K K' : KW} (h : K'.cold = K.cold) {c : Anc} {m : Store} {H : Hp} (r : RelS K c m H) : RelS K' c m H := ⟨r.len, r.inj, fun i a x h1 h2 => by rw [h]; exact r.at_ i a x h1 h2⟩
theorem Gd.kw {K K' : KW} (h : K'.cold = K.cold) {c c' : Anc} {m' : Store} {H H' : Hp} (g : Gd K c c' m' H H') : Gd K' c c' m' H H' := ⟨g.pre, g.ext, g.new, g.frame, g.rel.kw h⟩
variable {body suite : List Stmt} {b₀ : Stmt} {np : Pos} {gb gs : FS} {n C : Str} {cv : Value} {l : List (Str × Bool)}
theorem ds_try_as (i : Nat) (hN : X.N.Nodup) (hc : Names X C cv) (hx : ∀ q ∈ l, ∃ Ca, X.mg q.1 = some (.ref Ca) ∧ PySem.W.exmOne X.K (.ref Ca) cv = some q.2) (tk : Takes X W)
    (hb : ∀ (W' : WX) (pn : List (Addr × Obj)) (xe : Value → Shared → Prop), Takes (X.tr pn xe) W' → PassesOwn (model X.prog X.w) X.A X.env xe → DSs (X.tr pn xe) W' body gb)
    (hsu : ∀ (a : Addr) (oe : Obj) (pn : List (Addr × Obj)), DSs (X.suite a ((a, oe) :: pn)) (fun _ _ _ _ => False) (b₀ :: suite) gs)
    (hi : X.N[i]? = some n := by rfl) (hln : X.env.kindOf n = some .local := by rfl) (hcalm : X.calm = true := by rfl) (hs : X.stack = X.env :: X.outer := by rfl) (hf : X.env.frame = some X.env.locals := by rfl) :
    DS X W (.Try body [.ExceptHandler (some (.Name C np)) (some n) (b₀ :: suite) pos'] [] [] pos) (tryS l i gb gs) := fun c ρ m σ H En r s w => by
  have hh : X.kw.hd = none := by show (if X.calm then none else X.pn.head?) = none; rw [hcalm]; rfl
  have ktr : ∀ pn xe, (X.tr pn xe).kw = X.kw := fun pn xe => by simp [Cx.kw, hcalm]
  refine wst_of (ps_try_as (i := i) (tb := fun W' D σ H => ∀ pn xe, Takes (X.tr pn xe) W' → PassesOwn (model X.prog X.w) X.A X.env xe → WSs (X.tr pn xe) body D σ H)
    (ts := fun a cls d D σ H => ∀ oe pn, Zc cls d oe → (∃ vs, oe.data = .fields vs) → WSs (X.suite a ((a, oe) :: pn)) (b₀ :: suite) D σ H) hs hf hN hi hln hc tk
    (fun W' pn xe tk' po => ⟨fun pins st σ H D I h => (h pn xe tk' po).go pins st I⟩) (fun a oe cls d pn hz hfs => ⟨fun pins st σ H D I h => (h oe pn hz hfs).go pins st I⟩)) ?_
  intro pn xe tk' po
  refine hb _ pn xe tk' po c ρ m σ H En (by rw [ktr]; exact r) (by rw [ktr]; exact s) ?_
  unfold tryS at w
  cases q : gb ρ m with
  | nx ρ1 m1 => rw [q] at w; exact fun c' σ' H' g1 s1 => w c' σ' H' (by rw [ktr] at g1; exact g1) (by rw [ktr] at s1; exact s1)
  | bk ρ1 m1 => rw [q] at w; exact fun c' σ' H' g1 s1 => w c' σ' H' (by rw [ktr] at g1; exact g1) (by rw [ktr] at s1; exact s1)
  | ct ρ1 m1 => rw [q] at w; exact fun c' σ' H' g1 s1 => w c' σ' H' (by rw [ktr] at g1; exact g1) (by rw [ktr] at s1; exact s1)
  | rt d m1 => rw [q] at w; exact fun c' v H' g1 hv => w c' v H' (by rw [ktr] at g1; exact g1) (by rw [ktr] at hv; exact hv)
  | stuck => rw [q] at w; exact w
  | exc x ρ1 m1 =>
    rw [q] at w
    intro c1 σ1 cls dd H1 g1 s1 hx1
    rw [ktr] at g1 s1 hx1
    dsimp only at w
    cases ql : l.lookup x.cls with
    | none => rw [ql] at w; exact w.elim
    | some bb =>
      rw [ql] at w
      obtain ⟨Ca, k1, k2⟩ := hx _ (lookup_mem ql)
      obtain ⟨Cb, e1, e2, e3⟩ := hx1
      have ec : Ca = Cb := by
        have := e1.symm.trans k1
        cases this
        rfl
      subst ec
      subst e2
      refine ⟨bb, k2, fun hbb a ha oe pn2 hz hfs => ?_, fun hbb => ?_⟩
      · subst hbb
        have kc : (X.suite a ((a, oe) :: pn2)).kw.cold = X.kw.cold := rfl
        have kh : (X.suite a ((a, oe) :: pn2)).kw.hd = some (a, oe) := rfl
        have exv : VD (X.suite a ((a, oe) :: pn2)).kw H1 c1 (.ref a) (.exn x.cls (x.fs.map (·.1)) (x.fs.map (·.2))) := by
          unfold VD
          rcases e3 with ⟨f0, d0⟩ | ⟨dx, vs, d0, y1, y2, y3⟩
          · refine ⟨a, oe, Ca, dd, [], kh, rfl, e1, hz, hfs, .inl ⟨by rw [f0]; rfl, d0, rfl⟩, by rw [f0]; simp [VDs]⟩
          · exact ⟨a, oe, Ca, dd, vs, kh, rfl, e1, hz, hfs, .inr ⟨dx, d0, y1, y2⟩, VDs.kw (K := X.kw) (K' := (X.suite a ((a, oe) :: pn2)).kw) rfl rfl rfl _ y3 (VDs.nx hh _ y3)⟩
        refine hsu a oe pn2 c1 _ m1 _ H1 _ (g1.rel.kw kc) ((Slo.hot (K' := (X.suite a ((a, oe) :: pn2)).kw) hh rfl rfl rfl s1).set i exv) ?_
        have w2 := WantS.shift g1 w
        dsimp only at w2
        cases qs : gs (ρ1.set i (some (.exn x.cls (x.fs.map (·.1)) (x.fs.map (·.2))))) m1 with
        | nx ρ2 m2 =>
          rw [qs] at w2
          intro c2 σ2 H2 g2 s2
          simp only [endT] at w2
          split at w2
          · rename_i hcl
            exact w2 c2 _ H2 (Gd.kw (K := (X.suite a ((a, oe) :: pn2)).kw) (K' := X.kw) rfl g2) (Slo.kw (K := (X.suite a ((a, oe) :: pn2)).kw) (K' := X.kw) rfl rfl rfl (s2.del i) hcl)
          · exact w2.elim
        | bk ρ2 m2 =>
          rw [qs] at w2
          intro c2 σ2 H2 g2 s2
          simp only [endT] at w2
          split at w2
          · rename_i hcl
            exact w2 c2 _ H2 (Gd.kw (K := (X.suite a ((a, oe) :: pn2)).kw) (K' := X.kw) rfl g2) (Slo.kw (K := (X.suite a ((a, oe) :: pn2)).kw) (K' := X.kw) rfl rfl rfl (s2.del i) hcl)
          · exact w2.elim
        | ct ρ2 m2 =>
          rw [qs] at w2
          intro c2 σ2 H2 g2 s2
          simp only [endT] at w2
          split at w2
          · rename_i hcl
            exact w2 c2 _ H2 (Gd.kw (K := (X.suite a ((a, oe) :: pn2)).kw) (K' := X.kw) rfl g2) (Slo.kw (K := (X.suite a ((a, oe) :: pn2)).kw) (K' := X.kw) rfl rfl rfl (s2.del i) hcl)
          · exact w2.elim
        | rt d m2 =>
          rw [qs] at w2
          intro c2 v H2 g2 hv
          simp only [endT] at w2
          split at w2
          · rename_i hcl
            exact w2 c2 v H2 (Gd.kw (K := (X.suite a ((a, oe) :: pn2)).kw) (K' := X.kw) rfl g2) (VD.kw (K := (X.suite a ((a, oe) :: pn2)).kw) (K' := X.kw) rfl rfl rfl d hv hcl)
          · exact w2.elim
        | exc y ρ2 m2 => rw [qs] at w2; exact w2.elim
        | stuck => rw [qs] at w2; exact w2.elim
      · subst hbb
        exact w c1 σ1 _ dd H1 g1 s1 ⟨Ca, e1, rfl, e3⟩
end
end L2.Dn
namespace L2.Dn
open PySem PySem.Spec PyProof.Rows L2
section
variable {P : Program} {w : World} {K : PySem.W.Frag} {mg : Str → Option Value} {base : Heap}
/-- a def with defaults, by its body -/
theorem fn_denD {x qual : Str} {st : Stmt} {f : Addr} {fd : FuncData} {N ps : List Str} {k n np : Nat} {body : FS} {dvs : List V} {kws : List (Str × V)} (F : FunD K x qual (defArgs st) (defBody st) (defScope st) dvs kws f fd) (S : FnScope N ps (defScope st)) (hN : N.length = n) (hp : ps.length = np) (hps : np ≤ n)
    (hb : ∀ (cdv : Value) (A : Around) (outer : List Env) (s : Shared) (H : Hp) (E : XK), A.guards = some [] → Room k (A.deeper (envOfC qual (defScope st) s.heap.objs.size f cdv)) →
      DSs (cxOf (L2.CX P w) P w K mg base N qual (defScope st) f cdv A outer s H E) (fun cls dd _ H' => E cls dd H') (defBody st) body) : FnG P w K mg base (k + 1) f fd ps (spD ⟨K, w, mg, none⟩ np (fnD n body)) := by
  subst hN hp
  obtain ⟨oc, od, dV, kV, doc, pm, an, cdv, ct, osl, rfl, lk, hcd, _, _⟩ := F.ex
  have hlen : ∀ vs H Q E, spD ⟨K, w, mg, none⟩ ps.length (fnD N.length body) vs H Q E → vs.length = ps.length := by
    rintro vs H Q E ⟨cg, ds, g, h1, h2, h3, h4⟩
    rw [h3.length, h1]
  refine ⟨hlen, fun A outer s H as us vs Q E hg hr env bd rl want => ?_⟩
  have stay : ∀ b o, base.get? b = some o → s.heap.get? b = some o := fun b o h => (env.bs b o h).1
  have kin : K.In s.heap := env.mod.kin.keeps stay
  refine codeAny_call_function hr.depth (kin _ _ lk) rfl S.co S.gen rfl (PySem.W.codeRec_of kin hcd) (bd _ _ _ _ ?_)
  refine wpAny_newFunctionEnv_cells S.kind (fun y hy => ?_) fun ev hev s1 ic => ?_
  · rcases S.par y.1 (List.of_mem_zip (show (y.1, y.2) ∈ ps.zip us from hy)).1 with q | q
    · exact Or.inl q
    · exact Or.inr ⟨q, PySem.W.cellsFrom_some _ _ _ (Or.inl q)⟩
  subst hev
  refine ⟨(env.mod.nolimit.keeps stay).keeps ic.toInCall.keep, codeAny_func ?_⟩
  have J0 := inv_start (CX := L2.CX P w) (E := E) S hr.hd env (hlen _ _ _ _ want) rl ic
  obtain ⟨cg, ds, g, h1, h2, h3, h4⟩ := want
  have run := hb cdv A outer s H E hg (hr.deeper _) ⟨cg, []⟩ _ ⟨g, []⟩ _ H ⟨fun _ H' => Q .non H', Q, fun _ _ => False, fun _ _ => False⟩ h2 (Slo.start (N := N) h3 (by omega)) (by
    unfold fnD at h4
    cases q : body (ds.map some ++ List.replicate (N.length - ds.length) none) ⟨g, []⟩ with
    | nx ρ m =>
      rw [q] at h4
      exact fun c' σ' H' g1 s1 => h4 c'.g .non H' (Gd.glob (c := ⟨cg, []⟩) g1) (VD.non.mpr rfl)
    | rt d m =>
      rw [q] at h4
      cases hn : nl d with
      | false => simp only [fin, hn, Bool.false_eq_true, if_false] at h4
      | true =>
        simp only [fin, hn, if_true] at h4
        exact fun c' v H' g1 hv => h4 c'.g v H' (Gd.glob (c := ⟨cg, []⟩) g1) (VD.nl d hv hn)
    | exc x ρ m =>
      rw [q] at h4
      cases hn : nls (x.fs.map (·.2)) with
      | false => simp only [fin, hn, Bool.false_eq_true, if_false] at h4
      | true =>
        simp only [fin, hn, if_true] at h4
        intro c' σ' cls dd H' g1 s1 hx
        refine h4 c'.g cls dd H' (Gd.glob (c := ⟨cg, []⟩) g1) ?_
        obtain ⟨C, e1, e2, e3⟩ := hx
        refine ⟨C, e1, e2, e3.imp (fun z => z) ?_⟩
        rintro ⟨dx, vs, q1, q2, q3, q4⟩
        exact ⟨dx, vs, q1, q2, q3, VDs.nl _ q4 hn⟩
    | bk ρ m => rw [q] at h4; exact h4.elim
    | ct ρ m => rw [q] at h4; exact h4.elim
    | stuck => rw [q] at h4; exact h4.elim)
  refine wpAny_mono (run.go [] s1 J0) (fun fl s' out => ?_) fun _ _ z => z
  cases fl with
  | next => obtain ⟨_, H', J, z⟩ := out; exact ⟨.non, H', J.os, J.bare, J.base, J.hok, rfl, z⟩
  | ret u => obtain ⟨v, _, H', J, rv, z⟩ := out; exact ⟨v, H', J.os, J.bare, J.base, J.hok, rv, z⟩
  | brk => obtain ⟨_, _, _, z⟩ := out; exact z.elim
  | cont => obtain ⟨_, _, _, z⟩ := out; exact z.elim
end
/-! ### keywords -/
def WK (X : Cx) (kws : List Keyword) (σ : St) (H : Hp) (Q : List V → Hp → Prop) : Prop := ∀ (pos : Pos) (pins : List (Addr × Obj)) (s : Shared), Inv X pins σ H s → wpAny (model X.prog X.w) X.A (evalAll ((backToKw pos (keywordEach kws X.env)).map (·.2))) (AP X pins σ Q) X.xe s
def DK (X : Cx) (W : WX) (kws : List Keyword) (f : FI) : Prop := ∀ (c : Anc) (ρ : Rho) (m : Store) (σ : St) (H : Hp) (Q : List V → Hp → Prop), RelS X.kw c m H → Slo X.kw H c ρ σ → WantL X W c H σ (f ρ m) Q → WK X kws σ H Q
/-- how the values come to the parameters: by data -/
structure Arr (K0 : PySem.W.Frag) (n k : Nat) (gV : List V → List V → List V) (gD : List D → List D → List D) : Prop where
  vd : ∀ {K : KW} {H : Hp} {c : Anc} {vs zs : List V} {ds es : List D}, K.K = K0 → VDs K H c vs ds → VDs K H c zs es → ds.length = n → es.length = k → VDs K H c (gV vs zs) (gD ds es)
/-- an empty tuple that stands written -/
def ETup (K : PySem.W.Frag) (a : Addr) : Prop := ∃ (n : Nat) (sl : Array (Option Value)), K.lookup a = some ⟨.type "tuple", none, .seq #[] n, sl⟩
theorem ETup.vd {K : KW} {K0 : PySem.W.Frag} {H : Hp} {c : Anc} {a : Addr} (h : ETup K0 a) (e : K.K = K0) : VD K H c (.ref a) (.p (.tuple [])) := by
  obtain ⟨n, sl, hk⟩ := h
  subst e
  unfold VD
  exact .tup (.inr ⟨_, #[], n, hk, rfl, rfl, Nat.zero_le _, .nil⟩) .nil
def makeR (C : Str) (den : Den) (args : D → List D) (m : Store) : Res D := if nls (args (.cell (.g m.g.length))) then (match den (args (.cell (.g m.g.length))) (m.g ++ [.ins C []]) with
  | .ok (.p .none) g' => frzR (.ok (.cell (.g m.g.length)) ⟨g', m.l⟩)
  | .ok _ _ => .stuck
  | .exc x g' => .exc x ⟨g', m.l⟩
  | .stuck => .stuck) else .stuck
def makeE (C : Str) (den : Den) (n k : Nat) (gD : List D → List D → List D) (fl fk : FI) : FE := fun ρ m => (fl ρ m).bind fun ds m1 => (fk ρ m1).bind fun es m2 => if ds.length = n ∧ es.length = k then makeR C den (fun s => gD (s :: ds) es) m2 else .stuck
section
variable {X : Cx} {W : WX} {a b e o : Expr} {es rest : List Expr} {fa fb f fo : FE} {fl fk : FI} {pos pos' apos cpos p p1 p2 kpos : Pos} {c : Anc} {ρ : Rho} {m : Store} {σ : St} {H : Hp} {name x C : Str} {Ca fI : Addr} {k n np : Nat} {fd : FuncData} {ps ks : List Str} {kws : List Keyword} {nm : Option Str} {den : Den} {g : List Value → List Value → List Value} {gV : List V → List V → List V} {gD : List D → List D → List D}
theorem dk_nil : DK X W [] nilA := fun c ρ m σ H Q r s w pos pins st I => wpAny_evalAll_nil ⟨[], H, I, .nil, w c [] H (Gd.refl r) (by unfold VDs; rfl)⟩
theorem DE.thenK {kk : D → Store → Res (List D)} {Q : VK} {Q' : List V → Hp → Prop} (h : DE X W a fa) (r : RelS X.kw c m H) (s : Slo X.kw H c ρ σ) (hb : WantL X W c H σ ((fa ρ m).bind kk) Q')
    (q : ∀ d m1 c1 v H1, RelS X.kw c1 m1 H1 → Slo X.kw H1 c1 ρ σ → Gd X.kw c c1 m1 H H1 → VD X.kw H1 c1 v d → WantL X W c1 H1 σ (kk d m1) Q' → Q v H1) : WE X a σ H Q := h.thenL r s hb q
theorem dk_cons (ha : DE X W e f) (hr : DK X W kws fk) : DK X W (⟨nm, e, kpos⟩ :: kws) (consA f fk) := fun c ρ m σ H Q r s w pos pins st I => by
  show wpAny _ _ (evalAll ((do let v ← eval e X.env; standAt pos; pure v) :: (backToKw pos (keywordEach kws X.env)).map (·.2))) _ _ st
  refine wpAny_evalAll_cons (wpAny_bind (thn ((ha.thenL (Q := fun v H1 => WK X kws σ H1 fun vs H2 => Q (v :: vs) H2) r s w (fun d m1 c1 v H1 r1 s1 g1 h1 w1 => ?_)).go pins st I) ?_))
  · refine hr c1 ρ m1 σ H1 _ r1 s1 ?_
    cases q : fk ρ m1 with
    | stuck => rw [q] at w1; exact w1
    | exc x m2 => rw [q] at w1; exact w1
    | ok ds m2 =>
      rw [q] at w1
      exact fun c2 vs H2 g2 h2 => w1 c2 _ H2 g2 (by unfold VDs; exact ⟨v, vs, rfl, g2.vd h1, h2⟩)
  · rintro u s1 ⟨v, H1, I1, ru, q⟩
    refine wpAny_bind (wpAny_standAt (wpAny_pure (thn (q pos pins s1 I1) ?_)))
    rintro us s2 ⟨vs, H2, I2, r2, q2⟩
    exact ⟨v :: vs, H2, I2, .cons ru r2, q2⟩
theorem guards_make {A : Around} {C : Addr} {us : List Value} {kw : List (Str × Value)} (h : A.guards = some []) : (A.under (.builtin "type.__call__" ⟨.ref C :: us, kw⟩)).guards = some [] := by
  first
    | exact h
    | simpa [Around.under, Code.weight, Code.isCreation, Code.isGuard, Code.isCaller, Code.frames, Code.isFrame, guardIds] using h
theorem run_makeG {pins : List (Addr × Obj)} {s : Shared} {Q : VK} {us ws : List Value} {vs zs : List V} {sp : Sp} (M : Mk X.K Ca fI) (F : FnG X.prog X.w X.K X.mg X.base k fI fd ps sp) (hG : X.A.guards = some []) (hr : Room (k + 1) X.A) (hb : KBn X.K fd ps (n + 1) ks g gV) (tk : Takes X W)
    (I : Inv X pins σ H s) (r : Vals vs us) (rz : Vals zs ws) (l1 : vs.length = n) (l2 : zs.length = ks.length)
    (h : ∀ x dx, H x = none → H dx = none → dx ≠ x → sp (gV (.ref x :: vs) zs) (upd (upd H dx (.own x)) x (.ins Ca dx [])) (fun v H2 => v = .non ∧ Q (.ref x) H2) (L2.WE W σ)) :
    wpAny (model X.prog X.w) X.A (call (.ref Ca) us (ks.zip ws)) (EP X pins σ Q) X.xe s := by
  have hq := h (s.heap.objs.size + 1) s.heap.objs.size (I.hok.fresh (Nat.le_succ _)) (I.hok.fresh (Nat.le_refl _)) (Nat.ne_of_lt (Nat.lt_succ_self _))
  have J := Inv.made (C := Ca) I
  have r1 : Vals (V.ref (s.heap.objs.size + 1) :: vs) (Value.ref (s.heap.objs.size + 1) :: us) := .cons rfl r
  have r2 := hb.rel r1 rz
  have n1 : (Value.ref (s.heap.objs.size + 1) :: us).length = n + 1 := by rw [List.length_cons, ← r.length, l1]
  refine wpAny_call (make_map (f := fI) I.kIn M.makes M.init (beq_iff_eq.mp M.fn) (codeAny_mono (F.go _ X.stack _ _ ⟨Value.ref (s.heap.objs.size + 1) :: us, ks.zip ws⟩ (g (Value.ref (s.heap.objs.size + 1) :: us) ws) _ _ (L2.WE W σ) (guards_make hG) (hr.make Ca us (ks.zip ws))
    (J.env0.make Ca us (ks.zip ws)) (hb.to _ (Value.ref (s.heap.objs.size + 1) :: us) ws J.kIn n1 (rz.length.symm.trans l2)) r2 hq) fun out s' q => ?_))
  match out, q with
  | .error e, q => exact passAt tk σ pins _ _ e s' J q
  | .ok (.ret u), q =>
    obtain ⟨v, H', J3, rv, ev, q3⟩ := J.after q
    subst ev
    exact ⟨rv, ⟨V.ref (s.heap.objs.size + 1), H', J3, rfl, q3⟩⟩
/-- the promise, from what is wanted of the new object -/
theorem makeR_sp {vs zs : List V} {ds es : List D} {Q : VK} (hA : Arr X.K (n + 1) ks.length gV gD) (r : RelS X.kw c m H) (hC : X.mg C = some (.ref Ca)) (hv : VDs X.kw H c vs ds) (hz : VDs X.kw H c zs es) (l1 : ds.length = n) (l2 : es.length = ks.length) (hn : (gD (.cell (.g m.g.length) :: ds) es).length = np) (w : Want X W c H σ (makeR C den (fun s => gD (s :: ds) es) m) Q)
    (y dx : Addr) (hy : H y = none) (hd : H dx = none) (hne : dx ≠ y) : spD X.kw.cold np den (gV (.ref y :: vs) zs) (upd (upd H dx (.own y)) y (.ins Ca dx [])) (fun v H2 => v = .non ∧ QF Q (.ref y) H2) (L2.WE W σ) := by
  have g0 : Gd X.kw c c m H (upd H dx (.own y)) := r.lay hd
  have hy1 : upd H dx (.own y) y = none := by rw [upd_ne (Ne.symm hne)]; exact hy
  have g1 : Gd X.kw c (c.push y false) (m.push (.ins C []) false) (upd H dx (.own y)) (upd (upd H dx (.own y)) y (.ins Ca dx [])) := g0.rel.newC false hy1 ⟨Ca, dx, [], upd_same, hC, rfl, by simp [VDs]⟩
  have gg := g0.trans g1
  have self : VD X.kw (upd (upd H dx (.own y)) y (.ins Ca dx [])) (c.push y false) (.ref y) (.cell (.g m.g.length)) := by
    unfold VD
    refine ⟨y, ?_, rfl⟩
    have := push_next c y false
    rw [next_eq r] at this
    exact this
  have args : VDs X.kw (upd (upd H dx (.own y)) y (.ins Ca dx [])) (c.push y false) (gV (.ref y :: vs) zs) (gD (.cell (.g m.g.length) :: ds) es) := hA.vd rfl (by unfold VDs; exact ⟨_, _, rfl, self, gg.vds hv⟩) (gg.vds hz) (by simp [l1]) l2
  unfold makeR at w
  cases hl : nls (gD (.cell (.g m.g.length) :: ds) es) with
  | false => simp only [hl] at w; exact w.elim
  | true =>
    simp only [hl, if_true] at w
    refine ⟨(c.push y false).g, _, (m.push (.ins C []) false).g, hn, gg.rel.glob.cold, (VDs.nl _ args hl).cold (nxs_of_nls _ hl), ?_⟩
    have em : (m.push (.ins C []) false).g = m.g ++ [.ins C []] := rfl
    rw [em]
    cases q : den (gD (.cell (.g m.g.length) :: ds) es) (m.g ++ [.ins C []]) with
    | stuck => rw [q] at w; exact w.elim
    | exc x g' =>
      rw [q] at w
      intro cg' cls dd H' g2 hx
      have up : Pre ⟨cg', []⟩ ⟨cg', c.l⟩ := ⟨List.prefix_refl _, List.nil_prefix⟩
      have g3 := Gd.back (c := c.push y false) (m := m.push (.ins C []) false) gg.rel g2.warm
      refine w ⟨cg', c.l⟩ cls dd H' (gg.trans g3) ?_
      obtain ⟨Cx, e1, e2, e3⟩ := hx.warm
      refine ⟨Cx, e1, e2, e3.imp (fun z => z) ?_⟩
      rintro ⟨dx, vs, q1, q2, q3, q4⟩
      exact ⟨dx, vs, q1, q2, q3, VDs.mono (Ext.refl _) up _ q4⟩
    | ok d g' =>
      rw [q] at w
      intro cg' v H' g2 hv'
      have g3 := gg.trans (Gd.back (c := c.push y false) (m := m.push (.ins C []) false) gg.rel g2.warm)
      cases d with
      | p d =>
        cases d with
        | none =>
          refine ⟨VD.non.mp hv', ?_⟩
          have w : Want X W c H σ (frzR (.ok (.cell (.g m.g.length)) ⟨g', m.l⟩)) Q := w
          have at_ : (⟨cg', (c.push y false).l⟩ : Anc).at_ (.g m.g.length) = some y := by
            have := push_next c y false
            rw [next_eq r] at this
            exact pre_get (Gd.back (c := c.push y false) (m := m.push (.ins C []) false) gg.rel g2.warm).pre this
          cases q2 : (⟨g', m.l⟩ : Store).at_ (.g m.g.length) with
          | none => simp only [frzR, q2] at w; exact w.elim
          | some xx =>
            cases q3 : frzC xx with
            | none => simp only [frzR, q2, q3] at w; exact w.elim
            | some dd =>
              simp only [frzR, q2, q3] at w
              obtain ⟨u, h3, mu, kk⟩ := frzC_ok g3.rel at_ q2 q3
              exact .inr ⟨y, u, rfl, h3, mu, fun o => w _ _ _ (g3.trans (kk o).1) (kk o).2⟩
        | _ => exact w.elim
      | _ => exact w.elim
theorem de_make (M : Mk X.K Ca fI) (F : FnG X.prog X.w X.K X.mg X.base k fI fd ps (spD X.kw.cold np den)) (hG : X.A.guards = some []) (hr : Room (k + 1) X.A) (hm : X.mg C = some (.ref Ca)) (hb : KBn X.K fd ps (n + 1) ks g gV) (hA : Arr X.K (n + 1) ks.length gV gD) (hnp : ∀ ds es : List D, ds.length = n + 1 → es.length = ks.length → (gD ds es).length = np) (tk : Takes X W) (ha : DA X W (e :: es) fl) (hk : DK X W kws fk)
    (hg : Gl X C := by rfl) (hall : (backToKw pos (keywordEach kws X.env)).all (·.1.isSome) = true := by rfl) (hks : (backToKw pos (keywordEach kws X.env)).filterMap (·.1) = ks := by rfl) (hdb : (C == ("__debug__" : Str)) = false := by decide)
    (he : starEach (e :: es) X.env = (false, eval e X.env) :: starEach es X.env := by rfl) (hpl : ((backTo pos (starEach (e :: es) X.env)).any (·.1) || (backToKw pos (keywordEach kws X.env)).any (·.1.isNone)) = false := by rfl) :
    DE X W (.Call (.Name C p) (e :: es) kws pos) (makeE C den n ks.length gD fl fk) := fun c ρ m σ H Q r s w => WE.frz <| .mk fun pins st I => by
  have ev : WA X (e :: es) σ H (fun vs H1 => WK X kws σ H1 fun zs H2 => vs.length = n ∧ zs.length = ks.length ∧ ∀ y dx, H2 y = none → H2 dx = none → dx ≠ y → spD X.kw.cold np den (gV (.ref y :: vs) zs) (upd (upd H2 dx (.own y)) y (.ins Ca dx [])) (fun v H3 => v = .non ∧ QF Q (.ref y) H3) (L2.WE W σ)) := by
    refine ha.thenE r s w fun ds m1 c1 vs H1 r1 s1 g1 h1 w1 => ?_
    refine hk c1 ρ m1 σ H1 _ r1 s1 ?_
    cases q : fk ρ m1 with
    | stuck => rw [q] at w1; exact w1
    | exc x m2 => rw [q] at w1; exact w1
    | ok es' m2 =>
      rw [q] at w1
      intro c2 zs H2 g2 h2
      have w2 := Want.shift g2 w1
      have w2 : Want X W c2 H2 σ (if ds.length = n ∧ es'.length = ks.length then makeR C den (fun s => gD (s :: ds) es') m2 else .stuck) Q := w2
      by_cases hl : ds.length = n ∧ es'.length = ks.length
      · rw [if_pos hl] at w2
        exact ⟨by rw [h1.length]; exact hl.1, by rw [h2.length]; exact hl.2, makeR_sp hA g2.rel hm (g2.vds h1) h2 hl.1 hl.2 (hnp _ _ (by simp [hl.1]) hl.2) w2⟩
      · rw [if_neg hl] at w2; exact w2.elim
  refine wpAny_Call_Name_kw (ld_glob I hg hm ?_ hdb)
  refine PySem.W.callWith_KW (h₀ := X.base) I.ok.mod.kin M.kp hall (thn (ev.go pos pins st I) ?_) hpl he
  rintro us s1 ⟨vs, H1, I1, r1, q1⟩
  refine thn (q1 pos pins s1 I1) ?_
  rintro ws s2 ⟨zs, H2, I2, r2, l1, l2, q2⟩
  refine ⟨I2.kIn, ?_⟩
  rw [hks]
  exact run_makeG M F hG hr hb tk I2 r1 r2 l1 l2 q2
/-! ### self.f = e -/
def putFD (f : Str) (d : D) : List (Str × D) → List (Str × D)
  | [] => [(f, d)]
  | (g, x) :: r => if g = f then (g, d) :: r else (g, x) :: putFD f d r
theorem putF_rel {K : KW} {f : Str} {v : V} {d : D} (h : VD K H c v d) : ∀ {vs : List (Str × V)} {fs : List (Str × D)}, vs.map (·.1) = fs.map (·.1) → VDs K H c (vs.map (·.2)) (fs.map (·.2)) → (putF f v vs).map (·.1) = (putFD f d fs).map (·.1) ∧ VDs K H c ((putF f v vs).map (·.2)) ((putFD f d fs).map (·.2))
  | [], [], _, _ => ⟨rfl, VDs.one h⟩
  | [], _ :: _, e, _ => by cases e
  | _ :: _, [], e, _ => by cases e
  | (g, x) :: vs, (g', y) :: fs, e, hv => by
    simp only [List.map_cons, List.cons.injEq] at e
    obtain ⟨e1, e2⟩ := e
    simp only [List.map_cons] at hv
    unfold VDs at hv
    obtain ⟨v1, r1, z, h1, h2⟩ := hv
    cases z
    have eg : g = g' := e1
    subst eg
    by_cases hg : g = f
    · simp only [putF, putFD, if_pos hg]
      refine ⟨by simp [e2], ?_⟩
      show VDs K H c (v :: _) (d :: _)
      unfold VDs
      exact ⟨_, _, rfl, h, h2⟩
    · obtain ⟨i1, i2⟩ := putF_rel (f := f) h e2 h2
      simp only [putF, putFD, if_neg hg]
      refine ⟨by simp [i1], ?_⟩
      show VDs K H c (x :: _) (y :: _)
      unfold VDs
      exact ⟨_, _, rfl, h1, i2⟩
def setFD (l : List Str) (f : Str) (o d : D) (m : Store) : Option Store := match o with
  | .cell i => match m.at_ i with
    | some (.ins C fs) => if C ∈ l ∧ fs.length < 1000 ∧ okIn d i = true then some (m.set (.ins C (putFD f d fs)) i) else none
    | _ => none
  | _ => none
def setFS (l : List Str) (f : Str) (fo fe : FE) : FS := fun ρ m => (fe ρ m).bindS ρ fun d m1 => (fo ρ m1).bindS ρ fun o m2 => match setFD l f o d m2 with
  | some m3 => .nx ρ m3
  | none => .stuck
theorem ds_setF {l : List Str} {f : Str} {fe : FE} (hl : ∀ C ∈ l, ∃ Ca, X.mg C = some (.ref Ca) ∧ FldI X.K Ca f) (ho : DE X W o fo) (he : DE X W e fe) (hs : swapsWith e (some (.Attribute o f pos')) pos.line X.env = pure false := by rfl) : DS X W (.Assign [.Attribute o f pos'] e pos) (setFS l f fo fe) := fun c ρ m σ H En r s w => by
  refine wst_of (ps_fld pe_w pe_w hs) (he.thenS r s w fun d m1 c1 v H1 r1 s1 g1 h1 w1 => ho.thenS r1 s1 w1 fun ob m2 c2 vo H2 r2 s2 g2 h2 w2 => ?_)
  cases q : setFD l f ob d m2 with
  | none => simp only [q] at w2; exact w2.elim
  | some m3 =>
    simp only [q] at w2
    unfold setFD at q
    split at q
    · rename_i i
      split at q
      · rename_i C fs hm
        split at q
        · rename_i hc
          cases q
          unfold VD at h2
          obtain ⟨a, ha, rfl⟩ := h2
          obtain ⟨Ca, dx, vs, k1, k2, k3, k4⟩ := r2.at_ i a _ ha hm
          obtain ⟨Cb, j1, T, hno⟩ := hl C hc.1
          have ec : Ca = Cb := by
            have := k2.symm.trans j1
            cases this
            rfl
          subst ec
          have lv : vs.length = fs.length := by have := congrArg List.length k3; simpa using this
          refine ⟨a, Ca, dx, vs, rfl, k1, T.cl, hno, by omega, ?_⟩
          obtain ⟨y1, y2⟩ := putF_rel (f := f) (VD.forI (g2.vd h1) hc.2.2) k3 k4
          have g3 : Gd X.kw c2 c2 (m2.set (.ins C (putFD f d fs)) i) H2 (upd H2 a (.ins Ca dx (putF f v vs))) := r2.putC ha hm (by intro z; cases z) k1 rfl ⟨Ca, dx, _, upd_same, k2, y1, VDs.mono (Ext.putO k1 rfl) (Pre.refl _) _ y2⟩
          exact w2 c2 σ _ g3 (g3.slots s2)
        · cases q
      · cases q
    · cases q
end
end L2.Dn
namespace L2.Dn
open PySem PySem.Spec PyProof.Rows L2
/-! ### the operations as the printer names them -/
theorem fcons {α : Type} {P : α → Prop} {a : α} {l : List α} (h : P a) (t : ∀ x ∈ l, P x) : ∀ x ∈ a :: l, P x := fun x hx => (List.mem_cons.mp hx).elim (fun e => e ▸ h) (t x)
section
variable {X : Cx} {W : WX} {c : Anc} {m : Store} {σ : St} {H : Hp}
theorem IxR.alt {g h : D → D → Store → OD} (a : IxR X (rOf X.kw g)) (b : IxR X (rOf X.kw h)) : IxR X (rOf X.kw (altO g h)) := fun value slice pins s σ H x y v u Q I rx ry w hs =>
  (rOf_alt w).elim (fun w => a value slice pins s σ H x y v u Q I rx ry w hs) (fun w => b value slice pins s σ H x y v u Q I rx ry w hs)
def ixG := altO ixD ixDc
theorem ix_G (hu : X.A.units + 65 < cLine) : IxR X (rOf X.kw ixG) := IxR.alt ix_D (ix_Dc hu)
def setG : SetD := fun o i d m => match setItemD o i d m with
  | some m' => some m'
  | none => setItemDc o i d m
theorem set_G (hu : X.A.units + 65 < cLine) : PSet X (rSetOf X.kw setG) := fun pins s σ H o i v ov iv u Q I ro ri rv ⟨c, m, m', do_, di, dd, r, h1, h2, h3, e, q⟩ => by
  unfold setG at e
  cases q1 : setItemD do_ di dd m with
  | some m2 =>
    rw [q1] at e
    cases e
    exact set_L pins s σ H o i v ov iv u Q I ro ri rv ⟨c, m, _, do_, di, dd, r, h1, h2, h3, q1, q⟩
  | none =>
    rw [q1] at e
    exact set_dict hu pins s σ H o i v ov iv u Q I ro ri rv ⟨c, m, _, do_, di, dd, r, h1, h2, h3, e, q⟩
def inG := altO inD (inDc false)
theorem op_inG (hu : X.A.units + 65 < cLine) : OpR X (compareOp .In) (rOf X.kw inG) := OpR.alt (op_inD' hu) (op_inDc hu)
def notInG := altO notInD (inDc true)
theorem op_notInG (hu : X.A.units + 65 < cLine) : OpR X (compareOp .NotIn) (rOf X.kw notInG) := OpR.alt (op_notInD' hu) (op_notInDc hu)
def isNo : D → Bool
  | .p .none => true
  | _ => false
theorem isNo_ok {K : KW} {v : V} {d : D} (h : VD K H c v d) : decide (v = .non) = isNo d := by
  cases d with
  | p d =>
    unfold VD at h
    cases h with
    | non => simp [isNo]
    | _ => simp [isNo]
  | cell i => unfold VD at h; obtain ⟨a, _, rfl⟩ := h; simp [isNo]
  | tup xs => unfold VD at h; obtain ⟨a, _, rfl, _⟩ := h; simp [isNo]
  | lst xs => unfold VD at h; obtain ⟨a, _, rfl, _⟩ := h; simp [isNo]
  | dct ks xs => unfold VD at h; obtain ⟨a, _, _, rfl, _⟩ := h; simp [isNo]
  | obj C ns xs => unfold VD at h; obtain ⟨a, _, _, _, _, rfl, _⟩ := h; simp [isNo]
  | exn C ns xs => unfold VD at h; obtain ⟨a, _, _, _, _, _, rfl, _⟩ := h; simp [isNo]
  | fn x => unfold VD at h; obtain ⟨a, _, rfl⟩ := h; simp [isNo]
  | ty n => unfold VD at h; subst h; simp [isNo]
  | opq => unfold VD at h; obtain ⟨a, rfl⟩ := h; simp [isNo]
def isG (neg : Bool) (x y : D) (m : Store) : OD := match y with
  | .p .none => some (.p (.bool (if neg then !isNo x else isNo x)), m)
  | _ => none
theorem op_isG : OpR X (compareOp .Is) (rOf X.kw (isG false)) := fun pins s σ H x y v u Q I rx ry h => by
  obtain ⟨c, m, dx, dy, r, h1, h2, w⟩ := h
  unfold isG at w
  split at w
  · exact op_isN pins s σ H x y v u Q I rx ry ⟨VD.non.mp h2, by rw [isNo_ok h1]; exact w.now r (VD.bl.mpr rfl)⟩
  · exact w.elim
theorem op_isNotG : OpR X (compareOp .IsNot) (rOf X.kw (isG true)) := fun pins s σ H x y v u Q I rx ry h => by
  obtain ⟨c, m, dx, dy, r, h1, h2, w⟩ := h
  unfold isG at w
  split at w
  · exact op_notN pins s σ H x y v u Q I rx ry ⟨VD.non.mp h2, by rw [isNo_ok h1]; exact w.now r (VD.bl.mpr rfl)⟩
  · exact w.elim
/-- xs * n, xs a list of the def's own -/
def mulL (z : Md) (x y : D) (m : Store) : OD := match x, y with
  | .cell i, .p (.int n) => match m.at_ i with
    | some (.lst xs) => if -(2 ^ 63) ≤ n ∧ n < 2 ^ 63 ∧ xs.length * n.toNat ≤ sizeLine then newO z (List.replicate n.toNat xs).flatten m else none
    | _ => none
  | _, _ => none
theorem VDs.flat {K : KW} {vs : List V} {ds : List D} (h : VDs K H c vs ds) : ∀ n : Nat, VDs K H c (List.replicate n vs).flatten (List.replicate n ds).flatten
  | 0 => by simp [VDs]
  | n + 1 => by
    rw [List.replicate_succ, List.replicate_succ, List.flatten_cons, List.flatten_cons]
    exact h.append (VDs.flat h n)
theorem op_mulL (z : Md) : OpR X (binaryOp .Mult) (rOf X.kw (mulL z)) := by
  refine OpR.by_ op_rep fun x y H Q w => ?_
  obtain ⟨c, m, dx, dy, r, h1, h2, w⟩ := w
  unfold mulL at w
  split at w
  · rename_i i n
    split at w
    · rename_i xs hm
      split at w
      · rename_i hn
        unfold VD at h1
        obtain ⟨a, ha, rfl⟩ := h1
        obtain ⟨vs, k1, k2⟩ := r.at_ i a _ ha hm
        have k3 := VDs.mono (Ext.refl _) (forI_le _ _) _ k2.warm
        exact ⟨a, n, vs, rfl, VD.int.mp h2, k1, hn.1, hn.2.1, by rw [k3.length]; exact hn.2.2, newO_ok r (k3.flat _) w⟩
      · exact w.elim
    · exact w.elim
  · exact w.elim
def mulG (z : Md) := altO mulD (mulL z)
theorem op_mulG (z : Md) : OpR X (binaryOp .Mult) (rOf X.kw (mulG z)) := OpR.alt op_mulD (op_mulL z)
/-! ### displays of many or deep parts: only the head sign of each part is looked at -/
def nst : Expr → Bool
  | .Starred .. => false
  | _ => true
theorem star_of {e : Expr} {es : List Expr} {env : Env} (h : nst e = true) : starEach (e :: es) env = (false, eval e env) :: starEach es env := by
  cases e <;> first | (exact Bool.noConfusion h) | (unfold starEach; rfl) | (rw [starEach]; intro _ _ hh; exact Expr.noConfusion hh)
theorem da_consN {e : Expr} {es : List Expr} {f : FE} {g : Rho → Store → Res (List D)} (ha : DE X W e f) (hr : DA X W es g) (hs : nst e = true := by rfl) : DA X W (e :: es) (consA f g) := da_cons ha hr (star_of hs)
end
end L2.Dn
namespace L2.Dn
open PySem PySem.Spec PyProof.Rows L2
/-! ### methods and properties of own instances -/
/-- the class and the fields' names -/
def insN (d : D) (m : Store) : Option (Str × List Str) := match d with
  | .obj C ns _ => some (C, ns)
  | .cell i => match m.at_ i with
    | some (.ins C fs) => some (C, fs.map (·.1))
    | _ => none
  | _ => none
/-- which denotation serves: by the class, if no field hides the name -/
def metOf (l : List (Str × Den)) (f : Str) (d : D) (m : Store) : Option Den := match insN d m with
  | some (C, ns) => if f ∈ ns then none else l.lookup C
  | none => none
def methE (l : List (Str × Den)) (f : Str) (fo : FE) (fl : FI) : FE := fun ρ m => (fo ρ m).bind fun d m1 => match metOf l f d m1 with
  | some den => (fl ρ m1).bind fun ds m2 => callR den (d :: ds) m2
  | none => .stuck
/-- the method f of a class, n parameters with self -/
def MetT (X : Cx) (f : Str) (n : Nat) (q : Str × Den) : Prop := ∃ (Ca g : Addr) (fd : FuncData) (ps : List Str) (k : Nat), X.mg q.1 = some (.ref Ca) ∧ Cls X.K Ca ∧ Meth X.K Ca f g ∧ FnG X.prog X.w X.K X.mg X.base k g fd ps (spD X.kw.cold n q.2) ∧ Room k X.A ∧ Binds X.K fd ps []
section
variable {X : Cx} {W : WX} {a b e o : Expr} {es rest : List Expr} {fa fb fo : FE} {fl : FI} {pos apos cpos p : Pos} {c : Anc} {ρ : Rho} {m : Store} {σ : St} {H : Hp} {f : Str} {l : List (Str × Den)} {n : Nat}
theorem insN_rd {v : V} {d : D} {C : Str} {ns : List Str} (r : RelS X.kw c m H) (hv : VD X.kw H c v d) (e : insN d m = some (C, ns)) : ∃ (a Ca dx : Addr) (fs : List (Str × V)), v = .ref a ∧ X.mg C = some (.ref Ca) ∧ Rd H a (.ins Ca dx fs) ∧ fs.map (·.1) = ns := by
  unfold insN at e
  split at e
  · cases e
    unfold VD at hv
    obtain ⟨a, ob, Ca, dx, fs, rfl, h2, h3, h4, h5⟩ := hv
    exact ⟨a, Ca, dx, fs, rfl, h2, .inr ⟨ob, h3⟩, h4⟩
  · rename_i i
    split at e
    · rename_i C' fs hm
      cases e
      unfold VD at hv
      obtain ⟨a, ha, rfl⟩ := hv
      obtain ⟨Ca, dx, vs, g1, g2, g3, g4⟩ := r.at_ i a _ ha hm
      exact ⟨a, Ca, dx, vs, rfl, g2, .inl g1, g3⟩
    · cases e
  · cases e
theorem lookup_none {f : Str} : ∀ {fs : List (Str × V)}, f ∉ fs.map (·.1) → fs.lookup f = none
  | [], _ => rfl
  | q :: fs, h => by
    have h1 : (f == q.1) = false := beq_eq_false_iff_ne.mpr fun z => h (by rw [List.map_cons, z]; exact List.mem_cons_self ..)
    show List.lookup f ((q.1, q.2) :: fs) = none
    rw [List.lookup_cons, h1]
    exact lookup_none fun z => h (List.mem_cons_of_mem _ z)
theorem lookup_memA {α : Type} {f : Str} {d : α} : ∀ {l : List (Str × α)}, l.lookup f = some d → (f, d) ∈ l
  | q :: l, h => by
    have h : List.lookup f ((q.1, q.2) :: l) = some d := h
    rw [List.lookup_cons] at h
    cases z : f == q.1 with
    | true =>
      rw [z] at h
      cases h
      rw [eq_of_beq z]
      exact List.mem_cons_self ..
    | false =>
      rw [z] at h
      exact List.mem_cons_of_mem _ (lookup_memA h)
theorem met_at {v : V} {d : D} {den : Den} (hl : ∀ q ∈ l, MetT X f n q) (r : RelS X.kw c m H) (hv : VD X.kw H c v d) (e : metOf l f d m = some den) : ∃ (a Ca dx : Addr) (fs : List (Str × V)) (g : Addr) (fd : FuncData) (ps : List Str) (k : Nat), v = .ref a ∧ Rd H a (.ins Ca dx fs) ∧ fs.lookup f = none ∧
    Cls X.K Ca ∧ Meth X.K Ca f g ∧ FnG X.prog X.w X.K X.mg X.base k g fd ps (spD X.kw.cold n den) ∧ Room k X.A ∧ Binds X.K fd ps [] := by
  unfold metOf at e
  split at e
  · rename_i C ns hi
    split at e
    · cases e
    · rename_i hf
      obtain ⟨a, Ca, dx, fs, rfl, h1, h2, h3⟩ := insN_rd r hv hi
      obtain ⟨Cb, g, fd, ps, k, k1, k2, k3, k4, k5, k6⟩ := hl (C, den) (lookup_memA e)
      have := h1.symm.trans k1
      cases this
      exact ⟨a, Ca, dx, fs, g, fd, ps, k, rfl, h2, lookup_none (by rw [h3]; exact hf), k2, k3, k4, k5, k6⟩
  · cases e
theorem getmeth_rd {pins : List (Addr × Obj)} {s : Shared} {a C dx g : Addr} {fs : List (Str × V)} {pl : Sem Bool} {A : Around} {E : Value → Shared → Prop} {Q : Value × List Value → Shared → Prop} (I : Inv X pins σ H s) (e : Rd H a (.ins C dx fs)) (c : Cls X.K C) (k : Meth X.K C f g) (l : fs.lookup f = none)
    (h : Q (.ref g, [.ref a]) s) : wpAny (model X.prog X.w) A (getMethod (.ref a) f pl) Q E s := by
  obtain ⟨mA, O, r, _⟩ := ins_rd I.hok e
  have hn : mA f = none := RelO.none_of (by rw [← l]; exact r f)
  exact get_meth I.kIn O (c.get f) k.at_ k.fn hn h
/-- o.f(a, ..) -/
theorem de_meth {pl : Sem Bool} (hG : X.A.guards = some []) (hl : ∀ q ∈ l, MetT X f (n + 1) q) (tk : Takes X W) (ho : DE X W o fo) (ha : DA X W (e :: es) fl) (hn : lenA n fl)
    (hst : starEach (e :: es) X.env = (false, eval e X.env) :: starEach es X.env := by rfl) (hpl : (backTo pos (starEach es X.env)).any (·.1) = false := by rfl)
    (ht : eval (.Call (.Attribute o f apos) (e :: es) [] pos) X.env = (do
      let ov ← eval o X.env
      standAt apos.atName
      let (f, first) ← holding [ov] (getMethod ov f pl)
      callWith pos f first (backTo pos (starEach (e :: es) X.env)) (backToKw pos (keywordEach [] X.env))) := by rfl) :
    DE X W (.Call (.Attribute o f apos) (e :: es) [] pos) (methE l f fo fl) := fun c ρ m σ H Q r s w => .mk fun pins st I => by
  have ev : WE X o σ H (fun v H1 => ∃ (a Ca dx : Addr) (fs : List (Str × V)) (g : Addr) (fd : FuncData) (ps : List Str) (k : Nat) (den : Den), v = .ref a ∧ Rd H1 a (.ins Ca dx fs) ∧ fs.lookup f = none ∧ Cls X.K Ca ∧ Meth X.K Ca f g ∧ FnG X.prog X.w X.K X.mg X.base k g fd ps (spD X.kw.cold (n + 1) den) ∧ Room k X.A ∧ Binds X.K fd ps [] ∧
      WA X (e :: es) σ H1 fun vs H2 => spD X.kw.cold (n + 1) den (.ref a :: vs) H2 Q (L2.WE W σ)) := by
    refine ho.thenE r s w fun d m1 c1 v H1 r1 s1 g1 h1 w1 => ?_
    cases q : metOf l f d m1 with
    | none => rw [q] at w1; exact w1.elim
    | some den =>
      rw [q] at w1
      dsimp only at w1
      obtain ⟨a, Ca, dx, fs, g, fd, ps, k, rfl, k1, k2, k3, k4, k5, k6, k7⟩ := met_at hl r1 h1 q
      refine ⟨a, Ca, dx, fs, g, fd, ps, k, den, rfl, k1, k2, k3, k4, k5, k6, k7, ?_⟩
      refine ha c1 ρ m1 σ H1 _ r1 s1 ?_
      cases q2 : fl ρ m1 with
      | ok ds m2 =>
        rw [q2] at w1
        intro c2 vs H2 g2 hv
        exact callR_sp (ds := d :: ds) g2.rel (by unfold VDs; exact ⟨_, _, rfl, g2.vd h1, hv⟩) (by simp [hn _ _ _ _ q2]) (Want.shift g2 w1)
      | exc x m2 => rw [q2] at w1; exact w1
      | stuck => rw [q2] at w1; exact w1
  refine PySem.W.methodCall_KW (pl := pl) (thn (ev.go pins st I) ?_) ht
  rintro u s1 ⟨x, H1, I1, rx, a, Ca, dx, fs, g, fd, ps, k, den, rfl, k1, k2, k3, k4, k5, k6, k7, q⟩
  obtain rfl : u = Value.ref a := rx
  refine getmeth_rd I1 k1 k3 k4 k2 ?_
  refine PySem.W.callWith_K (first := [.ref a]) (h₀ := X.base) I.ok.mod.kin k4.kp (thn (q.go pos pins s1 I1) fun us s2 ⟨vs, H2, I2, r2, q2⟩ => ⟨I2.kIn, ?_⟩) hst hpl
  exact run_g (us := .ref a :: us) (vs := .ref a :: vs) k5 hG k6 k7 tk I2 (.cons rfl r2) q2
/-- o.f() -/
theorem de_meth0 {pl : Sem Bool} (hG : X.A.guards = some []) (hl : ∀ q ∈ l, MetT X f 1 q) (tk : Takes X W) (ho : DE X W o fo)
    (ht : eval (.Call (.Attribute o f apos) [] [] pos) X.env = (do
      let ov ← eval o X.env
      standAt apos.atName
      let (f, first) ← holding [ov] (getMethod ov f pl)
      callWith pos f first (backTo pos (starEach [] X.env)) (backToKw pos (keywordEach [] X.env))) := by rfl) :
    DE X W (.Call (.Attribute o f apos) [] [] pos) (methE l f fo nilA) := fun c ρ m σ H Q r s w => .mk fun pins st I => by
  have ev : WE X o σ H (fun v H1 => ∃ (a Ca dx : Addr) (fs : List (Str × V)) (g : Addr) (fd : FuncData) (ps : List Str) (k : Nat) (den : Den), v = .ref a ∧ Rd H1 a (.ins Ca dx fs) ∧ fs.lookup f = none ∧ Cls X.K Ca ∧ Meth X.K Ca f g ∧ FnG X.prog X.w X.K X.mg X.base k g fd ps (spD X.kw.cold 1 den) ∧ Room k X.A ∧ Binds X.K fd ps [] ∧
      spD X.kw.cold 1 den [.ref a] H1 Q (L2.WE W σ)) := by
    refine ho.thenE r s w fun d m1 c1 v H1 r1 s1 g1 h1 w1 => ?_
    cases q : metOf l f d m1 with
    | none => rw [q] at w1; exact w1.elim
    | some den =>
      rw [q] at w1
      obtain ⟨a, Ca, dx, fs, g, fd, ps, k, rfl, k1, k2, k3, k4, k5, k6, k7⟩ := met_at hl r1 h1 q
      exact ⟨a, Ca, dx, fs, g, fd, ps, k, den, rfl, k1, k2, k3, k4, k5, k6, k7, callR_sp (ds := [d]) r1 (VDs.one h1) rfl w1⟩
  refine PySem.W.methodCall_KW (pl := pl) (thn (ev.go pins st I) ?_) ht
  rintro u s1 ⟨x, H1, I1, rx, a, Ca, dx, fs, g, fd, ps, k, den, rfl, k1, k2, k3, k4, k5, k6, k7, q⟩
  obtain rfl : u = Value.ref a := rx
  refine getmeth_rd I1 k1 k3 k4 k2 ?_
  exact PySem.W.callWith_K0 (first := [.ref a]) I1.kIn k4.kp (run_g (us := [.ref a]) (vs := [.ref a]) k5 hG k6 k7 tk I1 (.cons rfl .nil) q)
/-! ### what is never reached -/
def stuckE : FE := fun _ _ => .stuck
theorem de_stuck {e : Expr} : DE X W e stuckE := fun c ρ m σ H Q r s w => w.elim
def stuckT : Rho → Store → Res Bool := fun _ _ => .stuck
theorem dt_stuck {e : Expr} : DT X W e stuckT := fun c ρ m σ H Q r s w => w.elim
def stuckS : FS := fun _ _ => .stuck
theorem ds_stuck {st : Stmt} : DS X W st stuckS := fun c ρ m σ H En r s w => w.elim
theorem dss_stuck {sts : List Stmt} : DSs X W sts stuckS := fun c ρ m σ H En r s w => w.elim
def stuckA : FI := fun _ _ => .stuck
theorem da_stuck {es : List Expr} : DA X W es stuckA := fun c ρ m σ H Q r s w => w.elim
theorem di_stuck {tg it : Expr} : DI X W tg it stuckA := fun c ρ m σ H R r s w => w.elim
/-! ### a def in a variable -/
/-- the def g, n parameters -/
def FnT (X : Cx) (n : Nat) (q : Str × Den) : Prop := ∃ (g : Addr) (fd : FuncData) (ps : List Str) (k : Nat), X.mg q.1 = some (.ref g) ∧ PySem.W.keepIn X.K (.ref g) = true ∧ FnG X.prog X.w X.K X.mg X.base k g fd ps (spD X.kw.cold n q.2) ∧ Room k X.A ∧ Binds X.K fd ps []
def fnOfD (l : List (Str × Den)) : D → Option Den
  | .fn x => l.lookup x
  | _ => none
def callV (l : List (Str × Den)) (fo : FE) (fl : FI) : FE := fun ρ m => (fo ρ m).bind fun d m1 => match fnOfD l d with
  | some den => (fl ρ m1).bind fun ds m2 => callR den ds m2
  | none => .stuck
theorem de_callV {x : Str} (hG : X.A.guards = some []) (hl : ∀ q ∈ l, FnT X n q) (tk : Takes X W) (ho : DE X W (.Name x p) fo) (ha : DA X W (e :: es) fl) (hn : lenA n fl)
    (he : starEach (e :: es) X.env = (false, eval e X.env) :: starEach es X.env := by rfl) (hpl : (backTo pos (starEach es X.env)).any (·.1) = false := by rfl) :
    DE X W (.Call (.Name x p) (e :: es) [] pos) (callV l fo fl) := fun c ρ m σ H Q r s w => .mk fun pins st I => by
  have ev : WE X (.Name x p) σ H (fun v H1 => ∃ (g : Addr) (fd : FuncData) (ps : List Str) (k : Nat) (den : Den), v = .ref g ∧ PySem.W.keepIn X.K (.ref g) = true ∧ FnG X.prog X.w X.K X.mg X.base k g fd ps (spD X.kw.cold n den) ∧ Room k X.A ∧ Binds X.K fd ps [] ∧
      WA X (e :: es) σ H1 fun vs H2 => spD X.kw.cold n den vs H2 Q (L2.WE W σ)) := by
    refine ho.thenE r s w fun d m1 c1 v H1 r1 s1 g1 h1 w1 => ?_
    cases q : fnOfD l d with
    | none => rw [q] at w1; exact w1.elim
    | some den =>
      rw [q] at w1
      unfold fnOfD at q
      split at q
      · rename_i y
        obtain ⟨g, fd, ps, k, k1, k2, k3, k4, k5⟩ := hl (y, den) (lookup_memA q)
        unfold VD at h1
        obtain ⟨a, h2, rfl⟩ := h1
        have := h2.symm.trans k1
        cases this
        refine ⟨g, fd, ps, k, den, rfl, k2, k3, k4, k5, ?_⟩
        refine ha c1 ρ m1 σ H1 _ r1 s1 ?_
        cases q2 : fl ρ m1 with
        | ok ds m2 =>
          rw [q2] at w1
          intro c2 vs H2 g2 hv
          exact callR_sp g2.rel hv (hn _ _ _ _ q2) (Want.shift g2 w1)
        | exc x m2 => rw [q2] at w1; exact w1
        | stuck => rw [q2] at w1; exact w1
      · cases q
  refine wpAny_Call_Name_kw (thn (ev.go pins st I) ?_)
  rintro u s1 ⟨x, H1, I1, rx, g, fd, ps, k, den, rfl, k1, k2, k3, k4, q⟩
  obtain rfl : u = Value.ref g := rx
  refine PySem.W.callWith_K (h₀ := X.base) I.ok.mod.kin k1 (thn (q.go pos pins s1 I1) fun us s2 ⟨vs, H2, I2, r2, q2⟩ => ⟨I2.kIn, ?_⟩) he hpl
  exact run_g k2 hG k3 k4 tk I2 r2 q2
end
end L2.Dn
namespace L2.Dn
open PySem PySem.Spec PyProof.Rows L2
/-! ### properties of own instances -/
def ProT (X : Cx) (f : Str) (q : Str × Den) : Prop := ∃ (Ca p g : Addr) (fd : FuncData) (ps : List Str) (k : Nat), X.mg q.1 = some (.ref Ca) ∧ Cls X.K Ca ∧ PropOf X.K Ca f p g ∧ FnG X.prog X.w X.K X.mg X.base k g fd ps (spD X.kw.cold 1 q.2) ∧ Room (k + 1) X.A ∧ Binds X.K fd ps []
def proOf (l : List (Str × Den)) (d : D) (m : Store) : Option Den := match insN d m with
  | some (C, _) => l.lookup C
  | none => none
/-- o.f, a property: its getter lets nothing out -/
def propE (l : List (Str × Den)) (fo : FE) : FE := fun ρ m => (fo ρ m).bind fun d m1 => match proOf l d m1 with
  | some den => noX (callR den [d] m1)
  | none => .stuck
section
variable {X : Cx} {W : WX} {a b e o : Expr} {es rest : List Expr} {fa fb fo : FE} {fl : FI} {pos apos cpos p : Pos} {c : Anc} {ρ : Rho} {m : Store} {σ : St} {H : Hp} {f : Str} {l : List (Str × Den)} {n : Nat}
theorem getprop_g {pins : List (Addr × Obj)} {s : Shared} {Q : VK} {bb : Bool} {E' : Value → Shared → Prop} {a C dx pr g : Addr} {fs : List (Str × V)} {k : Nat} {fd : FuncData} {ps : List Str} {sp : Sp} (I : Inv X pins σ H s) (ea : Rd H a (.ins C dx fs)) (c : Cls X.K C) (hp : PropOf X.K C f pr g)
    (F : FnG X.prog X.w X.K X.mg X.base k g fd ps sp) (hG : X.A.guards = some []) (hr : Room (k + 1) X.A) (hb : Binds X.K fd ps []) (h : sp [.ref a] H Q (L2.WE Wno σ)) : wpAny (model X.prog X.w) X.A (getAttr (.ref a) f bb) (EP X pins σ Q) E' s := by
  obtain ⟨mA, O, _, _⟩ := ins_rd I.hok ea
  obtain ⟨od, J, _⟩ := O.look
  obtain ⟨rest, hrec⟩ := hp.rec_
  have I1 := I.tok (s.toks + 1)
  have hl : [Value.ref a].length = ps.length := F.len _ _ _ _ h
  have hc : (PySem.W.clsIn X.K C).isSome = true := by
    obtain ⟨cd, hc, _⟩ := PySem.W.any_some c.hd
    rw [hc]
    rfl
  have bd := hb { s with toks := s.toks + 1 } [.ref a] I1.kIn (by rw [List.append_nil]; exact hl)
  rw [List.append_nil] at bd
  refine PySem.W.get_bind I.kIn J (PySem.W.plainGet_of (c.get f)).1 (PySem.W.findObj_data hc hp.at_ hp.get hp.tak) (PySem.W.plainGet_of (c.get f)).2 (wpAny_call (PySem.W.prop_get (s := { s with toks := s.toks + 1 }) I.kIn hrec ?_))
  refine codeAny_mono (F.go X.A.in1 X.stack { s with toks := s.toks + 1 } H ⟨[.ref a], []⟩ [.ref a] [.ref a] Q (L2.WE Wno σ) hG hr.in1 I1.env0.in1 bd (.cons rfl .nil) h) fun out s' hq => ?_
  cases out with
  | error er =>
    obtain ⟨_, _, _, _, _, _, _, _, _, _, _, _, z⟩ := hq
    exact z.elim
  | ok w =>
    cases w with
    | ret u =>
      obtain ⟨v, H', I3, rv, q3⟩ := I1.after hq
      show wpAny _ _ (handedOut u) _ _ _
      rw [PySem.W.handedOut_of (handed_of rv)]
      exact wpAny_pure ⟨v, H', I3, rv, q3⟩
    | next => exact False.elim hq
    | brk => exact False.elim hq
    | cont => exact False.elim hq
theorem want_noX {r : Res D} {Q : VK} (h : Want X W c H σ (noX r) Q) : Want X Wno c H σ r Q := by
  cases r with
  | ok => exact h
  | exc => exact h.elim
  | stuck => exact h
theorem de_prop (hG : X.A.guards = some []) (hl : ∀ q ∈ l, ProT X f q) (ho : DE X W o fo) (hb : attributeBase o f X.env (eval o X.env) = eval o X.env := by rfl) : DE X W (.Attribute o f pos) (propE l fo) := fun c ρ m σ H Q r s w => .mk fun pins st I => by
  have ev : WE X o σ H (fun v H1 => ∃ (a Ca dx pr g : Addr) (fs : List (Str × V)) (fd : FuncData) (ps : List Str) (k : Nat) (den : Den), v = .ref a ∧ Rd H1 a (.ins Ca dx fs) ∧ Cls X.K Ca ∧ PropOf X.K Ca f pr g ∧ FnG X.prog X.w X.K X.mg X.base k g fd ps (spD X.kw.cold 1 den) ∧ Room (k + 1) X.A ∧ Binds X.K fd ps [] ∧
      spD X.kw.cold 1 den [.ref a] H1 Q (L2.WE Wno σ)) := by
    refine ho.thenE r s w fun d m1 c1 v H1 r1 s1 g1 h1 w1 => ?_
    cases q : proOf l d m1 with
    | none => rw [q] at w1; exact w1.elim
    | some den =>
      rw [q] at w1
      unfold proOf at q
      split at q
      · rename_i C ns hi
        obtain ⟨a, Ca, dx, fs, rfl, k1, k2, k3⟩ := insN_rd r1 h1 hi
        obtain ⟨Cb, pr, g, fd, ps, k, j1, j2, j3, j4, j5, j6⟩ := hl (C, den) (lookup_memA q)
        have := k1.symm.trans j1
        cases this
        exact ⟨a, Ca, dx, pr, g, fs, fd, ps, k, den, rfl, k2, j2, j3, j4, j5, j6, callR_sp (W := Wno) (ds := [d]) r1 (VDs.one h1) rfl (want_noX w1)⟩
      · cases q
  refine attr_of hb (thn (ev.go pins st I) ?_)
  rintro u s1 ⟨x, H1, I1, rx, a, Ca, dx, pr, g, fs, fd, ps, k, den, rfl, k1, k2, k3, k4, k5, k6, q⟩
  obtain rfl : u = Value.ref a := rx
  exact getprop_g I1 k1 k2 k3 k4 hG k5 k6 q
end
end L2.Dn
namespace L2.Dn
open PySem PySem.Spec PyProof.Rows L2
/-! ### sorted(xs), xs a list of data of one kind -/
def tupB : PyData → Bool
  | .tuple (_ :: _) => true
  | _ => false
def loneB : PyData → Bool
  | .none => false
  | .tuple _ => false
  | _ => true
/-- data that can be sorted: all of one kind, tuples with an item at least, or no tuples and no None -/
def sortB (ps : List PyData) : Bool := (ps.all fun a => ps.all fun b => PySem.W.alike a b) && (ps.all tupB || ps.all loneB) && decide (ps.length ≤ sizeLine) && ps.all fun p => decide (p.depth ≤ 60)
def srtP (ps : List PyData) : List PyData := ps.mergeSort (PySem.W.dataLe false id)
theorem sortB_ok {ps : List PyData} (h : sortB ps = true) : PySem.W.AllAlike (ps.map id) ∧ PySem.W.Sortable (ps.map id) ∧ ps.length ≤ sizeLine ∧ ∀ p ∈ ps, p.depth ≤ 60 := by
  simp only [sortB, Bool.and_eq_true, decide_eq_true_eq, List.all_eq_true, Bool.or_eq_true] at h
  obtain ⟨⟨⟨h1, h2⟩, h3⟩, h4⟩ := h
  rw [List.map_id]
  refine ⟨fun d hd d' hd' => h1 d hd d' hd', ?_, h3, h4⟩
  rcases h2 with h2 | h2
  · refine .inl fun d hd => ?_
    have := h2 d hd
    unfold tupB at this
    split at this
    · exact ⟨_, _, rfl⟩
    · cases this
  · refine .inr fun d hd => ?_
    have := h2 d hd
    constructor
    · rintro rfl
      cases this
    · rintro xs rfl
      cases this
def sortD (z : Md) : List D → Store → OD
  | [d], m => match lstOf d m with
    | some xs => match pures xs with
      | some ps => if sortB ps = true then newO z ((srtP ps).map D.p) m else none
      | none => none
    | none => none
  | _, _ => none
section
variable {X : Cx} {H : Hp} {c : Anc} {m : Store}
theorem each_of : ∀ {vs : List V} {its : List Value} {ps : List PyData}, Vals vs its → VDs X.kw H c vs (ps.map D.p) → PySem.W.EachIs (fun u p => ∃ x, RelV x u ∧ VD X.kw H c x (.p p)) its ps
  | [], _, [], .nil, _ => .nil
  | [], _, _ :: _, _, h => by
    rw [List.map_cons] at h
    unfold VDs at h
    obtain ⟨_, _, e, _⟩ := h
    cases e
  | v :: vs, _, [], _, h => by
    rw [List.map_nil] at h
    unfold VDs at h
    cases h
  | v :: vs, _, p :: ps, .cons r rs, h => by
    rw [List.map_cons] at h
    unfold VDs at h
    obtain ⟨_, _, e, h1, h2⟩ := h
    cases e
    exact .cons ⟨v, r, h1⟩ (each_of rs h2)
theorem of_each : ∀ {its : List Value} {ps : List PyData}, PySem.W.EachIs (fun u p => ∃ x, RelV x u ∧ VD X.kw H c x (.p p)) its ps → ∃ vs, Vals vs its ∧ VDs X.kw H c vs (ps.map D.p)
  | _, _, .nil => ⟨[], .nil, by rw [List.map_nil]; unfold VDs; rfl⟩
  | _, _, .cons ⟨x, r, h⟩ hs => by
    obtain ⟨vs, k1, k2⟩ := of_each hs
    exact ⟨x :: vs, .cons r k1, by rw [List.map_cons]; unfold VDs; exact ⟨x, vs, rfl, h, k2⟩⟩
theorem cr_sortData (hu : X.A.units + 65 < cLine) : CallR X (.builtin "sorted") (fun xs H Q => ∃ (c : Anc) (m : Store) (a : Addr) (vs : List V) (ps : List PyData), xs = [.ref a] ∧ RelS X.kw c m H ∧ RdL X.K H a vs ∧ VDs X.kw H c vs (ps.map D.p) ∧ sortB ps = true ∧
    ∀ ys p, VDs X.kw H c ys ((srtP ps).map D.p) → H p = none → Q (.ref p) (upd H p (.lst ys))) := by
  intro pins s σ H xs us Q I rv h
  obtain ⟨c, m, a, vs, ps, rfl, r, hl, hv, hs, q⟩ := h
  obtain ⟨u, rfl, ru⟩ := vals1 rv
  obtain rfl : u = Value.ref a := ru
  obtain ⟨its, r1, pl, hz⟩ := I.list hl.sq
  obtain ⟨s1, s2, s3, s4⟩ := sortB_ok hs
  have ea := each_of r1 hv
  refine PySem.W.sorted_data (enc := id) pl.isList ea (ea.mono fun u p hx => ?_) s1 s2 s3 (fun b hb => ?_) fun out e1 e2 => ?_
  · obtain ⟨x, rx, hx⟩ := hx
    exact (DpA.rds I (deep_ok r 8 x (.p p) p hx rfl) rx).reads
  · have := s4 b hb
    show X.A.units + 2 + b.depth < cLine
    omega
  · obtain ⟨ys, y1, y2⟩ := of_each e2
    obtain ⟨e, he⟩ := sortedAll_at s.heap its (List.toArray out)
    have hn : H (s.heap.objs.size + 1) = none := I.hok.fresh (Nat.le_succ _)
    have hl2 : ys.length ≤ sizeLine := by
      rw [y1.length, e1]
      exact s3
    exact ⟨.ref (s.heap.objs.size + 1), upd H (s.heap.objs.size + 1) (.lst ys), I.laid (t' := s.toks) (fun b o hb => sortedAll_old hb) (Nat.le_succ _) ⟨hl2, out, e, y1, he⟩, rfl, q ys _ y2 hn⟩
theorem call_sortedD (z : Md) (hu : X.A.units + 65 < cLine) : CallR X (.builtin "sorted") (rOfL X.kw (sortD z)) := by
  refine CallR.by_ (cr_sortData hu) fun xs H Q w => ?_
  obtain ⟨c, m, ds, r, hv, w⟩ := w
  unfold sortD at w
  split at w
  · obtain ⟨v, e, h⟩ := VDs.onlyOne hv
    split at w
    · rename_i xs hx
      obtain ⟨a, vs, e1, k1, k2⟩ := lstOf_ok r h hx
      cases q : pures xs with
      | none => rw [q] at w; exact w.elim
      | some ps =>
        rw [q] at w
        dsimp only at w
        split at w
        · rename_i hs
          have := of_pures q
          subst this e1
          exact ⟨c, m, a, vs, ps, e, r, k1, k2, hs, fun ys p hy hp => newO_ok r hy w p hp⟩
        · exact w.elim
    · exact w.elim
  · exact w.elim
end
end L2.Dn
namespace L2.Dn
open PySem PySem.Spec PyProof.Rows L2
/-! ### sorted(d), the keys of a dict -/
mutual
theorem Rds.there {h : Heap} : ∀ {v : Value} {d : PyData}, Rds h v d → ∃ as, Reads h v d as ∧ ∀ a ∈ as, ∃ o, h.get? a = some o
  | _, _, .none => ⟨_, .none, fun _ z => nomatch z⟩
  | _, _, .bool b => ⟨_, .bool b, fun _ z => nomatch z⟩
  | _, _, .int i t => ⟨_, .int i t, fun _ z => nomatch z⟩
  | _, _, .str x t => ⟨_, .str x t, fun _ z => nomatch z⟩
  | _, _, .list h1 h2 h3 h4 => by
    obtain ⟨as, r, q⟩ := RdsA.there h4
    refine ⟨_, .list h1 h2 h3 r, fun a ha => ?_⟩
    rcases List.mem_cons.mp ha with z | z
    · rw [z]; exact ⟨_, h1⟩
    · exact q a z
  | _, _, .tuple h1 h2 h3 h4 => by
    obtain ⟨as, r, q⟩ := RdsA.there h4
    exact ⟨_, .tuple h1 h2 h3 r, q⟩
  | _, _, .dict _ h1 h2 h3 h4 h5 => by
    obtain ⟨as, r, q⟩ := RdsA.there h4
    obtain ⟨bs, r2, q2⟩ := RdsA.there h5
    refine ⟨_, .dict h1 h2 h3 r r2, fun a ha => ?_⟩
    rcases List.mem_append.mp ha with z | z
    · rcases List.mem_cons.mp z with z | z
      · rw [z]; exact ⟨_, h1⟩
      · exact q a z
    · exact q2 a z
theorem RdsA.there {h : Heap} : ∀ {vs : List Value} {ds : List PyData}, RdsA h vs ds → ∃ as, ReadsAll h vs ds as ∧ ∀ a ∈ as, ∃ o, h.get? a = some o
  | _, _, .nil => ⟨_, .nil, fun _ z => nomatch z⟩
  | _, _, .cons r q => by
    obtain ⟨as, x, hx⟩ := Rds.there r
    obtain ⟨bs, y, hy⟩ := RdsA.there q
    refine ⟨_, .cons x y, fun a ha => ?_⟩
    rcases List.mem_append.mp ha with z | z
    · exact hx a z
    · exact hy a z
end
def sortG (z : Md) (ds : List D) (m : Store) : OD := match sortD z ds m with
  | some r => some r
  | none => match ds with
    | [d] => match dctOf d m with
      | some kvs => if sortB (kvs.map (·.1)) = true then newO z ((srtP (kvs.map (·.1))).map D.p) m else none
      | none => none
    | _ => none
section
variable {X : Cx} {H : Hp} {c : Anc} {m : Store}
theorem call_sortedG (z : Md) (hc : X.calm = true) (hu : X.A.units + 65 < cLine) : CallR X (.builtin "sorted") (rOfL X.kw (sortG z)) := by
  intro pins s σ H xs us Q I rv h
  obtain ⟨c, m, ds, r, hv, w⟩ := h
  unfold sortG at w
  cases e : sortD z ds m with
  | some q => rw [e] at w; exact call_sortedD z hu pins s σ H xs us Q I rv ⟨c, m, ds, r, hv, by rw [e]; exact w⟩
  | none =>
    rw [e] at w
    dsimp only at w
    split at w
    · rename_i d
      split at w
      · rename_i kvs hd
        split at w
        · rename_i hs
          obtain ⟨v, rfl, hv1⟩ := VDs.onlyOne hv
          obtain ⟨u, rfl, ru⟩ := vals1 rv
          obtain ⟨a, en, rfl, g1, g2⟩ := dctOf_ok r hv1 hd
          cases ru
          obtain ⟨hS, ens, ep, y1, y2, y3⟩ := rd_raw I g1
          have l1 := dlen g2
          obtain ⟨s1, s2, s3, s4⟩ := sortB_ok hs
          have hz : kvs.length ≤ sizeLine := by
            rw [List.length_map] at s3
            exact s3
          refine Calls.call_function_entry PyProof.Rows.kind_sorted PyProof.Rows.plain_sorted PyProof.Rows.entry_sorted (PyProof.Rows.args_sorted1 _) ?_
          unfold Builtin.«sorted»
          refine wpAny_bind (m := checkCount "sorted" 1 1 _) (wpAny_pure ?_)
          refine wpAny_bind (PySem.W.kdu_collect (A := X.A.in1) (KdlSrc.rawDict (ep := ep) (es := ens) hS) (I.ok.hd hc) y1 (by omega) fun h' tk acc hk hacc => ?_)
          have I1 : Inv X pins σ H { s with heap := h', toks := tk } := I.kept hk
          have hvl : Vals (en.map (·.2.1)) acc.toList := vals_of (·.2.1) (·.key) (fun _ _ z => z.2.1) y3 hacc
          have hvd : VDs X.kw H c (en.map (·.2.1)) ((kvs.map (·.1)).map D.p) := VDs.ofp g2.kd
          have ea := each_of hvl hvd
          have hal : acc.toList.length = (kvs.map (·.1)).length := by
            rw [← hvl.length, hvd.length, List.length_map]
          refine wpAny_bind (wpAny_newList ?_ (by rw [hal]; exact s3))
          have hoL : (h'.push (seqObj "list" acc.toList.toArray 0)).get? h'.objs.size = some (seqObj "list" acc.toList.toArray 0) := Heap.get?_push_size _ rfl
          show wpAny _ _ _ _ _ { s with heap := h'.push (seqObj "list" acc.toList.toArray 0), toks := tk }
          refine wpAny_bind (wpAny_holding (PySem.W.list_sort_data (s := { s with heap := h'.push (seqObj "list" acc.toList.toArray 0), toks := tk }) (enc := id) (n := 0) hoL ea (ea.mono fun u p hx => ?_) s1 s2 s3 (fun b hb => ?_) fun out e1 e2 => ?_))
          · obtain ⟨x, rx, hx⟩ := hx
            obtain ⟨as, q1, q2⟩ := (DpA.rds I1 (deep_ok r 8 x (.p p) p hx rfl) rx).there
            refine ⟨as, PyProof.Rows.Reads.keeps (fun b o hb => Heap.get?_push_of_some _ hb) q1, fun z => ?_⟩
            obtain ⟨o, ho⟩ := q2 _ z
            exact Nat.lt_irrefl _ (Heap.lt_size ho)
          · have := s4 b hb
            show X.A.units + 1 + 1 + b.depth < cLine
            omega
          · obtain ⟨ys, k1, k2⟩ := of_each e2
            obtain ⟨e', he'⟩ := PyProof.Rows.sortedHeap_at (vs := acc.toList) (out := List.toArray out) hoL
            have hlen : ys.length ≤ sizeLine := by
              rw [k1.length, e1]
              exact s3
            have hn : H h'.objs.size = none := I1.hok.fresh (Nat.le_refl _)
            refine wpAny_pure ⟨_, rfl, EP.frz ⟨.ref h'.objs.size, upd H h'.objs.size (.lst ys), I1.laid (t' := tk) (fun b u e => ?_) (Nat.le_refl _) ⟨hlen, out, e', k1, he'⟩, rfl, newO_ok r k2 w _ hn⟩⟩
            have hb : b < h'.objs.size := Heap.lt_size e
            rw [PyProof.Rows.sortedHeap_old (Nat.ne_of_lt hb) (by rw [size_push']; exact Nat.lt_succ_of_lt hb)]
            exact Heap.get?_push_of_some _ e
        · exact w.elim
      · exact w.elim
    · exact w.elim
end
end L2.Dn
namespace L2.Dn
open PySem PySem.Spec PyProof.Rows L2
/-! ### C(k=a, ..), no values by place -/
section
variable {X : Cx} {W : WX} {a b e o : Expr} {es rest : List Expr} {fa fb f fo : FE} {fl fk : FI} {pos pos' apos cpos p p1 p2 kpos : Pos} {c : Anc} {ρ : Rho} {m : Store} {σ : St} {H : Hp} {name x C : Str} {Ca fI : Addr} {k n np : Nat} {fd : FuncData} {ps ks : List Str} {kws : List Keyword} {nm : Option Str} {den : Den} {g : List Value → List Value → List Value} {gV : List V → List V → List V} {gD : List D → List D → List D}
theorem de_make0 (M : Mk X.K Ca fI) (F : FnG X.prog X.w X.K X.mg X.base k fI fd ps (spD X.kw.cold np den)) (hG : X.A.guards = some []) (hr : Room (k + 1) X.A) (hm : X.mg C = some (.ref Ca)) (hb : KBn X.K fd ps 1 ks g gV) (hA : Arr X.K 1 ks.length gV gD) (hnp : ∀ ds es : List D, ds.length = 1 → es.length = ks.length → (gD ds es).length = np) (tk : Takes X W) (hk : DK X W kws fk)
    (hg : Gl X C := by rfl) (hall : (backToKw pos (keywordEach kws X.env)).all (·.1.isSome) = true := by rfl) (hks : (backToKw pos (keywordEach kws X.env)).filterMap (·.1) = ks := by rfl) (hdb : (C == ("__debug__" : Str)) = false := by decide)
    (hpl : ((backTo pos (starEach [] X.env)).any (·.1) || (backToKw pos (keywordEach kws X.env)).any (·.1.isNone)) = false := by rfl) :
    DE X W (.Call (.Name C p) [] kws pos) (makeE C den 0 ks.length gD nilA fk) := fun c ρ m σ H Q r s w => WE.frz <| .mk fun pins st I => by
  have ev : WK X kws σ H (fun zs H2 => zs.length = ks.length ∧ ∀ y dx, H2 y = none → H2 dx = none → dx ≠ y → spD X.kw.cold np den (gV [.ref y] zs) (upd (upd H2 dx (.own y)) y (.ins Ca dx [])) (fun v H3 => v = .non ∧ QF Q (.ref y) H3) (L2.WE W σ)) := by
    have w1 : Want X W c H σ ((fk ρ m).bind fun es m2 => if ([] : List D).length = 0 ∧ es.length = ks.length then makeR C den (fun s => gD [s] es) m2 else .stuck) Q := w
    refine hk c ρ m σ H _ r s ?_
    cases q : fk ρ m with
    | stuck => rw [q] at w1; exact w1
    | exc x m2 => rw [q] at w1; exact w1
    | ok es' m2 =>
      rw [q] at w1
      intro c2 zs H2 g2 h2
      have w2 := Want.shift g2 w1
      have w2 : Want X W c2 H2 σ (if ([] : List D).length = 0 ∧ es'.length = ks.length then makeR C den (fun s => gD [s] es') m2 else .stuck) Q := w2
      by_cases hl : ([] : List D).length = 0 ∧ es'.length = ks.length
      · rw [if_pos hl] at w2
        exact ⟨by rw [h2.length]; exact hl.2, makeR_sp (n := 0) (ds := []) (vs := []) hA g2.rel hm (by unfold VDs; rfl) h2 rfl hl.2 (hnp _ _ rfl hl.2) w2⟩
      · rw [if_neg hl] at w2; exact w2.elim
  refine wpAny_Call_Name_kw (ld_glob I hg hm ?_ hdb)
  refine PySem.W.callWith_KW0 (h₀ := X.base) I.ok.mod.kin M.kp hall (thn (ev pos pins st I) ?_) hpl
  rintro ws s2 ⟨zs, H2, I2, r2, l2, q2⟩
  refine ⟨I2.kIn, ?_⟩
  rw [hks]
  exact run_makeG (n := 0) (us := []) (vs := []) M F hG hr hb tk I2 .nil r2 rfl l2 q2
end
end L2.Dn
namespace L2.Dn
open PySem PySem.Spec PyProof.Rows L2
/-! ### an own instance called -/
def CalT (X : Cx) (n : Nat) (q : Str × Den) : Prop := ∃ (Ca g : Addr) (fd : FuncData) (ps : List Str) (k : Nat), X.mg q.1 = some (.ref Ca) ∧ StX.CallO X.K Ca g ∧ FnG X.prog X.w X.K X.mg X.base k g fd ps (spD X.kw.cold n q.2) ∧ Room k X.A ∧ Binds X.K fd ps []
def callOE (l : List (Str × Den)) (fo : FE) (fl : FI) : FE := fun ρ m => (fo ρ m).bind fun d m1 => if (insN d m1).isSome = true then (fl ρ m1).bind fun ds m2 => (match proOf l d m2 with
  | some den => callR den (d :: ds) m2
  | none => .stuck) else .stuck
section
variable {X : Cx} {W : WX} {a b e fe o : Expr} {es rest : List Expr} {fa fb fo : FE} {fl : FI} {pos apos cpos p : Pos} {c : Anc} {ρ : Rho} {m : Store} {σ : St} {H : Hp} {f : Str} {l : List (Str × Den)} {n : Nat}
theorem cal_at {v : V} {d : D} {den : Den} (hl : ∀ q ∈ l, CalT X n q) (r : RelS X.kw c m H) (hv : VD X.kw H c v d) (e : proOf l d m = some den) : ∃ (a Ca dx : Addr) (fs : List (Str × V)) (g : Addr) (fd : FuncData) (ps : List Str) (k : Nat), v = .ref a ∧ Rd H a (.ins Ca dx fs) ∧
    StX.CallO X.K Ca g ∧ FnG X.prog X.w X.K X.mg X.base k g fd ps (spD X.kw.cold n den) ∧ Room k X.A ∧ Binds X.K fd ps [] := by
  unfold proOf at e
  split at e
  · rename_i C ns hi
    obtain ⟨a, Ca, dx, fs, rfl, h1, h2, h3⟩ := insN_rd r hv hi
    obtain ⟨Cb, g, fd, ps, k, k1, k2, k3, k4, k5⟩ := hl (C, den) (lookup_memA e)
    have := h1.symm.trans k1
    cases this
    exact ⟨a, Ca, dx, fs, g, fd, ps, k, rfl, h2, k2, k3, k4, k5⟩
  · cases e
theorem rd_inst {pins : List (Addr × Obj)} {s : Shared} {a C dx : Addr} {fs : List (Str × V)} (I : Inv X pins σ H s) (h : Rd H a (.ins C dx fs)) : ∃ ox od, PySem.W.InstAt s.heap a ox C od ∧ ox.data = .plain := by
  obtain ⟨mA, O, _⟩ := ins_rd I.hok h
  obtain ⟨od, J, _⟩ := O.look
  exact ⟨_, _, J, rfl⟩
theorem de_callO (hG : X.A.guards = some []) (hl : ∀ q ∈ l, CalT X (n + 1) q) (tk : Takes X W) (ho : DE X W fe fo) (ha : DA X W (e :: es) fl) (hn : lenA n fl)
    (ht : eval (.Call fe (e :: es) [] pos) X.env = (do callWith pos (← eval fe X.env) [] (backTo pos (starEach (e :: es) X.env)) (backToKw pos (keywordEach [] X.env))) := by rfl)
    (he : starEach (e :: es) X.env = (false, eval e X.env) :: starEach es X.env := by rfl) (hpl : (backTo pos (starEach es X.env)).any (·.1) = false := by rfl) :
    DE X W (.Call fe (e :: es) [] pos) (callOE l fo fl) := fun c ρ m σ H Q r s w => .mk fun pins st I => by
  have ev : WE X fe σ H (fun v H1 => ∃ a, v = .ref a ∧ WA X (e :: es) σ H1 fun vs H2 => ∃ (Ca dx : Addr) (fs : List (Str × V)) (g : Addr) (fd : FuncData) (ps : List Str) (k : Nat) (den : Den), Rd H2 a (.ins Ca dx fs) ∧
      StX.CallO X.K Ca g ∧ FnG X.prog X.w X.K X.mg X.base k g fd ps (spD X.kw.cold (n + 1) den) ∧ Room k X.A ∧ Binds X.K fd ps [] ∧ spD X.kw.cold (n + 1) den (.ref a :: vs) H2 Q (L2.WE W σ)) := by
    refine ho.thenE r s w fun d m1 c1 v H1 r1 s1 g1 h1 w1 => ?_
    by_cases hi : (insN d m1).isSome = true
    · rw [if_pos hi] at w1
      obtain ⟨⟨C, ns⟩, hi⟩ := Option.isSome_iff_exists.mp hi
      obtain ⟨a, Ca, dx, fs, rfl, _⟩ := insN_rd r1 h1 hi
      refine ⟨a, rfl, ha c1 ρ m1 σ H1 _ r1 s1 ?_⟩
      cases q2 : fl ρ m1 with
      | ok ds m2 =>
        rw [q2] at w1
        intro c2 vs H2 g2 hv
        have w2 := Want.shift g2 w1
        have hd := g2.vd h1
        have w2 : Want X W c2 H2 σ (match proOf l d m2 with
          | some den => callR den (d :: ds) m2
          | none => .stuck) Q := w2
        cases q : proOf l d m2 with
        | none => rw [q] at w2; exact w2.elim
        | some den =>
          rw [q] at w2
          obtain ⟨a', Ca, dx, fs, g, fd, ps, k, e1, k1, k2, k3, k4, k5⟩ := cal_at hl g2.rel hd q
          cases e1
          exact ⟨Ca, dx, fs, g, fd, ps, k, den, k1, k2, k3, k4, k5, callR_sp (ds := d :: ds) g2.rel (by unfold VDs; exact ⟨_, _, rfl, hd, hv⟩) (by simp [hn _ _ _ _ q2]) w2⟩
      | exc x m2 => rw [q2] at w1; exact w1
      | stuck => rw [q2] at w1; exact w1
    · rw [if_neg hi] at w1
      exact w1.elim
  refine Call_ (thn (ev.go pins st I) ?_) ht
  rintro u s1 ⟨x, H1, I1, rx, a, rfl, q⟩
  obtain rfl : u = Value.ref a := rx
  refine StX.callO_with (thn (q.go pos pins s1 I1) ?_) he hpl
  rintro us s2 ⟨vs, H2, I2, r2, Ca, dx, fs, g, fd, ps, k, den, k1, k2, k3, k4, k5, q2⟩
  obtain ⟨ox, od, J, hd⟩ := rd_inst I2 k1
  refine ⟨⟨Ca, ox, od, J, hd⟩, ?_⟩
  have hlen : (Value.ref a :: us).length = ps.length := by
    have := k3.len _ _ _ _ q2
    simp only [List.length_cons] at this ⊢
    rw [← this, r2.length]
  have bd := k5 s2 (.ref a :: us) I2.kIn (by rw [List.append_nil]; exact hlen)
  rw [List.append_nil] at bd
  refine wpAny_call (PySem.W.kco_code I2.kIn J hd k2.at_ k2.fn k2.fi (codeAny_mono (k3.go X.A X.stack s2 H2 ⟨.ref a :: us, []⟩ (.ref a :: us) (.ref a :: vs) Q (L2.WE W σ) hG k4 I2.env0 bd (.cons rfl r2) q2) fun out s' q => ?_))
  match out, q with
  | .error e, q => exact passAt tk σ pins H2 s2 e s' I2 q
  | .ok (.ret u), q => exact I2.after q
end
end L2.Dn
namespace L2.Dn
open PySem PySem.Spec PyProof.Rows L2
/-! ### C.f(a, ..), f a static method -/
structure StaT (K : PySem.W.Frag) (C : Addr) (f : Str) (p g : Addr) : Prop where
  ga : PySem.W.specialIn K (.ref C) "__getattribute__" = some (some (.builtin "type.__getattribute__"))
  rd : PySem.W.readsIn K C (.type "type") = true
  at_ : PySem.W.findCls K (.ref C) (.type "type") f = some (.get (.builtin "staticmethod.__get__") (.ref p) .none (.ref C))
  rec_ : ∃ rest, PySem.W.recIn K p "staticmethod" = some (.ref g :: rest)
  kp : PySem.W.keepIn K (.ref g) = true
section
variable {X : Cx} {W : WX} {a b e fe o : Expr} {es rest : List Expr} {fa fb fo : FE} {fl : FI} {pos apos cpos p p1 p2 : Pos} {c : Anc} {ρ : Rho} {m : Store} {σ : St} {H : Hp} {f x : Str} {l : List (Str × Den)} {n k : Nat} {C pr g : Addr} {fd : FuncData} {ps : List Str} {den : Den}
theorem de_static {pl : Sem Bool} (F : FnG X.prog X.w X.K X.mg X.base k g fd ps (spD X.kw.cold n den)) (hG : X.A.guards = some []) (hr : Room k X.A) (hm : X.mg x = some (.ref C)) (S : StaT X.K C f pr g) (hb : Binds X.K fd ps []) (tk : Takes X W) (ha : DA X W (e :: es) fl) (hl : lenA n fl)
    (hg : Gl X x := by rfl) (hdb : (x == ("__debug__" : Str)) = false := by decide)
    (hc : eval (.Call (.Attribute (.Name x p1) f p2) (e :: es) [] pos) X.env = (do
      let ov ← eval (.Name x p1) X.env
      standAt p2.atName
      let (f, first) ← holding [ov] (getMethod ov f pl)
      callWith pos f first (backTo pos (starEach (e :: es) X.env)) (backToKw pos (keywordEach [] X.env))) := by rfl)
    (he : starEach (e :: es) X.env = (false, eval e X.env) :: starEach es X.env := by rfl) (hpl : (backTo pos (starEach es X.env)).any (·.1) = false := by rfl) :
    DE X W (.Call (.Attribute (.Name x p1) f p2) (e :: es) [] pos) (callE den fl) := fun c ρ m σ H Q r s w => .mk fun pins st I => by
  have args : WA X (e :: es) σ H (fun vs H1 => spD X.kw.cold n den vs H1 Q (L2.WE W σ)) := by
    refine ha c ρ m σ H _ r s ?_
    unfold callE at w
    cases q : fl ρ m with
    | ok ds m1 =>
      rw [q] at w
      exact fun c1 vs H1 g1 hv => callR_sp g1.rel hv (hl _ _ _ _ q) (Want.shift g1 w)
    | exc x m1 => rw [q] at w; exact w
    | stuck => rw [q] at w; exact w
  refine PySem.W.methodCall_KW (ld_glob I hg hm ?_ hdb) hc
  obtain ⟨rr, hrec⟩ := S.rec_
  refine PySem.W.method_cls I.kIn S.ga (PySem.W.cls_bind I.kIn S.rd S.at_ (wpAny_call (PySem.W.sm_get (s := { st with toks := st.toks + 1 }) I.kIn hrec ?_)))
  refine PySem.W.handed_on (v := .ref g) rfl ?_
  have I1 : Inv X pins σ H { st with toks := st.toks + 1 } := I.tok _
  refine PySem.W.callWith_K (h₀ := X.base) I.ok.mod.kin S.kp ?_ he hpl
  exact thn (args.go pos pins _ I1) fun us s1 ⟨vs, H1, I2, r1, q⟩ => ⟨I2.kIn, run_g F hG hr hb tk I2 r1 q⟩
end
end L2.Dn
namespace L2.Dn
open PySem PySem.Spec PyProof.Rows L2
/-! ### x == y, instances of one own class with its own __eq__ -/
def EqT (X : Cx) (q : Str × Den) : Prop := ∃ (Ca g : Addr) (fd : FuncData) (ps : List Str) (k : Nat), X.mg q.1 = some (.ref Ca) ∧ PySem.W.findIn X.K (.ref Ca) "__eq__" = some (some (.ref g)) ∧ PySem.W.isFn X.K (.ref g) = true ∧ FnG X.prog X.w X.K X.mg X.base k g fd ps (spD X.kw.cold 2 q.2) ∧ Room k X.A ∧ Binds X.K fd ps []
def blR : Res D → OD
  | .ok (.p (.bool b)) m => some (.p (.bool b), m)
  | _ => none
def eqO (l : List (Str × Den)) (x y : D) (m : Store) : OD := match insN x m, insN y m with
  | some (C, _), some (C', _) => if C = C' then (match l.lookup C with
    | some den => blR (callR den [x, y] m)
    | none => none) else none
  | _, _ => none
section
variable {X : Cx} {c : Anc} {m : Store} {σ : St} {H : Hp} {l : List (Str × Den)}
theorem blR_want {r : Res D} {Q : VK} (w : WantO X.kw c H (blR r) Q) : Want X Wno c H σ r (fun v H' => (∃ b, v = .bl b) ∧ Q v H') := by
  unfold blR at w
  split at w
  · exact fun c' v H' g hv => ⟨⟨_, VD.bl.mp hv⟩, w c' v H' g hv⟩
  · exact w.elim
theorem op_eqO (hG : X.A.guards = some []) (hl : ∀ q ∈ l, EqT X q) : OpR X (compareOp .Eq) (rOf X.kw (eqO l)) := by
  intro pins s σ H x y v u Q I rx ry hq
  obtain ⟨c, m, dx, dy, r, h1, h2, w⟩ := hq
  show wpAny (model X.prog X.w) X.A (richCompare .Eq v u) (EP X pins σ Q) X.xe s
  unfold eqO at w
  split at w
  · rename_i C ns C' ns' e1 e2
    split at w
    · rename_i ec
      subst ec
      cases q : l.lookup C with
      | none => rw [q] at w; exact w.elim
      | some den =>
        rw [q] at w
        obtain ⟨a, Ca, da, fs, rfl, k1, k2, _⟩ := insN_rd r h1 e1
        obtain ⟨b, Cb, db, gs, rfl, j1, j2, _⟩ := insN_rd r h2 e2
        obtain ⟨Cc, g, fd, ps, k, t1, t2, t3, t4, t5, t6⟩ := hl (C, den) (lookup_memA q)
        have e3 := k1.symm.trans t1
        have e4 := j1.symm.trans t1
        cases e3
        cases e4
        cases rx
        cases ry
        obtain ⟨ox, od, J, hd⟩ := rd_inst I k2
        obtain ⟨ox', od', J', hd'⟩ := rd_inst I j2
        obtain ⟨mm, hF⟩ := I.fr
        refine PySem.W.cmp_K (op := .Eq) (tb := .ref Ca) t5.units0 hF I.ok.mod.kin J J'.type (by simp [PySem.W.notFirst]) t2 t3 ?_
        have sp := callR_sp (W := Wno) (ds := [dx, dy]) (vs := [.ref a, .ref b]) (n := 2) r (by unfold VDs; exact ⟨_, _, rfl, h1, VDs.one h2⟩) rfl (blR_want (σ := σ) w)
        have rvs : Vals [V.ref a, V.ref b] [Value.ref a, Value.ref b] := .cons rfl (.cons rfl .nil)
        refine thn (run_g t4 hG t5 t6 takes0 I rvs sp) ?_
        rintro z s' ⟨vz, H', I', rz, ⟨bz, rfl⟩, qz⟩
        cases rz
        exact ⟨.bl bz, H', I', rfl, qz⟩
    · exact w.elim
  · exact w.elim
end
end L2.Dn
namespace L2.Dn
open PySem PySem.Spec PyProof.Rows L2
/-! ### == and != of dicts with any keys -/
section
variable {P : Program} {w : World} {A : Around} {E : Value → Shared → Prop} {s : Shared} {a b : Addr} {xs ys : List Ent}
/-- what the walk over the one dict's entries finds in the other one -/
inductive Hit (P : Program) (w : World) (A : Around) (s : Shared) (ys : List Ent) : List Ent → Bool → Prop
  | nil : Hit P w A s ys [] true
  | miss {x : Ent} {r : List Ent} : lkE ys x.1 = none → Hit P w A s ys (x :: r) false
  | hit {x : Ent} {y : Value} {r : List Ent} {e k : Bool} : lkE ys x.1 = some y → SeqAt.EqP P w A s x.2.2 y e → Hit P w A s ys r k → Hit P w A s ys (x :: r) (e && k)
theorem Hit.inv {x : Ent} {r : List Ent} {k : Bool} (h : Hit P w A s ys (x :: r) k) : (lkE ys x.1 = none ∧ k = false) ∨ ∃ y e k', lkE ys x.1 = some y ∧ SeqAt.EqP P w A s x.2.2 y e ∧ Hit P w A s ys r k' ∧ k = (e && k') := by
  cases h with
  | miss h => exact .inl ⟨h, rfl⟩
  | hit h q t => exact .inr ⟨_, _, _, h, q, t, rfl⟩
theorem same_key {nm : String} {r : Bool} {Q : Bool → Shared → Prop} (ha : (a == sysModules) = false) (hb : (b == sysModules) = false) (ga : GDict w s.heap a xs) (gb : GDict w s.heap b ys) (hu : A.units + 8 < cLine)
    (hits : xs.length = ys.length → Hit P w A s ys xs r) (h : Q (xs.length == ys.length && r) s) : wpAny (model P w) A (Builtin.Dict.samePairs nm a b) Q E s := by
  obtain ⟨oa, ea, na, a1, _, a2, a3, a4, _⟩ := ga
  obtain ⟨ob, eb, nb, b1, _, b2, b3, b4, b5⟩ := gb
  have la := ent_size a3
  have lb := ent_size b3
  rw [← la, ← lb] at h
  unfold Builtin.Dict.samePairs Builtin.Dict.showsAll
  rw [if_neg (by rw [ha]; exact Bool.false_ne_true), if_neg (by rw [hb]; exact Bool.false_ne_true)]
  refine wpAny_bind (wpAny_pure (wpAny_bind (wpAny_pure (wpAny_bind (wpAny_dictEntries a1 a2 ?_)))))
  dsimp only
  refine wpAny_bind (wpAny_dictEntries b1 b2 ?_)
  by_cases hz : ea.size = eb.size
  · have h' : Q r s := by simpa [hz] using h
    have ht := hits (by rw [← la, ← lb]; exact hz)
    rw [if_neg (by rw [hz]; simp)]
    refine wpAny_bind (wpAny_dictEpoch a1 a2 (wpAny_bind ?_))
    rw [Std.Legacy.Range.forIn_eq_forIn_range']; simp only [Std.Legacy.Range.size, Nat.sub_zero, Nat.add_sub_cancel, Nat.div_one]
    refine wpAny_forIn_list _ (fun rest q s' => s' = s ∧ q = (none, ()) ∧ ∃ i, rest = List.range' i (ea.size - i) ∧ i ≤ ea.size ∧ Hit P w A s ys (xs.drop i) r) _ ?_ ?_ _ _ ⟨rfl, rfl, 0, by simp, Nat.zero_le _, ht⟩
    · rintro j rest q s' ⟨rfl, rfl, i, hr, hi, hp⟩
      have hlt : i < ea.size := by
        rcases Nat.lt_or_ge i ea.size with k | k
        · exact k
        · rw [Nat.sub_eq_zero_of_le k] at hr; cases hr
      have e0 : ea.size - i = ea.size - (i + 1) + 1 := by omega
      rw [e0, List.range'_succ] at hr
      obtain ⟨rfl, hrest⟩ : j = i ∧ rest = List.range' (i + 1) (ea.size - (i + 1)) := by injection hr with p q; exact ⟨p, q⟩
      have hlx : j < xs.length := by rw [← la]; exact hlt
      have hdr : xs.drop j = xs[j] :: xs.drop (j + 1) := List.drop_eq_getElem_cons hlx
      rw [hdr] at hp
      have he : ea[j]? = some (entOf w xs[j]) := by rw [ent_get a3 j, List.getElem?_eq_getElem hlx]; rfl
      refine wpAny_bind (wpAny_dictEntries a1 a2 ?_)
      rw [he]
      generalize hx : xs[j] = x at hp he
      have hk : IsK s'.heap x.1 x.2.1 := by rw [← hx]; exact a4 _ (List.getElem_mem hlx)
      show wpAny _ _ (holding [x.2.1, x.2.2] _ >>= _) _ _ _
      refine wpAny_bind (wpAny_holding (wpAny_bind (find_key hu hk b1 b2 b3 b4 b5 (fun no => ?_) fun t p ht => ?_)))
      · rcases hp.inv with ⟨_, er⟩ | ⟨y, _, _, hy, _⟩
        · rw [er] at h'
          refine wpAny_pure ?_
          show wpAny _ _ (if (!false) = true then _ else _) _ _ _
          rw [if_pos (by rfl)]; exact wpAny_pure (wpAny_pure h')
        · rw [lkE_no no] at hy; cases hy
      · rcases hp.inv with ⟨hy, _⟩ | ⟨y, e, k, hy, he, hrr, er⟩
        · rw [lkE_at b5 ht] at hy; cases hy
        · have ey := (lkE_at b5 ht).symm.trans hy
          cases ey
          refine wpAny_bind (wpAny_dictEntries b1 b2 ?_)
          have e2 : eb[t]? = some (entOf w (x.1, p)) := by rw [ent_get b3 t, ht]; rfl
          rw [e2]
          refine wpAny_holding (he _ _ ?_)
          cases e with
          | false =>
            rw [er, Bool.false_and] at h'
            show wpAny _ _ (if (!false) = true then _ else _) _ _ _
            rw [if_pos (by rfl)]; exact wpAny_pure (wpAny_pure h')
          | true =>
            rw [Bool.true_and] at er
            rw [← er] at hrr
            show wpAny _ _ (if (!true) = true then _ else _) _ _ _
            rw [if_neg (by decide)]
            refine wpAny_bind (wpAny_dictEpoch a1 a2 ?_)
            rw [if_neg (by simp)]; exact wpAny_pure ⟨rfl, rfl, j + 1, hrest, hlt, hrr⟩
    · rintro q s' ⟨rfl, rfl, i, hr, hi, hp⟩
      have e0 : i = ea.size := by
        rcases Nat.lt_or_ge i ea.size with k | k
        · have e0 : ea.size - i = ea.size - (i + 1) + 1 := by omega
          rw [e0, List.range'_succ] at hr; cases hr
        · omega
      refine wpAny_pure ?_
      rw [e0, la, List.drop_length] at hp
      cases hp; exact h'
  · rw [if_pos (by simpa using hz)]
    have hf : (ea.size == eb.size) = false := by simpa using hz
    rw [hf, Bool.false_and] at h
    exact wpAny_bind (wpAny_rule (wpAny_pure h))
theorem eq_key {r : Bool} {Q : Value → Shared → Prop} (ha : (a == sysModules) = false) (hb : (b == sysModules) = false) (ga : GDict w s.heap a xs) (gb : GDict w s.heap b ys) (hu : A.units + 9 < cLine)
    (hits : xs.length = ys.length → Hit P w A.in1 s ys xs r) (h : Q (.bool (xs.length == ys.length && r)) s) : wpAny (model P w) A (compareOp .Eq (.ref a) (.ref b)) Q E s := by
  refine wpAny_richCompare_same_room (op := .Eq) ga.ty gb.ty PySem.F.slot_dict_eq (wpAny_call_entry PySem.F.slot_dict_eq ga.ty PySem.F.entry_dict_eq ?_ (PySem.F.args_dict_eq_2 _ _)) (by omega)
  show wpAny _ _ (Builtin.Dict.dictSlotArgs "__eq__" ⟨[.ref a, .ref b], []⟩ >>= _) _ _ s
  unfold Builtin.Dict.dictSlotArgs; refine wpAny_bind (wpAny_bind (wpAny_notOrdered_dict ga.ty ?_))
  show wpAny _ _ (pure (Value.ref a, Value.ref b)) _ _ s
  refine wpAny_pure (wpAny_bind (wpAny_isInstance (T := "dict") gb.ty PySem.F.sub_dict_dict ?_))
  simp only [Bool.not_true, Bool.false_eq_true, if_false]; refine wpAny_bind (wpAny_pure (wpAny_bind (wpAny_pure (wpAny_bind (same_key ha hb ga gb (by show A.units + 1 + 8 < _; omega) hits (wpAny_pure ⟨_, rfl, (by intro x; cases x), ?_⟩))))))
  simpa using h
theorem ne_key {r : Bool} {Q : Value → Shared → Prop} (ha : (a == sysModules) = false) (hb : (b == sysModules) = false) (ga : GDict w s.heap a xs) (gb : GDict w s.heap b ys) (hu : A.units + 9 < cLine)
    (hits : xs.length = ys.length → Hit P w A.in1 s ys xs r) (h : Q (.bool (!(xs.length == ys.length && r))) s) : wpAny (model P w) A (compareOp .NotEq (.ref a) (.ref b)) Q E s := by
  refine wpAny_richCompare_same_room (op := .NotEq) ga.ty gb.ty PySem.F.slot_dict_ne (wpAny_call_entry PySem.F.slot_dict_ne ga.ty PySem.F.entry_dict_ne ?_ (PySem.F.args_dict_ne_2 _ _)) (by omega)
  show wpAny _ _ (Builtin.Dict.dictSlotArgs "__ne__" ⟨[.ref a, .ref b], []⟩ >>= _) _ _ s
  unfold Builtin.Dict.dictSlotArgs; refine wpAny_bind (wpAny_bind (wpAny_notOrdered_dict ga.ty ?_))
  show wpAny _ _ (pure (Value.ref a, Value.ref b)) _ _ s
  refine wpAny_pure (wpAny_bind (wpAny_isInstance (T := "dict") gb.ty PySem.F.sub_dict_dict ?_))
  simp only [Bool.not_true, Bool.false_eq_true, if_false]; refine wpAny_bind (wpAny_pure (wpAny_bind (wpAny_pure (wpAny_bind (same_key ha hb ga gb (by show A.units + 1 + 8 < _; omega) hits (wpAny_pure ⟨_, rfl, (by intro x; cases x), ?_⟩))))))
  simpa using h
end
/-- a value that can be compared -/
def okW (m : Store) (d : D) : Bool := match whole m d with
  | some p => SeqAt.shaped p
  | none => false
def eqW (m : Store) (x y : D) : Bool := match whole m x, whole m y with
  | some p, some q => PyData.eqv p q
  | _, _ => false
/-- entry by entry -/
def hitD (m : Store) (kb : List (PyData × D)) (q : PyData × D) : Bool := match nk q.1 with
  | some k => (match lkD kb k with
    | some d => eqW m q.2 d
    | none => false)
  | none => false
def eqDc (neg : Bool) (x y : D) (m : Store) : OD := match dctOf x m, dctOf y m with
  | some ka, some kb => if ka.all (fun q => okW m q.2) = true ∧ kb.all (fun q => okW m q.2) = true then some (.p (.bool (if neg then !(ka.length == kb.length && ka.all (hitD m kb)) else (ka.length == kb.length && ka.all (hitD m kb)))), m) else none
  | _, _ => none
section
variable {X : Cx} {pins : List (Addr × Obj)} {σ : St} {H : Hp} {s : Shared} {c : Anc} {m : Store}
theorem eqW_run {A : Around} (I : Inv X pins σ H s) (r : RelS X.kw c m H) {v v' : V} {u u' : Value} {d d' : D} (h : VD X.kw H c v d) (h' : VD X.kw H c v' d') (ru : RelV v u) (ru' : RelV v' u') (o : okW m d = true) (o' : okW m d' = true) (hu : A.units + 64 < cLine) :
    SeqAt.EqP X.prog X.w A s u u' (eqW m d d') := by
  unfold okW at o o'; unfold eqW
  cases e : whole m d with
  | none => rw [e] at o; cases o
  | some p =>
    cases e' : whole m d' with
    | none => rw [e'] at o'; cases o'
    | some q =>
      rw [e] at o; rw [e'] at o'
      obtain ⟨as, ra⟩ := (DpA.rds I (deep_ok r 8 _ _ _ h e) ru).reads
      obtain ⟨bs, rb⟩ := (DpA.rds I (deep_ok r 8 _ _ _ h' e') ru').reads
      exact SeqAt.EqAt.eqP (SeqAt.eqAt_reads p q A s u u' as bs ra rb (SeqAt.canLay_of_shaped o) (SeqAt.canLay_of_shaped o') (SeqAt.room_of_shaped o hu))
theorem lkD_ok {kb : List (PyData × D)} {k : NestedKey} {d : D} (h : kb.all (fun q => okW m q.2) = true) (e : lkD kb k = some d) : okW m d = true := by
  unfold lkD at e
  obtain ⟨q, q1, rfl⟩ := Option.map_eq_some_iff.mp e
  exact (List.all_eq_true.mp h) q (List.mem_of_find?_eq_some q1)
theorem hits_run {A : Around} (I : Inv X pins σ H s) (r : RelS X.kw c m H) (hu : A.units + 64 < cLine) {eb : List (NestedKey × V × V)} {ys : List Ent} {kb : List (PyData × D)} (pb : Paired EntV eb ys) (rb : DctR X.kw H c eb kb) (ob : kb.all (fun q => okW m q.2) = true) :
    ∀ {ea : List (NestedKey × V × V)} {xs : List Ent} {ka : List (PyData × D)}, Paired EntV ea xs → ea.map (fun e => some e.1) = ka.map (fun q => nk q.1) → VDs X.kw H c (ea.map (·.2.2)) (ka.map (·.2)) → ka.all (fun q => okW m q.2) = true → Hit X.prog X.w A s ys xs (ka.all (hitD m kb))
  | _, _, [], .nil, _, _, _ => .nil
  | _, _, _ :: _, .nil, e, _, _ => by cases e
  | _, _, [], .cons _ _, e, _, _ => by cases e
  | _, _, q :: ka, .cons (a := e) (b := x) (l₁ := es) h t, ek, hv, ok => by
    simp only [List.map_cons, List.cons.injEq] at ek
    simp only [List.map_cons] at hv
    unfold VDs at hv
    obtain ⟨v, vs, e1, h1, h2⟩ := hv
    simp only [List.cons.injEq] at e1
    obtain ⟨rfl, rfl⟩ := e1
    simp only [List.all_cons, Bool.and_eq_true] at ok
    have ih := hits_run I r hu pb rb ob t ek.2 h2 ok.2
    have nkq : nk q.1 = some x.1 := by rw [← ek.1, h.1]
    rw [List.all_cons]
    unfold hitD
    rw [nkq]
    simp only
    cases hl : lkD kb x.1 with
    | none => exact Hit.miss (lk_none pb rb.key hl)
    | some d =>
      obtain ⟨v, u, k1, k2, k3⟩ := lk_some pb rb.key rb.vd hl
      exact Hit.hit k1 (eqW_run I r h1 k3 h.2.2 k2 ok.1 (lkD_ok ob hl) hu) ih
theorem Paired.len2 {α β : Type} {R : α → β → Prop} : ∀ {xs : List α} {ys : List β}, Paired R xs ys → xs.length = ys.length
  | _, _, .nil => rfl
  | _, _, .cons _ t => by rw [List.length_cons, List.length_cons, Paired.len2 t]
theorem DctR.lenK {es : List (NestedKey × V × V)} {ka : List (PyData × D)} (h : DctR X.kw H c es ka) : es.length = ka.length := by
  have := congrArg List.length h.key
  simpa using this
theorem op_eqDc (hu : X.A.units + 66 < cLine) : OpR X (compareOp .Eq) (rOf X.kw (eqDc false)) := by
  intro pins s σ H x y v u Q I rx ry h
  obtain ⟨c, m, dx, dy, r, h1, h2, w⟩ := h
  unfold eqDc at w
  split at w
  · rename_i ka kb ea eb
    split at w
    · rename_i hc
      obtain ⟨a, es, rfl, k1, k2⟩ := dctOf_ok r h1 ea
      obtain ⟨b, fs, rfl, j1, j2⟩ := dctOf_ok r h2 eb
      cases rx; cases ry
      obtain ⟨s1, xs, g1, p1⟩ := gd_at I k1 k2
      obtain ⟨s2, ys, g2, p2⟩ := gd_at I j1 j2
      refine eq_key s1 s2 g1 g2 (by omega) (fun _ => hits_run I r (by show X.A.units + 1 + 64 < _; omega) p2 j2 hc.2 p1 k2.key k2.vd hc.1) ?_
      rw [← Paired.len2 p1, ← Paired.len2 p2, k2.lenK, j2.lenK]
      exact ⟨.bl _, H, I, rfl, w.now r (VD.bl.mpr rfl)⟩
    · exact w.elim
  · exact w.elim
theorem op_neDc (hu : X.A.units + 66 < cLine) : OpR X (compareOp .NotEq) (rOf X.kw (eqDc true)) := by
  intro pins s σ H x y v u Q I rx ry h
  obtain ⟨c, m, dx, dy, r, h1, h2, w⟩ := h
  unfold eqDc at w
  split at w
  · rename_i ka kb ea eb
    split at w
    · rename_i hc
      obtain ⟨a, es, rfl, k1, k2⟩ := dctOf_ok r h1 ea
      obtain ⟨b, fs, rfl, j1, j2⟩ := dctOf_ok r h2 eb
      cases rx; cases ry
      obtain ⟨s1, xs, g1, p1⟩ := gd_at I k1 k2
      obtain ⟨s2, ys, g2, p2⟩ := gd_at I j1 j2
      refine ne_key s1 s2 g1 g2 (by omega) (fun _ => hits_run I r (by show X.A.units + 1 + 64 < _; omega) p2 j2 hc.2 p1 k2.key k2.vd hc.1) ?_
      rw [← Paired.len2 p1, ← Paired.len2 p2, k2.lenK, j2.lenK]
      exact ⟨.bl _, H, I, rfl, w.now r (VD.bl.mpr rfl)⟩
    · exact w.elim
  · exact w.elim
end
end L2.Dn
namespace L2.Dn
open PySem PySem.Spec PyProof.Rows L2
/-! ### ==, != of an instance of an own class with its own __eq__, and anything -/
theorem ne_sl : Slot "object" "__ne__" "object.__ne__" := Slot.of (owner := "object") (n := "__ne__") (by rw [typeLookup_type, builtinLookup_eq_fast]; kernel_rfl) (by decide +kernel) (by decide +kernel) (by decide +kernel) (.inl (by decide +kernel)) (by rw [isSubtype_type]; kernel_rfl)
section
open PySem.W
variable {prog : Program} {w : World} {A : Around} {E : Value → Shared → Prop} {s : Shared} {K : Frag} {x C L f : Addr} {h₀ : Heap} {m : Str → Option Value} {ox : Obj} {od : Option Obj} {name : Str} {b tb : Value}
theorem ifB_K {M : Model} {args : List Value} {id : String} {Q : Option Value → Shared → Prop} (X : K.In s.heap) (I : InstAt s.heap x ox C od) (hs : findIn K (.ref C) name = some (some (.builtin id))) (hf : ∀ self, bindSpecial (.builtin id) self = pure (.builtin id, [self]))
    (h : wpAny M A (call (.builtin id) (.ref x :: args)) (fun v => Q (some v)) E s) : wpAny M A (callSpecialIfBound? (.ref x) name args) Q E s := by
  simp only [callSpecialIfBound?, bindSpecialIfBound?]
  refine wpAny_holding (wpAny_bind (wpAny_bind (wpAny_bind (I.type.here ((looks_findIn X hs).here (wpAny_bind (wpAny_askSetting (wpAny_ite ?_))))))))
  have fin : wpAny M A (call (.builtin id) ([.ref x] ++ args) >>= fun v => pure (some v)) Q E s := wpAny_bind (thn h fun v s' h' => wpAny_pure h')
  split
  · rw [hf]; exact wpAny_bind (wpAny_pure (wpAny_pure (by exact fin)))
  · rw [hf]; exact wpAny_tryCatch (wpAny_bind (wpAny_pure (wpAny_pure (by exact fin))))
theorem ne_body {Q : Fin → Shared → Prop} (hu : A.units < cLine) (X : K.In s.heap) (I : InstAt s.heap x ox C od) (he : findIn K (.ref C) "__eq__" = some (some (.ref f))) (hf : isFn K (.ref f) = true)
    (h : wpAny (model prog w) A (call (.ref f) [.ref x, b]) (fun v s' => ∃ k, v = .bool k ∧ Q (.done (.ret (.bool (!k)))) s') E s) : wpAny (model prog w) A (Builtin.«object.__ne__» ⟨[.ref x, b], []⟩) Q E s := by
  unfold Builtin.«object.__ne__»
  refine wpAny_bind (wpAny_pure (wpAny_bind (wpAny_cRoomFor hu (wpAny_bind (ifBound_K X I he hf (thn h ?_))))))
  rintro v s' ⟨k, rfl, q⟩
  exact wpAny_bind (wpAny_truthy_bool (wpAny_pure q))
theorem ne_K {Q : Value → Shared → Prop} (hu : A.units + 1 < cLine) (F : Fr h₀ L s.heap m) (X₀ : K.In h₀) (I : InstAt s.heap x ox C od) (hb : Looks (model prog w) s.heap (typeOf b) tb) (hn : notFirst K C tb = true)
    (he : findIn K (.ref C) "__eq__" = some (some (.ref f))) (hf : isFn K (.ref f) = true) (hne : findIn K (.ref C) "__ne__" = some (some (.builtin "object.__ne__"))) (ho : subIn K (.ref C) (.type "object") = some true)
    (h : wpAny (model prog w) A.in1 (call (.ref f) [.ref x, b]) (fun v s' => ∃ k, v = .bool k ∧ Q (.bool (!k)) s') E s) : wpAny (model prog w) A (richCompare .NotEq (.ref x) b) Q E s := by
  have X := X₀.keeps F.keep
  have one : wpAny (model prog w) A (tryCompare (.ref x) "__ne__" b) (fun r s' => ∃ k, r = some (.bool k) ∧ Q (.bool k) s') E s := by
    unfold tryCompare
    refine wpAny_bind (ifB_K X I hne ne_sl.bind (wpAny_call (codeAny_call_builtin ne_sl.plain PySem.F.cmpEntry_ne (check_slot PySem.F.cmpKind_ne PySem.F.cmpSplit_ne (I.type.andThen (looks_subIn X ho)) (PySem.F.cmpArgs_ne _ _) (ne_body (A := A.in1) hu X I he hf (thn h ?_))))))
    rintro v s' ⟨k, rfl, q⟩
    exact ⟨k, rfl, wpAny_pure ⟨_, rfl, q⟩⟩
  unfold richCompare
  simp only [oneThing_ref]
  refine wpAny_holding (wpAny_bind (wpAny_cRoomFor (by omega) (wpAny_bind (I.type.here (wpAny_bind (hb.here ?_))))))
  split
  · rename_i q
    have e : subIn K tb (.ref C) = some false := by
      rcases Bool.or_eq_true_iff.mp hn with e | e
      · rw [beq_iff_eq.mp e] at q; simp at q
      · exact beq_iff_eq.mp e
    refine wpAny_bind ((looks_subIn X e).here ?_)
    simp only [Bool.false_eq_true, if_false]
    refine wpAny_bind (thn one ?_)
    rintro r s' ⟨k, rfl, hq⟩
    exact wpAny_pure hq
  · refine wpAny_bind (wpAny_pure ?_)
    simp only [Bool.false_eq_true, if_false]
    refine wpAny_bind (thn one ?_)
    rintro r s' ⟨k, rfl, hq⟩
    exact wpAny_pure hq
end
/-- the class, its __eq__, no own __ne__, no built-in type under it -/
def EqU (X : Cx) (q : Str × Den) : Prop := ∃ (Ca g : Addr) (fd : FuncData) (ps : List Str) (k : Nat), X.mg q.1 = some (.ref Ca) ∧ PySem.W.findIn X.K (.ref Ca) "__eq__" = some (some (.ref g)) ∧ PySem.W.isFn X.K (.ref g) = true ∧ PySem.W.findIn X.K (.ref Ca) "__ne__" = some (some (.builtin "object.__ne__")) ∧
  PySem.W.subIn X.K (.ref Ca) (.type "object") = some true ∧ (∀ t ∈ ["NoneType", "bool", "int", "str", "list", "tuple", "dict"], PySem.W.subIn X.K (.type t) (.ref Ca) = some false) ∧ FnG X.prog X.w X.K X.mg X.base k g fd ps (spD X.kw.cold 2 q.2) ∧ Room (k + 1) X.A ∧ Binds X.K fd ps []
def notR : OD → OD
  | some (.p (.bool b), m) => some (.p (.bool (!b)), m)
  | _ => none
/-- y is of the class, or of a built-in type -/
def eqY (C : Str) (y : D) (m : Store) : Bool := match insN y m with
  | some (C', _) => C = C'
  | none => (tyN y m).isSome
def eqI (l : List (Str × Den)) (x y : D) (m : Store) : OD := match insN x m with
  | some (C, _) => if eqY C y m then (match l.lookup C with
    | some den => blR (callR den [x, y] m)
    | none => none) else none
  | none => none
def eqIN (neg : Bool) (l : List (Str × Den)) (x y : D) (m : Store) : OD := if neg then notR (eqI l x y m) else eqI l x y m
section
variable {X : Cx} {c : Anc} {m : Store} {σ : St} {H : Hp} {l : List (Str × Den)} {pins : List (Addr × Obj)} {s : Shared}
theorem run_gA {A : Around} {k : Nat} {fn : Addr} {fd : FuncData} {ps : List Str} {sp : Sp} {Q : VK} {us : List Value} {vs : List V} (F : FnG X.prog X.w X.K X.mg X.base k fn fd ps sp) (hG : A.guards = some []) (hr : Room k A) (hf : A.frames = X.A.frames) (hb : Binds X.K fd ps [])
    (I : Inv X pins σ H s) (r : Vals vs us) (h : sp vs H Q (L2.WE Wno σ)) : wpAny (model X.prog X.w) A (call (.ref fn) us) (EP X pins σ Q) X.xe s := by
  have hl : us.length = ps.length := by rw [← r.length]; exact F.len _ _ _ _ h
  have bd := hb s us I.kIn (by rw [List.append_nil]; exact hl)
  rw [List.append_nil] at bd
  have e0 : Env0 X.prog X.w X.K X.mg X.base A X.stack s H := by
    have e := I.env0
    exact { e with frames := by rw [hf]; exact e.frames }
  refine wpAny_call (codeAny_mono (F.go A X.stack s H ⟨us, []⟩ us vs Q (L2.WE Wno σ) hG hr e0 bd r h) fun out s' q => ?_)
  match out, q with
  | .error e, q => exact passAt takes0 σ pins H s e s' I q
  | .ok (.ret u), q => exact I.after q
/-- what a comparison starts from -/
theorem eqY_ty {C : Str} {Ca : Addr} {y : D} {v : V} {u : Value} (I : Inv X pins σ H s) (r : RelS X.kw c m H) (hC : X.mg C = some (.ref Ca)) (hs : ∀ t ∈ ["NoneType", "bool", "int", "str", "list", "tuple", "dict"], PySem.W.subIn X.K (.type t) (.ref Ca) = some false)
    (hv : VD X.kw H c v y) (rv : RelV v u) (e : eqY C y m = true) : ∃ tb, PySem.W.Looks (model X.prog X.w) s.heap (typeOf u) tb ∧ PySem.W.notFirst X.K Ca tb = true := by
  unfold eqY at e
  cases q : insN y m with
  | some p =>
    obtain ⟨C', ns⟩ := p
    rw [q] at e
    have e : C = C' := by simpa using e
    subst e
    obtain ⟨b, Cb, db, gs, rfl, j1, j2, _⟩ := insN_rd r hv q
    have e4 := j1.symm.trans hC
    cases e4
    cases rv
    obtain ⟨ox', od', J', hd'⟩ := rd_inst I j2
    exact ⟨_, J'.type, by simp [PySem.W.notFirst]⟩
  | none =>
    rw [q] at e
    obtain ⟨t, ht⟩ := Option.isSome_iff_exists.mp e
    obtain ⟨P, Z, p, _⟩ := kitG I rv (tyN_ok r hv ht)
    refine ⟨_, Z.ty _ _ I.kIn p, ?_⟩
    simp [PySem.W.notFirst, hs t (tyN_mem ht)]
theorem op_eqI (hG : X.A.guards = some []) (hl : ∀ q ∈ l, EqU X q) : OpR X (compareOp .Eq) (rOf X.kw (eqIN false l)) := by
  intro pins s σ H x y v u Q I rx ry hq
  obtain ⟨c, m, dx, dy, r, h1, h2, w⟩ := hq
  show wpAny (model X.prog X.w) X.A (richCompare .Eq v u) (EP X pins σ Q) X.xe s
  have w : WantO X.kw c H (eqI l dx dy m) Q := w
  unfold eqI at w
  split at w
  · rename_i C ns e1
    split at w
    · rename_i ey
      cases q : l.lookup C with
      | none => rw [q] at w; exact w.elim
      | some den =>
        rw [q] at w
        obtain ⟨a, Ca, da, fs, rfl, k1, k2, _⟩ := insN_rd r h1 e1
        obtain ⟨Cc, g, fd, ps, k, t1, t2, t3, t4, t4', t4'', t5, t6, t7⟩ := hl (C, den) (lookup_memA q)
        have e3 := k1.symm.trans t1
        cases e3
        cases rx
        obtain ⟨tb, b1, b2⟩ := eqY_ty I r t1 t4'' h2 ry ey
        obtain ⟨ox, od, J, hd⟩ := rd_inst I k2
        obtain ⟨mm, hF⟩ := I.fr
        refine PySem.W.cmp_K (op := .Eq) (tb := tb) t6.units0 hF I.ok.mod.kin J b1 b2 t2 t3 ?_
        have sp := callR_sp (W := Wno) (ds := [dx, dy]) (vs := [.ref a, y]) (n := 2) r (by unfold VDs; exact ⟨_, _, rfl, h1, VDs.one h2⟩) rfl (blR_want (σ := σ) w)
        have rvs : Vals [V.ref a, y] [Value.ref a, u] := .cons rfl (.cons ry .nil)
        refine thn (run_g t5 hG (t6.mono (by omega)) t7 takes0 I rvs sp) ?_
        rintro z s' ⟨vz, H', I', rz, ⟨bz, rfl⟩, qz⟩
        cases rz
        exact ⟨.bl bz, H', I', rfl, qz⟩
    · exact w.elim
  · exact w.elim
theorem notR_want {r : Res D} {Q : VK} (w : WantO X.kw c H (notR (blR r)) Q) : Want X Wno c H σ r (fun v H' => ∃ b, v = .bl b ∧ Q (.bl (!b)) H') := by
  unfold blR at w
  split at w
  · exact fun c' v H' g hv => ⟨_, VD.bl.mp hv, w c' _ H' g (VD.bl.mpr rfl)⟩
  · exact w.elim
theorem op_neI (hG : X.A.guards = some []) (hl : ∀ q ∈ l, EqU X q) : OpR X (compareOp .NotEq) (rOf X.kw (eqIN true l)) := by
  intro pins s σ H x y v u Q I rx ry hq
  obtain ⟨c, m, dx, dy, r, h1, h2, w⟩ := hq
  show wpAny (model X.prog X.w) X.A (richCompare .NotEq v u) (EP X pins σ Q) X.xe s
  have w : WantO X.kw c H (notR (eqI l dx dy m)) Q := w
  unfold eqI at w
  split at w
  · rename_i C ns e1
    split at w
    · rename_i ey
      cases q : l.lookup C with
      | none => rw [q] at w; exact w.elim
      | some den =>
        rw [q] at w
        obtain ⟨a, Ca, da, fs, rfl, k1, k2, _⟩ := insN_rd r h1 e1
        obtain ⟨Cc, g, fd, ps, k, t1, t2, t3, t4, t4', t4'', t5, t6, t7⟩ := hl (C, den) (lookup_memA q)
        have e3 := k1.symm.trans t1
        cases e3
        cases rx
        obtain ⟨tb, b1, b2⟩ := eqY_ty I r t1 t4'' h2 ry ey
        obtain ⟨ox, od, J, hd⟩ := rd_inst I k2
        obtain ⟨mm, hF⟩ := I.fr
        refine ne_K (tb := tb) (by have := t6.un; omega) hF I.ok.mod.kin J b1 b2 t2 t3 t4 t4' ?_
        have sp := callR_sp (W := Wno) (ds := [dx, dy]) (vs := [.ref a, y]) (n := 2) r (by unfold VDs; exact ⟨_, _, rfl, h1, VDs.one h2⟩) rfl (notR_want (σ := σ) w)
        have rvs : Vals [V.ref a, y] [Value.ref a, u] := .cons rfl (.cons ry .nil)
        refine thn (run_gA (A := X.A.in1) t5 hG t6.in1 rfl t7 I rvs sp) ?_
        rintro z s' ⟨vz, H', I', rz, bz, rfl, qz⟩
        cases rz
        exact ⟨bz, rfl, .bl (!bz), H', I', rfl, qz⟩
    · exact w.elim
  · exact w.elim
end
/-! ### == and != of all kinds -/
def eqH (neg : Bool) (l : List (Str × Den)) := altO (eqG neg) (altO (eqDc neg) (eqIN neg l))
section
variable {X : Cx} {l : List (Str × Den)}
theorem op_eqH (hu : X.A.units + 66 < cLine) (hG : X.A.guards = some []) (hl : ∀ q ∈ l, EqU X q) : OpR X (compareOp .Eq) (rOf X.kw (eqH false l)) := OpR.alt (op_eqG' (by omega)) (OpR.alt (op_eqDc hu) (op_eqI hG hl))
theorem op_neH (hu : X.A.units + 66 < cLine) (hG : X.A.guards = some []) (hl : ∀ q ∈ l, EqU X q) : OpR X (compareOp .NotEq) (rOf X.kw (eqH true l)) := OpR.alt (op_neG' (by omega)) (OpR.alt (op_neDc hu) (op_neI hG hl))
theorem u66 {k : Nat} {A : Around} (hr : Room k A) : A.units + 66 < cLine := by have := hr.un; omega
end
end L2.Dn
namespace L2.Dn
open PySem PySem.Spec PyProof.Rows L2
/-! ### what is walked while it is held: under two locks, so that no datum leans on it -/
def twice : HO → Bool
  | .frz _ (.frz _ _) => true
  | _ => false
/-- all that stays, but for what is held -/
def ExtX (H H' : Hp) : Prop := ∀ b u, liveO u = false → twice u = false → H b = some u → H' b = some u
theorem FzL.extX {K : PySem.W.Frag} {H H' : Hp} {a : Addr} {xs : List V} (h : FzL K H a xs) (e : ExtX H H') : FzL K H' a xs := by
  rcases h with ⟨o, h⟩ | h
  · exact .inl ⟨o, e _ _ rfl rfl h⟩
  · exact .inr h
theorem SqT.extX {K : PySem.W.Frag} {H H' : Hp} {a : Addr} {xs : List V} (h : SqT K H a xs) (e : ExtX H H') : SqT K H' a xs := by
  rcases h with (h | ⟨o, h⟩) | h
  · exact .inl (.inl (e _ _ rfl rfl h))
  · exact .inl (.inr ⟨o, e _ _ rfl rfl h⟩)
  · exact .inr h
mutual
theorem DpZ.extX {K : KW} {H H' : Hp} (e : ExtX H H') : ∀ {v : V} {d : PyData}, DpZ K H v d → DpZ K H' v d
  | _, _, .non => .non
  | _, _, .bl b => .bl b
  | _, _, .int i => .int i
  | _, _, .str x => .str x
  | _, _, .lst h r => .lst (h.extX e) (DpZs.extX e r)
  | _, _, .tup h r => .tup (SqT.extX h e) (DpZs.extX e r)
  | _, _, .dG h q h8 hn r r' => .dG (e _ _ rfl rfl h) q h8 hn (DpZs.extX e r) (DpZs.extX e r')
theorem DpZs.extX {K : KW} {H H' : Hp} (e : ExtX H H') : ∀ {vs : List V} {ds : List PyData}, DpZs K H vs ds → DpZs K H' vs ds
  | _, _, .nil => .nil
  | _, _, .cons h r => .cons (DpZ.extX e h) (DpZs.extX e r)
end
theorem DctK.extX {K : KW} {H H' : Hp} {es : List (NestedKey × V × V)} {ks : List PyData} (r : DctK K H es ks) (e : ExtX H H') : DctK K H' es ks := ⟨r.key, r.dp, r.nd, r.kd.extX e⟩
mutual
theorem VD.monoX {K : KW} {H H' : Hp} {c : Anc} (e : ExtX H H') : ∀ {v : V} (d : D), VD K H c v d → VD K H' c v d
  | v, .p d, r => by unfold VD at r ⊢; exact DpZ.extX e r
  | v, .cell i, r => by unfold VD at r ⊢; exact r
  | v, .tup xs, r => by
    unfold VD at r ⊢
    obtain ⟨a, vs, h1, h2, h3⟩ := r
    exact ⟨a, vs, h1, SqT.extX h2 e, VDs.monoX e xs h3⟩
  | v, .lst xs, r => by
    unfold VD at r ⊢
    obtain ⟨a, vs, h1, h2, h3⟩ := r
    exact ⟨a, vs, h1, h2.extX e, VDs.monoX e xs h3⟩
  | v, .dct ks xs, r => by
    unfold VD at r ⊢
    obtain ⟨a, o, es, h1, h2, h3, h4⟩ := r
    exact ⟨a, o, es, h1, e _ _ rfl rfl h2, h3.extX e, VDs.monoX e xs h4⟩
  | v, .obj C ns xs, r => by
    unfold VD at r ⊢
    obtain ⟨a, o, Ca, dx, fs, h1, h2, h3, h4, h5⟩ := r
    exact ⟨a, o, Ca, dx, fs, h1, h2, e _ _ rfl rfl h3, h4, VDs.monoX e xs h5⟩
  | v, .exn C ns xs, r => by
    unfold VD at r ⊢
    obtain ⟨a, oe, Ca, d, fs, h1, h2, h3, h4, h5, h6, h7⟩ := r
    refine ⟨a, oe, Ca, d, fs, h1, h2, h3, h4, h5, h6.imp id ?_, VDs.monoX e xs h7⟩
    rintro ⟨dx, q1, q2, q3⟩
    exact ⟨dx, q1, e _ _ rfl rfl q2, q3⟩
  | v, .fn x, r => by unfold VD at r ⊢; exact r
  | v, .ty n, r => by unfold VD at r ⊢; exact r
  | v, .opq, r => by unfold VD at r ⊢; exact r
theorem VDs.monoX {K : KW} {H H' : Hp} {c : Anc} (e : ExtX H H') : ∀ {vs : List V} (ds : List D), VDs K H c vs ds → VDs K H' c vs ds
  | vs, [], r => by unfold VDs at r ⊢; exact r
  | vs, d :: ds, r => by
    unfold VDs at r ⊢
    obtain ⟨v, q, h1, h2, h3⟩ := r
    exact ⟨v, q, h1, VD.monoX e d h2, VDs.monoX e ds h3⟩
end
theorem DctR.monoX {K : KW} {H H' : Hp} {c : Anc} {es : List (NestedKey × V × V)} {kvs : List (PyData × D)} (r : DctR K H c es kvs) (e : ExtX H H') : DctR K H' c es kvs := ⟨r.key, r.dp, r.nd, r.kd.extX e, VDs.monoX e _ r.vd⟩
theorem Slo.monoX {K : KW} {H H' : Hp} {c : Anc} {ρ : Rho} {σ : St} (s : Slo K H c ρ σ) (e : ExtX H H') : Slo K H' c ρ σ := ⟨s.1, fun i d q => let ⟨v, h1, h2⟩ := s.2 i d q; ⟨v, h1, VD.monoX e d h2⟩⟩
section
variable {K : KW} {c c' : Anc} {m m2 : Store} {H H2 : Hp} {i : Ix} {a : Addr} {u : HO} {x0 : Cell} {o : Obj}
theorem extX_drop (h : H a = some (.frz o (.frz o u))) : ExtX H (upd H a u) := fun b w l t e => by
  rw [upd_ne (fun z => by rw [z, h] at e; cases e; cases t)]; exact e
theorem RelS.hold (r : RelS K c m H) (hi : c.at_ i = some a) (hm : m.at_ i = some x0) (lx : x0 ≠ .gone) (ha : H a = some u) (lu : liveO u = true) : Gd K c c (m.set .gone i) H (upd H a (.frz o (.frz o u))) := r.putC hi hm lx ha lu ⟨_, _, upd_same⟩
theorem Gd.thaw (r : RelS K c m H) (hi : c.at_ i = some a) (hm : m.at_ i = some x0) (ha : H a = some u) (lu : liveO u = true) (g : Gd K c c' m2 (upd H a (.frz o (.frz o u))) H2) (hg : m2.at_ i = some .gone) : Gd K c c' (m2.set x0 i) H (upd H2 a u) := by
  have h2 : H2 a = some (.frz o (.frz o u)) := g.ext _ _ rfl upd_same
  have ex : Ext H (upd H2 a u) := fun b w l e => by
    have ne : b ≠ a := fun z => by rw [z, ha] at e; cases e; rw [lu] at l; cases l
    rw [upd_ne ne]
    exact g.ext b w l (by rw [upd_ne ne]; exact e)
  have hi' := pre_get g.pre hi
  refine ⟨g.pre, ex, fun b hb => (g.new b hb).imp id fun e => ?_, fun b w hb e => ?_, ?_, g.rel.inj, fun j b x h1 hx => ?_⟩
  · by_cases z : b = a
    · rw [z, upd_same] at e; cases e
    · rw [upd_ne z] at e; exact e
  · have ne : b ≠ a := fun z => hb ⟨i, by rw [z]; exact hi⟩
    rw [upd_ne ne]
    exact g.frame b w hb (by rw [upd_ne ne]; exact e)
  · rw [(set_len m2 x0 i).1, (set_len m2 x0 i).2]; exact g.rel.len
  · rcases set_split hx with ⟨p1, p2⟩ | ⟨p1, p2⟩
    · subst p1 p2
      rw [hi'] at h1
      cases h1
      exact (r.at_ j a x hi hm).mono ex (forI_pre g.pre j) fun w _ e => by rw [upd_same, ← e, ha]
    · have ne : b ≠ a := fun z => p1 (g.rel.inj j i a (z ▸ h1) hi')
      have q := g.rel.at_ j b x h1 p2
      have eX := extX_drop h2
      cases x with
      | lst ds => obtain ⟨xs, e, hv⟩ := q; exact ⟨xs, by rw [upd_ne ne]; exact e, VDs.monoX eX _ hv⟩
      | dct kvs => obtain ⟨es, e, hv⟩ := q; exact ⟨es, by rw [upd_ne ne]; exact e, hv.monoX eX⟩
      | ins C fs => obtain ⟨Ca, dx, vs, e, e1, e2, hv⟩ := q; exact ⟨Ca, dx, vs, by rw [upd_ne ne]; exact e, e1, e2, VDs.monoX eX _ hv⟩
      | gone => obtain ⟨o, u, e⟩ := q; exact ⟨o, u, by rw [upd_ne ne]; exact e⟩
end
section
variable {X : Cx} {pins : List (Addr × Obj)} {σ : St} {H : Hp} {s : Shared} {a : Addr} {u : HO}
theorem _root_.L2.Inv.hold (I : Inv X pins σ H s) (h : H a = some u) (mu : Mut (some u)) : ∃ o, Inv X pins σ (upd H a (.frz o (.frz o u))) s := by
  obtain ⟨o, I1⟩ := I.lock h mu
  have z := I1.hok a _ upd_same
  refine ⟨o, I.write (x := a) (e := a) (t' := s.toks) (h' := s.heap) (by rw [h]; exact mu) (.inl rfl) (fun b v _ q => q) ⟨o, z.1⟩ ⟨z.1, z.1, (I.hok a u h).stay (fun b v _ q => q) (fun b q => ?_) fun b xs q => ?_⟩⟩
  all_goals (rw [upd_ne (fun z => by rw [z, h] at q; cases q; exact mu)]; exact q)
theorem _root_.L2.Inv.drop2 {o : Obj} (I : Inv X pins σ H s) (h : H a = some (.frz o (.frz o u))) (hn : ∀ o' u', X.H_0 a ≠ some (.frz o' u')) : Inv X pins σ (upd H a u) s := by
  have I2 := (I.unlock h hn).unlock upd_same hn
  rw [upd_upd] at I2
  exact I2
end
/-! ### the turns of a held list -/
def ItlH (a : Addr) (o : Obj) (xs : List V) : It := ⟨fun i H => (∃ u, H a = some (.frz o u)) ∧ ∃ x, xs[i]? = some x, fun i H x H' => H' = H ∧ xs[i]? = some x, fun i H => (∃ u, H a = some (.frz o u)) ∧ xs.length ≤ i⟩
theorem turn_listH {P : Program} {w : World} {K : PySem.W.Frag} {tg : Expr} {a : Addr} {o : Obj} {xs : List V} {its : List Value} {n : Nat} (it : Addr) (ho : o = { cls := .type "list", data := .seq its.toArray n }) (rv : Vals xs its) :
    Turn P w K tg (ItlH a o xs) [it] it (fun i h => h.IsListIter it a i) where
  mem := List.mem_singleton.mpr rfl
  obj := fun i h st b hb => by
    obtain rfl := List.mem_singleton.mp hb
    obtain ⟨oi, e1, _, e2⟩ := st
    exact ⟨oi, e1, fun v z => nomatch (e2.symm.trans z)⟩
  keep := fun i h h' st k => st.at fun oi e => k it (List.mem_singleton.mpr rfl) oi e
  item := by
    intro X hP hw hK hc i pins s σ H E I hf st hg
    cases hP; cases hw; cases hK
    obtain ⟨⟨u0, q1⟩, x, q2⟩ := hg
    obtain ⟨f0, f1, f2, f3, f4, f5⟩ := hf it (List.mem_singleton.mpr rfl)
    have ha : s.heap.get? a = some o := (I.hok a _ q1).1
    rw [ho] at ha
    obtain ⟨v, hv, r⟩ := rv.get q2
    refine wpAny_pyNext_list_item st ⟨_, ha, rfl, ⟨_, rfl⟩⟩ (x := v) (by simpa using hv) fun h1 i1 sb => ?_
    have J : Inv X pins σ H { s with heap := h1 } := I.turned (t' := s.toks) (fun b ob hb e => (sb.2 b hb).trans e) f0 f1 f3 f4 f5
    obtain ⟨oi, e1, e2, e3⟩ := id i1
    exact ⟨_, rfl, go_of (s := { s with heap := h1 }) e1 e2 e3 (by decide) ⟨x, H, J, r, ⟨rfl, q2⟩, i1, fun b hb => (hf b hb).1⟩⟩
  done := by
    intro X hP hw hK hc i pins s σ H E I hf st hg
    cases hP; cases hw; cases hK
    obtain ⟨⟨u0, q1⟩, q2⟩ := hg
    obtain ⟨f0, f1, f2, f3, f4, f5⟩ := hf it (List.mem_singleton.mpr rfl)
    have ha : s.heap.get? a = some o := (I.hok a _ q1).1
    rw [ho] at ha
    have hl := rv.length
    exact wpAny_pyNext_list_end (I.ok.hd hc) st ⟨_, ha, rfl, ⟨_, rfl⟩⟩ (by simp; omega) fun h1 eb => ⟨rfl, I.turned (t' := s.toks) (fun b ob hb e => eb b ob hb e) f0 f1 f3 f4 f5⟩
  self := fun A i s Q E st h => wpAny_pyIter_listiter st h
end L2.Dn
namespace L2.Dn
open PySem PySem.Spec PyProof.Rows L2
/-! ### loops and comprehensions over a variable's own list or dict -/
inductive Hk where
  | walk
  | items
  | values
def heldL : Hk → Cell → Option (List D)
  | .walk, .dct kvs => some ((kvs.map (·.1)).map D.p)
  | .items, .dct kvs => some (prs (kvs.map (·.1)) (kvs.map (·.2)))
  | .values, .dct kvs => some (kvs.map (·.2))
  | .walk, .lst xs => some xs
  | _, _ => none
def HeldC (K : KW) (H : Hp) (c : Anc) (a : Addr) (u : HO) : Cell → Prop
  | .lst xs => ∃ vs, u = .lst vs ∧ VDs K H c vs xs
  | .dct kvs => ∃ es, u = gdO K.w a es ∧ DctR K H c es kvs
  | _ => False
def HeldI (X : Cx) (W : WX) (k : Hk) (j : Nat) (tg iter : Expr) : Prop := ∀ (c : Anc) (ρ : Rho) (m : Store) (σ : St) (H : Hp) (i : Ix) (a : Addr) (o : Obj) (u : HO) (x : Cell) (ds : List D) (R : It → Hp → Prop), RelS X.kw c m H → Slo X.kw H c ρ σ → ρ[j]? = some (some (.cell i)) → c.at_ i = some a →
  H a = some (.frz o (.frz o u)) → HeldC X.kw H c a u x → heldL k x = some ds → WantI X W c H σ (.ok ds m) R → WI X tg iter σ H R
/-- held, or as it is -/
def heldO (k : Hk) (j : Nat) (ρ : Rho) (m : Store) : Option (Ix × Cell × List D) := match ρ[j]? with
  | some (some (.cell i)) => match m.at_ i with
    | some x => (heldL k x).map fun ds => (i, x, ds)
    | none => none
  | _ => none
def undoR (i : Ix) (x : Cell) : Res D → Res D
  | .ok d m => match m.at_ i with
    | some .gone => .ok d (m.set x i)
    | _ => .stuck
  | r => r
def undoS (i : Ix) (x : Cell) : SRes → SRes
  | .nx ρ m => match m.at_ i with
    | some .gone => .nx ρ (m.set x i)
    | _ => .stuck
  | .rt d m => match m.at_ i with
    | some .gone => .rt d (m.set x i)
    | _ => .stuck
  | .exc x ρ m => .exc x ρ m
  | _ => .stuck
def lcH (k : Hk) (j : Nat) (z : Md) (vs : List Nat) (fi : FI) (g : D → Rho → Option Rho) (t : Rho → Store → Res Bool) (fe : FE) : FE := fun ρ m => match heldO k j ρ m with
  | some (i, x, ds) => undoR i x (lcE z vs (fun _ m => .ok ds m) g t fe ρ (m.set .gone i))
  | none => lcE z vs fi g t fe ρ m
def forH (k : Hk) (j : Nat) (fi : FI) (g : FG) (body : FS) : FS := fun ρ m => match heldO k j ρ m with
  | some (i, x, ds) => undoS i x (forE (fun _ m => .ok ds m) g body ρ (m.set .gone i))
  | none => forE fi g body ρ m
section
variable {X : Cx} {W : WX} {a b e tg iter elt : Expr} {ifs : List Expr} {scope : Scope} {own : List (Str × Nat)} {fa fb f fe : FE} {ft : Rho → Store → Res Bool} {pos p : Pos} {c c' : Anc} {ρ : Rho} {m m' : Store} {σ : St} {H H' : Hp} {fi : FI} {k : Hk} {j : Nat} {En : Ends} {body : List Stmt} {gb : FS}
theorem DctR.toK {K : KW} {es : List (NestedKey × V × V)} {kvs : List (PyData × D)} (h : DctR K H c es kvs) : DctK K H es (kvs.map (·.1)) := ⟨by rw [h.key, List.map_map]; rfl, h.dp, h.nd, h.kd⟩
theorem cell_at {i : Ix} {a0 a1 : Addr} {c c1 : Anc} (p : Pre c c1) (h : c.at_ i = some a0) (h1 : c1.at_ i = some a1) : a1 = a0 := Option.some.inj (h1.symm.trans (pre_get p h))
theorem vE_at {i : Ix} (h : ρ[j]? = some (some (.cell i))) : vE j ρ m = .ok (.cell i) m := by unfold vE; rw [h]
theorem held_items {elts : List Expr} {kk : Nat} {apos tpos : Pos} (h : DE X W e (vE j)) (hbase : attributeBase e "items" X.env (eval e X.env) = eval e X.env := by rfl) (hline : (apos.endLine == pos.line) = true := by rfl) :
    HeldI X W .items j (.Tuple elts kk tpos) (.Call (.Attribute e "items" apos) [] [] pos) := fun c ρ m σ H i a o u x ds R r s hj hi ha hc hl w => by
  refine wi_of (pi_Ig pe_w hbase hline) (h c ρ m σ H _ r s ?_)
  rw [vE_at hj]
  intro c1 v H1 g hv
  unfold VD at hv
  obtain ⟨a1, k1, rfl⟩ := hv
  obtain rfl := cell_at g.pre hi k1
  cases x with
  | dct kvs =>
    obtain ⟨es, rfl, q⟩ := hc
    cases hl
    exact ⟨a1, o, true, es, rfl, g.ext _ _ rfl ha, w c1 _ H1 g (itd_Ig (b := true) (g.ext _ _ rfl ha) (q.toK.ext g.ext) (g.vds q.vd))⟩
  | _ => cases hl
theorem held_values {apos : Pos} (h : DE X W e (vE j)) (hbase : attributeBase e "values" X.env (eval e X.env) = eval e X.env := by rfl) (hline : (apos.endLine == pos.line) = true := by rfl) :
    HeldI X W .values j tg (.Call (.Attribute e "values" apos) [] [] pos) := fun c ρ m σ H i a o u x ds R r s hj hi ha hc hl w => by
  refine wi_of (pi_Vg pe_w hbase hline) (h c ρ m σ H _ r s ?_)
  rw [vE_at hj]
  intro c1 v H1 g hv
  unfold VD at hv
  obtain ⟨a1, k1, rfl⟩ := hv
  obtain rfl := cell_at g.pre hi k1
  cases x with
  | dct kvs =>
    obtain ⟨es, rfl, q⟩ := hc
    cases hl
    exact ⟨a1, o, true, es, rfl, g.ext _ _ rfl ha, w c1 _ H1 g (itd_Vg (b := true) (g.ext _ _ rfl ha) (g.vds q.vd))⟩
  | _ => cases hl
def iLH (td : TE) : TI := fun σ H R => td σ H fun x H1 => ∃ d o xs, x = .ref d ∧ H1 d = some (.frz o (.frz o (.lst xs))) ∧ R (ItlH d o xs) H1
theorem pi_LH {td : TE} (he : PE X e td) : PI X tg e (iLH td) := by
  refine ⟨fun pins s σ H R I h => thn (he.run pins s σ H _ I h) ?_⟩
  rintro u s1 ⟨x, H1, J, rx, d, o, xs, rfl, q1, q2⟩
  cases rx
  obtain ⟨z1, z2⟩ := J.hok d _ q1
  obtain ⟨z3, z4, its, n, z5, z6⟩ := z2
  rw [z1] at z6
  cases z6
  refine wpAny_pyIter_list ⟨_, z1, rfl, ⟨_, rfl⟩⟩ (pi_one (tk := s1.toks) J _ (turn_listH _ rfl z5) ⟨_, Heap.get?_push_size _ rfl, rfl, rfl⟩ q2)
theorem itd_LH {K : KW} {a : Addr} {o : Obj} {u : HO} {vs : List V} {ds : List D} (ha : H a = some (.frz o u)) (hv : VDs K H c vs ds) : ItD K c H (ItlH a o vs) ds := fun c' m' H' p ex r i => by
  have f := ex _ _ rfl ha
  have hv' := VDs.mono ex p _ hv
  refine ⟨fun d e => ?_, fun hl => ⟨⟨u, f⟩, by rw [hv.length]; exact hl⟩⟩
  obtain ⟨v, h1, h2⟩ := hv'.get e
  refine ⟨⟨⟨u, f⟩, v, h1⟩, fun x H'' y => ?_⟩
  obtain ⟨rfl, y⟩ := y
  exact ⟨Gd.refl r, fun _ _ e => e, hv'.at_ e y⟩
theorem held_walk (h : DE X W e (vE j)) : HeldI X W .walk j tg e := fun c ρ m σ H i a o u x ds R r s hj hi ha hc hl w => by
  cases x with
  | dct kvs =>
    refine wi_of (pi_Kg pe_w) (h c ρ m σ H _ r s ?_)
    rw [vE_at hj]
    intro c1 v H1 g hv
    unfold VD at hv
    obtain ⟨a1, k1, rfl⟩ := hv
    obtain rfl := cell_at g.pre hi k1
    obtain ⟨es, rfl, q⟩ := hc
    cases hl
    exact ⟨a1, o, true, es, rfl, g.ext _ _ rfl ha, w c1 _ H1 g (itd_Kg (b := true) (g.ext _ _ rfl ha) (q.toK.ext g.ext))⟩
  | lst xs =>
    refine wi_of (pi_LH pe_w) (h c ρ m σ H _ r s ?_)
    rw [vE_at hj]
    intro c1 v H1 g hv
    unfold VD at hv
    obtain ⟨a1, k1, rfl⟩ := hv
    obtain rfl := cell_at g.pre hi k1
    obtain ⟨vs, rfl, q⟩ := hc
    cases hl
    exact ⟨a1, o, vs, rfl, g.ext _ _ rfl ha, w c1 _ H1 g (itd_LH (g.ext _ _ rfl ha) (g.vds q))⟩
  | _ => cases hl
/-- what a held run starts from -/
theorem held_start {i : Ix} {x : Cell} {ds : List D} {pins : List (Addr × Obj)} {st : Shared} (I : Inv X pins σ H st) (r : RelS X.kw c m H) (s : Slo X.kw H c ρ σ) (e : heldO k j ρ m = some (i, x, ds)) :
    ∃ a o u, ρ[j]? = some (some (.cell i)) ∧ m.at_ i = some x ∧ heldL k x = some ds ∧ c.at_ i = some a ∧ H a = some u ∧ liveO u = true ∧ (∀ o' u', X.H_0 a ≠ some (.frz o' u')) ∧ Inv X pins σ (upd H a (.frz o (.frz o u))) st ∧ Gd X.kw c c (m.set .gone i) H (upd H a (.frz o (.frz o u))) ∧ HeldC X.kw (upd H a (.frz o (.frz o u))) c a u x := by
  unfold heldO at e
  split at e
  · rename_i i' hj
    split at e
    · rename_i x' hm
      obtain ⟨ds', hl, e⟩ := Option.map_eq_some_iff.mp e
      cases e
      obtain ⟨v, _, hv⟩ := s.at_ j _ hj
      unfold VD at hv
      obtain ⟨a, hi, _⟩ := hv
      have q := r.at_ i a x hi hm
      have base : ∃ u, H a = some u ∧ liveO u = true ∧ Mut (some u) ∧ x ≠ .gone ∧ ∀ H', Ext H H' → HeldC X.kw H' c a u x := by
        cases x with
        | lst xs =>
          obtain ⟨vs, q1, q2⟩ := q
          exact ⟨_, q1, rfl, (by first | trivial | exact True.intro), (fun z => nomatch z), fun H' ex => ⟨vs, rfl, VDs.mono ex (forI_le _ _) _ q2.warm⟩⟩
        | dct kvs =>
          obtain ⟨es, q1, q2⟩ := q
          exact ⟨_, q1, rfl, (by first | trivial | exact True.intro), (fun z => nomatch z), fun H' ex => ⟨es, rfl, q2.warm.mono ex (forI_le _ _)⟩⟩
        | ins C fs => cases k <;> cases hl
        | gone => cases k <;> cases hl
      obtain ⟨u, ha, lu, mu, lx, hc⟩ := base
      obtain ⟨o, I1⟩ := I.hold ha mu
      have g1 := r.hold (o := o) hi hm lx ha lu
      exact ⟨a, o, u, hj, hm, hl, hi, ha, lu, I.nofrz ha mu, I1, g1, hc _ g1.ext⟩
    · cases e
  · cases e
theorem undo_want {i : Ix} {x : Cell} {a : Addr} {o : Obj} {u : HO} {res : Res D} {Q : VK} (r : RelS X.kw c m H) (hi : c.at_ i = some a) (hm : m.at_ i = some x) (ha : H a = some u) (lu : liveO u = true) (g1 : Gd X.kw c c (m.set .gone i) H (upd H a (.frz o (.frz o u))))
    (w : Want X W c H σ (undoR i x res) Q) : Want X W c (upd H a (.frz o (.frz o u))) σ res (fun v H2 => H2 a = some (.frz o (.frz o u)) ∧ Q v (upd H2 a u)) := by
  cases res with
  | ok d m2 =>
    unfold undoR at w
    simp only at w
    split at w
    · rename_i hg
      intro c' v H2 g hv
      have h2 := g.ext _ _ rfl (upd_same (H := H) (a := a) (o := .frz o (.frz o u)))
      exact ⟨h2, w c' v _ (Gd.thaw r hi hm ha lu g hg) (VD.monoX (extX_drop h2) d hv)⟩
    · exact w.elim
  | exc y m2 => exact fun c' cls dd H2 g hv => w c' cls dd H2 (g1.trans g) hv
  | stuck => exact w
theorem de_lcH (k : Hk) (j : Nat) (z : Md) {is : List Nat} {g : D → Rho → Option Rho} (own : List (Str × Nat)) (hN : X.N.Nodup) (hi : DI X W tg iter fi) (hh : HeldI X W k j tg iter) (ok : blkC X.N X.env.scope scope own = true)
    (hg : ∀ (s : Shared) (H : Hp) (C : Addr) (cl : List (Str × Addr)) (fp : List Addr), DLg (X.blk s H scope (compEnvC scope cl C X.env) fp) tg is g)
    (ht : ∀ (s : Shared) (H : Hp) (C : Addr) (cl : List (Str × Addr)) (fp : List Addr), DTs (X.blk s H scope (compEnvC scope cl C X.env) fp) ifs ft)
    (he : ∀ (s : Shared) (H : Hp) (C : Addr) (cl : List (Str × Addr)) (fp : List Addr), DE (X.blk s H scope (compEnvC scope cl C X.env) fp) Wno elt fe)
    (hsub : ∀ i ∈ is, i ∈ own.map (·.2) := by decide) (hc : X.calm = true := by rfl) (hs : ∀ x, foldedSetIterable iter X.env x = pure x := by intro _; rfl) :
    DE X W (.ListComp elt [⟨tg, iter, ifs, 0⟩] scope pos) (lcH k j z (own.map (·.2)) fi g ft fe) := fun c ρ m σ H Q r s w => by
  unfold lcH at w
  cases e : heldO k j ρ m with
  | none => rw [e] at w; exact de_lc z own hN hi ok hg ht he hsub hc hs c ρ m σ H Q r s w
  | some q =>
    obtain ⟨i, x, ds⟩ := q
    rw [e] at w
    refine .mk fun pins st I => ?_
    obtain ⟨a, o, u, hj, hm, hl, hi', ha, lu, hn, I1, g1, hC⟩ := held_start I r s e
    have w1 := undo_want r hi' hm ha lu g1 w
    have base := WE.frz (we_of (pe_lc (pos := pos) hc hN pi_w (blkOk_by ok) pg_r pt_r pe_r hs) (lc_read (fun R => hh c ρ _ σ _ i a o u x ds R g1.rel (g1.slots s) hj hi' upd_same hC hl) hg ht he hsub hc g1.rel (g1.slots s) w1 fun _ _ h => h))
    refine thn (base.go pins st I1) ?_
    rintro v s' ⟨vv, H2, I2, rv, h2, hq⟩
    exact ⟨vv, _, I2.drop2 h2 hn, rv, hq⟩
theorem undoS_want {i : Ix} {x : Cell} {a : Addr} {o : Obj} {u : HO} {res : SRes} (r : RelS X.kw c m H) (hi : c.at_ i = some a) (hm : m.at_ i = some x) (ha : H a = some u) (lu : liveO u = true) (g1 : Gd X.kw c c (m.set .gone i) H (upd H a (.frz o (.frz o u))))
    (w : WantS X W c H (undoS i x res) En) : WantS X W c (upd H a (.frz o (.frz o u))) res { nx := fun σ' H2 => H2 a = some (.frz o (.frz o u)) ∧ En.nx σ' (upd H2 a u), rt := fun v H2 => H2 a = some (.frz o (.frz o u)) ∧ En.rt v (upd H2 a u), bk := fun _ _ => False, ct := fun _ _ => False } := by
  cases res with
  | nx ρ2 m2 =>
    unfold undoS at w
    simp only at w
    split at w
    · rename_i hg
      intro c' σ' H2 g hv
      have h2 := g.ext _ _ rfl (upd_same (H := H) (a := a) (o := .frz o (.frz o u)))
      exact ⟨h2, w c' σ' _ (Gd.thaw r hi hm ha lu g hg) (hv.monoX (extX_drop h2))⟩
    · exact w.elim
  | rt d m2 =>
    unfold undoS at w
    simp only at w
    split at w
    · rename_i hg
      intro c' v H2 g hv
      have h2 := g.ext _ _ rfl (upd_same (H := H) (a := a) (o := .frz o (.frz o u)))
      exact ⟨h2, w c' v _ (Gd.thaw r hi hm ha lu g hg) (VD.monoX (extX_drop h2) d hv)⟩
    · exact w.elim
  | exc y ρ2 m2 => exact fun c' σ' cls dd H2 g hs hv => w c' σ' cls dd H2 (g1.trans g) hs hv
  | bk ρ2 m2 => exact w.elim
  | ct ρ2 m2 => exact w.elim
  | stuck => exact w
theorem ds_forH (k : Hk) (j : Nat) {g : FG} (hp : PassesOwn (model X.prog X.w) X.A X.env X.xe) (hi : DI X W tg iter fi) (hh : HeldI X W k j tg iter) (hg : DG X W tg g) (hb : DSs X W body gb) (hc : X.calm = true := by rfl) (hs : ∀ x, foldedSetIterable iter X.env x = pure x := by intro _; rfl) : DS X W (.For tg iter body [] pos) (forH k j fi g gb) := fun c ρ m σ H En r s w => by
  unfold forH at w
  cases e : heldO k j ρ m with
  | none => rw [e] at w; exact for_at hp (fun R => hi c ρ m σ H R r s) hg hb hc hs r s w
  | some q =>
    obtain ⟨i, x, ds⟩ := q
    rw [e] at w
    refine .mk fun pins st I => ?_
    obtain ⟨a, o, u, hj, hm, hl, hi', ha, lu, hn, I1, g1, hC⟩ := held_start I r s e
    have w1 := undoS_want r hi' hm ha lu g1 w
    have base := for_at (pos := pos) hp (fun R => hh c ρ _ σ _ i a o u x ds R g1.rel (g1.slots s) hj hi' upd_same hC hl) hg hb hc hs g1.rel (g1.slots s) w1
    refine thn (base.go pins st I1) fun f s' q => ?_
    cases f with
    | next => obtain ⟨σ', H2, I2, h2, hq⟩ := q; exact ⟨σ', _, I2.drop2 h2 hn, hq⟩
    | brk => obtain ⟨σ', H2, I2, hq⟩ := q; exact hq.elim
    | cont => obtain ⟨σ', H2, I2, hq⟩ := q; exact hq.elim
    | ret v => obtain ⟨vv, σ', H2, I2, rv, h2, hq⟩ := q; exact ⟨vv, σ', _, I2.drop2 h2 hn, rv, hq⟩
theorem ds_setLcH (k : Hk) (j : Nat) (z : Md) (i : Nat) {y : Str} {py spos : Pos} {is : List Nat} {g : D → Rho → Option Rho} (own : List (Str × Nat)) (hN : X.N.Nodup) (hi : DI X W tg iter fi) (hh : HeldI X W k j tg iter) (ok : blkC X.N X.env.scope scope own = true)
    (hg : ∀ (s : Shared) (H : Hp) (C : Addr) (cl : List (Str × Addr)) (fp : List Addr), DLg (X.blk s H scope (compEnvC scope cl C X.env) fp) tg is g)
    (ht : ∀ (s : Shared) (H : Hp) (C : Addr) (cl : List (Str × Addr)) (fp : List Addr), DTs (X.blk s H scope (compEnvC scope cl C X.env) fp) ifs ft)
    (he : ∀ (s : Shared) (H : Hp) (C : Addr) (cl : List (Str × Addr)) (fp : List Addr), DE (X.blk s H scope (compEnvC scope cl C X.env) fp) Wno elt fe)
    (hsw : swapsWith (.ListComp elt [⟨tg, iter, ifs, 0⟩] scope pos) (some (.Name y py)) spos.line X.env = pure true)
    (hy : X.N[i]? = some y := by rfl) (hyl : X.env.scope.names.lookup y = some .local := by rfl)
    (hsub : ∀ i ∈ is, i ∈ own.map (·.2) := by decide) (hc : X.calm = true := by rfl) (hs : ∀ x, foldedSetIterable iter X.env x = pure x := by intro _; rfl) :
    DS X W (.Assign [.Name y py] (.ListComp elt [⟨tg, iter, ifs, 0⟩] scope pos) spos) (setS i (lcH k j z (own.map (·.2)) fi g ft fe)) := fun c ρ m σ H En r s w => by
  cases e : heldO k j ρ m with
  | none =>
    refine ds_setLc z i own hN hi ok hg ht he hsw hy hyl hsub hc hs c ρ m σ H En r s ?_
    unfold setS lcH at w
    rw [e] at w
    exact w
  | some q =>
    obtain ⟨i', x, ds⟩ := q
    have w0 : Want X W c H σ (undoR i' x (lcE z (own.map (·.2)) (fun _ m => .ok ds m) g ft fe ρ (m.set .gone i'))) (fun v H1 => En.nx (σ.set i (some v)) H1) := by
      unfold setS lcH at w
      rw [e] at w
      simp only at w
      cases q : undoR i' x (lcE z (own.map (·.2)) (fun _ m => .ok ds m) g ft fe ρ (m.set .gone i')) with
      | ok d m1 =>
        rw [q] at w
        exact fun c1 v H1 g1 hv => w c1 _ H1 g1 ((g1.slots s).set i hv)
      | exc x m1 =>
        rw [q] at w
        exact fun c1 cls dd H1 g1 hv => w c1 σ cls dd H1 g1 (g1.slots s) hv
      | stuck => rw [q] at w; exact w
    refine .mk fun pins st I => ?_
    obtain ⟨a, o, u, hj, hm, hl, hi', ha, lu, hn, I1, g1, hC⟩ := held_start I r s e
    have w1 := undo_want r hi' hm ha lu g1 w0
    have base : WSt X (.Assign [.Name y py] (.ListComp elt [⟨tg, iter, ifs, 0⟩] scope pos) spos) { En with nx := fun σ' H2 => H2 a = some (.frz o (.frz o u)) ∧ En.nx σ' (upd H2 a u) } σ (upd H a (.frz o (.frz o u))) := by
      refine WSt.frz (wst_of (ps_setLc hc hN hy hyl hsw pi_w (blkOk_by ok) pg_r pt_r pe_r hs) ?_)
      refine lc_read (z := z) (Q := fun v H2 => H2 a = some (.frz o (.frz o u)) ∧ En.nx (σ.set i (some v)) (upd H2 a u)) (fun R => hh c ρ _ σ _ i' a o u x ds R g1.rel (g1.slots s) hj hi' upd_same hC hl) hg ht he hsub hc g1.rel (g1.slots s) w1 fun v H1 h => ?_
      rcases h with h | ⟨b, u', e1, e2, e3, e4⟩
      · exact .inl h
      · exact .inr ⟨b, u', e2, e3, e4⟩
    refine thn (base.go pins st I1) fun f s' q => ?_
    cases f with
    | next => obtain ⟨σ', H2, I2, h2, hq⟩ := q; exact ⟨σ', _, I2.drop2 h2 hn, hq⟩
    | brk => exact q
    | cont => exact q
    | ret v => exact q
end
end L2.Dn
namespace L2.Dn
open PySem PySem.Spec PyProof.Rows L2
/-! ### a variable's list, dict or instance is frozen ahead of a statement -/
def frzV (i : Nat) (g : FS) : FS := fun ρ m => match ρ[i]? with
  | some (some (.cell j)) => match m.at_ j with
    | some x => match frzC x with
      | some d => g (ρ.set i (some d)) (m.set .gone j)
      | none => .stuck
    | none => .stuck
  | _ => g ρ m
section
variable {X : Cx} {W : WX} {a b e o : Expr} {es rest : List Expr} {fa fb f fo : FE} {fl : FI} {pos apos cpos p p1 p2 : Pos} {c : Anc} {ρ : Rho} {m : Store} {σ : St} {H : Hp} {name x : Str} {st : Stmt} {g : FS}
theorem ds_frzV (i : Nat) (h : DS X W st g) : DS X W st (frzV i g) := fun c ρ m σ H En r s w => by
  unfold frzV at w
  split at w
  · rename_i j hj
    cases q2 : m.at_ j with
    | none => rw [q2] at w; exact w.elim
    | some y =>
      rw [q2] at w
      dsimp only at w
      cases q3 : frzC y with
      | none => rw [q3] at w; exact w.elim
      | some d =>
        rw [q3] at w
        dsimp only at w
        obtain ⟨v, hv, hd⟩ := s.2 i _ hj
        unfold VD at hd
        obtain ⟨a, h1, rfl⟩ := hd
        obtain ⟨u, h3, mu, k⟩ := frzC_ok r h1 q2 q3
        refine .mk fun pins st I => ?_
        obtain ⟨ob, I'⟩ := Inv.lock I h3 mu
        obtain ⟨k1, k2⟩ := k ob
        have s2 := ((k1.slots s).set i k2)
        have e : σ.set i (some (.ref a)) = σ := by
          apply List.ext_getElem?
          intro n
          rw [List.getElem?_set]
          split
          · rename_i hn
            subst hn
            split
            · exact hv.symm
            · rename_i hlt
              rw [List.getElem?_eq_none (by omega)]
          · rfl
        rw [e] at s2
        exact (h c _ _ σ _ En k1.rel s2 (WantS.shift k1 w)).go pins st I'
  · exact h c ρ m σ H En r s w
/-! ### sep.join(texts), xs.clear() -/
def txtsOf : List D → Option (List Str)
  | [] => some []
  | .p (.str x) :: r => (txtsOf r).map (x :: ·)
  | _ :: _ => none
theorem txtsOf_ok {K : KW} : ∀ {xs : List D} {vs : List V} {ys : List Str}, VDs K H c vs xs → txtsOf xs = some ys → vs = ys.map V.str
  | [], vs, ys, h, q => by
    unfold VDs at h
    cases q
    exact h
  | d :: r, vs, ys, h, q => by
    unfold VDs at h
    obtain ⟨v, t, e1, h1, h2⟩ := h
    unfold txtsOf at q
    split at q
    · rename_i hx
      cases hx
    · rename_i x r' hx
      cases hx
      obtain ⟨zs, e2, rfl⟩ := Option.map_eq_some_iff.mp q
      rw [e1, VD.str.mp h1, txtsOf_ok h2 e2]
      rfl
    · cases q
def joinD : D → List D → Store → OD
  | .p (.str a), [d], m => match lstOf d m with
    | some xs => match txtsOf xs with
      | some ys => if (ys.map (·.length)).sum + ys.length * a.length ≤ 16777216 then some (.p (.str (Txt.join a ys)), m) else none
      | none => none
    | none => none
  | _, _, _ => none
theorem mt_joinD : MtR X "str.join" (rOfM X.kw joinD) := by
  refine MtR.by_ mt_join fun x xs H Q w => ?_
  obtain ⟨c, m, dx, ds, r, h1, h2, w⟩ := w
  unfold joinD at w
  split at w
  · rename_i a d
    obtain ⟨v, rfl, hv⟩ := VDs.onlyOne h2
    cases VD.str.mp h1
    cases q : lstOf d m with
    | none => rw [q] at w; exact w.elim
    | some zs =>
      rw [q] at w
      dsimp only at w
      cases q2 : txtsOf zs with
      | none => rw [q2] at w; exact w.elim
      | some ys =>
        rw [q2] at w
        dsimp only at w
        split at w
        · rename_i hz
          obtain ⟨l, vs, rfl, k1, k2⟩ := lstOf_ok r hv q
          have e := txtsOf_ok k2 q2
          subst e
          exact ⟨a, l, ys, rfl, rfl, .inl k1.sq, hz, QF.in_ (w.now r (VD.str.mpr rfl))⟩
        · exact w.elim
  · exact w.elim
def clearL : D → List D → Store → OD
  | .cell i, [], m => match m.at_ i with
    | some (.lst _) => some (.p .none, m.set (.lst []) i)
    | _ => none
  | _, _, _ => none
theorem mt_clearL : MtR X "list.clear" (rOfM X.kw clearL) := by
  refine MtR.by_ mt_clear fun x xs H Q w => ?_
  obtain ⟨c, m, dx, ds, r, h1, h2, w⟩ := w
  unfold clearL at w
  split at w
  · rename_i i
    unfold VDs at h2
    subst h2
    split at w
    · rename_i zs hm
      unfold VD at h1
      obtain ⟨a, ha, rfl⟩ := h1
      obtain ⟨vs, k1, k2⟩ := r.at_ i a _ ha hm
      have g := r.put (xs := []) (ds := []) ha hm k1 (by unfold VDs; rfl)
      exact ⟨a, vs, rfl, rfl, k1, QF.in_ (w c _ _ g (VD.non.mpr rfl))⟩
    · exact w.elim
  · exact w.elim
end
end L2.Dn
namespace L2.Dn
open PySem PySem.Spec PyProof.Rows L2
/-! ### dict comprehensions, keys ints or texts -/
def nkOf : L2.Key → NestedKey
  | .inl i => .num i
  | .inr x => .text x
theorem nkOf_inj : ∀ {a b : L2.Key}, nkOf a = nkOf b → a = b
  | .inl i, .inl j, h => by cases h; rfl
  | .inr x, .inr y, h => by cases h; rfl
  | .inl i, .inr y, h => by cases h
  | .inr x, .inl j, h => by cases h
def keyOf : D → Option L2.Key
  | .p (.int i) => some (.inl i)
  | .p (.str x) => some (.inr x)
  | _ => none
theorem keyP_nk (k : L2.Key) : nk (keyP k) = some (nkOf k) := by cases k <;> rfl
/-- d[k] = v, told -/
def putP (kvs : List (PyData × D)) (k : L2.Key) (d : D) : List (PyData × D) := putD kvs (keyP k) (nkOf k) d
def dcM (g : D → Rho → Option Rho) (t : Rho → Store → Res Bool) (fk fv : FE) (ρ : Rho) : List D → List (PyData × D) → Store → Res (List (PyData × D))
  | [], kvs, m => .ok kvs m
  | d :: ds, kvs, m => match g d ρ with
    | none => .stuck
    | some ρ1 => (noX (t ρ1 m)).bind fun b m1 => if b then (noX (fk ρ1 m1)).bind fun y m2 => (noX (fv ρ1 m2)).bind fun v m3 => match keyOf y with
        | some k => dcM g t fk fv ρ ds (putP kvs k v) m3
        | none => .stuck
      else dcM g t fk fv ρ ds kvs m1
def dcE (z : Md) (vs : List Nat) (fi : FI) (g : D → Rho → Option Rho) (t : Rho → Store → Res Bool) (fk fv : FE) : FE := fun ρ m => (fi ρ m).bind fun ds m1 => if ds.length ≤ sizeLine then (dcM g t fk fv (wipeR ρ vs) ds [] m1).bind fun kvs m2 => newD z kvs m2 else .stuck
def esOf (kvs : List (L2.Key × V)) : List (NestedKey × V × V) := kvs.map fun q => (nkOf q.1, kV q.1, q.2)
/-- the told dict and its entries in the layer -/
structure KvR (K : KW) (H : Hp) (c : Anc) (kvs : List (L2.Key × V)) (ds : List (PyData × D)) : Prop where
  key : ds.map (·.1) = kvs.map fun q => keyP q.1
  nd : (kvs.map (·.1)).Nodup
  vd : VDs K H c (kvs.map (·.2)) (ds.map (·.2))
section
variable {K : KW} {H H' : Hp} {c c' : Anc} {kvs : List (L2.Key × V)} {ds : List (PyData × D)}
theorem KvR.nil : KvR K H c [] [] := ⟨rfl, List.nodup_nil, by unfold VDs; rfl⟩
theorem KvR.mono (r : KvR K H c kvs ds) (e : Ext H H') (p : Pre c c') : KvR K H' c' kvs ds := ⟨r.key, r.nd, VDs.mono e p _ r.vd⟩
theorem kd_of : ∀ kvs : List (L2.Key × V), DpZs K H (kvs.map fun q => kV q.1) (kvs.map fun q => keyP q.1)
  | [] => .nil
  | (.inl i, v) :: r => .cons (.int i) (kd_of r)
  | (.inr x, v) :: r => .cons (.str x) (kd_of r)
theorem KvR.dct (r : KvR K H c kvs ds) : DctR K H c (esOf kvs) ds := by
  have e1 : (esOf kvs).map (·.1) = kvs.map fun q => nkOf q.1 := by simp [esOf, Function.comp_def]
  have e2 : (esOf kvs).map (·.2.1) = kvs.map fun q => kV q.1 := by simp [esOf, Function.comp_def]
  have e3 : (esOf kvs).map (·.2.2) = kvs.map (·.2) := by simp [esOf, Function.comp_def]
  refine ⟨?_, ?_, ?_, ?_, ?_⟩
  · have : ds.map (fun q => nk q.1) = (ds.map (·.1)).map nk := by simp [Function.comp_def]
    rw [this, r.key]
    simp [esOf, Function.comp_def, keyP_nk]
  · intro e he
    obtain ⟨q, _, rfl⟩ := List.mem_map.mp he
    rcases q.1 with i | x <;> exact Nat.zero_le _
  · rw [e1]
    have : kvs.map (fun q => nkOf q.1) = (kvs.map (·.1)).map nkOf := by simp [Function.comp_def]
    rw [this]
    exact List.Pairwise.map _ (fun a b h z => h (nkOf_inj z)) r.nd
  · rw [e2, r.key]
    exact kd_of kvs
  · rw [e3]
    exact r.vd
theorem KvR.len (r : KvR K H c kvs ds) : kvs.length = ds.length := by
  have := r.vd.length
  simpa using this
theorem key_has (r : KvR K H c kvs ds) (k : L2.Key) : (kvs.any fun q => decide (q.1 = k)) = true ↔ some (nkOf k) ∈ ds.map (fun q => nk q.1) := by
  have e : ds.map (fun q => nk q.1) = kvs.map fun q => some (nkOf q.1) := by
    have : ds.map (fun q => nk q.1) = (ds.map (·.1)).map nk := by simp [Function.comp_def]
    rw [this, r.key]
    simp [Function.comp_def, keyP_nk]
  rw [e]
  constructor
  · intro h
    obtain ⟨q, hq, hk⟩ := List.any_eq_true.mp h
    exact List.mem_map.mpr ⟨q, hq, by rw [of_decide_eq_true hk]⟩
  · intro h
    obtain ⟨q, hq, hk⟩ := List.mem_map.mp h
    exact List.any_eq_true.mpr ⟨q, hq, decide_eq_true (nkOf_inj (Option.some.inj hk))⟩
theorem put_keys {k : L2.Key} {v : V} : (kvs.map fun kv => if kv.1 = k then (kv.1, v) else kv).map (·.1) = kvs.map (·.1) := by
  rw [List.map_map]
  apply List.map_congr_left
  intro q _
  simp only [Function.comp]
  split <;> rfl
theorem putV {k : L2.Key} {v : V} {d : D} (hv : VD K H c v d) : ∀ {kvs : List (L2.Key × V)} {ds : List (PyData × D)}, ds.map (·.1) = kvs.map (fun q => keyP q.1) → VDs K H c (kvs.map (·.2)) (ds.map (·.2)) →
    VDs K H c ((kvs.map fun kv => if kv.1 = k then (kv.1, v) else kv).map (·.2)) ((ds.map fun q => if nk q.1 = some (nkOf k) then (q.1, d) else q).map (·.2))
  | [], [], _, h => h
  | [], _ :: _, e, _ => by simp at e
  | _ :: _, [], e, _ => by simp at e
  | q :: kvs, y :: ds, e, h => by
    simp only [List.map_cons, List.cons.injEq] at e
    simp only [List.map_cons] at h ⊢
    unfold VDs at h
    obtain ⟨v1, t, e1, h1, h2⟩ := h
    cases e1
    unfold VDs
    refine ⟨_, _, rfl, ?_, putV hv e.2 h2⟩
    have e3 : nk y.1 = some (nkOf q.1) := by rw [e.1, keyP_nk]
    by_cases hk : q.1 = k
    · rw [if_pos hk, if_pos (by rw [e3, hk])]
      exact hv
    · rw [if_neg hk, if_neg (fun z => hk (nkOf_inj (Option.some.inj (e3.symm.trans z))))]
      exact h1
theorem KvR.put (r : KvR K H c kvs ds) {k : L2.Key} {v : V} {d : D} (hv : VD K H c v d) : KvR K H c (putK kvs k v) (putP ds k d) := by
  unfold putK putP putD
  by_cases hk : (kvs.any fun kv => decide (kv.1 = k)) = true
  · rw [if_pos hk, if_pos (by simpa using (key_has r k).mp hk)]
    refine ⟨?_, by rw [put_keys]; exact r.nd, putV hv r.key r.vd⟩
    have e1 : (ds.map fun q => if nk q.1 = some (nkOf k) then (q.1, d) else q).map (·.1) = ds.map (·.1) := by
      rw [List.map_map]
      apply List.map_congr_left
      intro q _
      simp only [Function.comp]
      split <;> rfl
    have e2 : ((kvs.map fun kv => if kv.1 = k then (kv.1, v) else kv).map fun q => keyP q.1) = kvs.map fun q => keyP q.1 := by
      rw [List.map_map]
      apply List.map_congr_left
      intro q _
      simp only [Function.comp]
      split <;> rfl
    rw [e1, e2, r.key]
  · rw [if_neg hk, if_neg (fun z => hk ((key_has r k).mpr (by simpa using z)))]
    refine ⟨by rw [List.map_append, List.map_append, r.key]; rfl, ?_, ?_⟩
    · rw [List.map_append, List.nodup_append]
      refine ⟨r.nd, by simp, fun a ha b hb e => ?_⟩
      have e4 : b = k := by simpa using hb
      apply hk
      obtain ⟨q, hq, e5⟩ := List.mem_map.mp ha
      exact List.any_eq_true.mpr ⟨q, hq, decide_eq_true (by rw [e5, e, e4])⟩
    · rw [List.map_append, List.map_append]
      exact r.vd.append (VDs.one hv)
end
section
variable {X : Cx} {W : WX} {kx vx tg iter : Expr} {ifs : List Expr} {scope : Scope} {pos : Pos} {c : Anc} {ρ : Rho} {m : Store} {σ : St} {H : Hp} {fi : FI} {ft : Rho → Store → Res Bool} {fk fv : FE}
/-- Q, once a dict of the layer is told anew -/
def QK (w : World) (Q : VK) : VK := fun v H => ∃ a kvs, v = .ref a ∧ H a = some (.dK kvs) ∧ QF Q v (upd H a (gdO w a (esOf kvs)))
theorem pairs_ents {w : World} {P : Program} : ∀ {es : List DictEntry} {us : List (L2.Key × Value)} {kvs : List (L2.Key × V)}, (∀ e ∈ es, ∃ k, (mixKind P w).is k e.key = true ∧ e.hash = (mixKind P w).hash k) → Pairs (mixKind P w) es us → KV kvs us →
    Paired (fun (e : NestedKey × V × V) (x : DictEntry) => x.hash = e.1.hash w ∧ RelV e.2.1 x.key ∧ RelV e.2.2 x.val) (esOf kvs) es
  | [], _, _, _, .nil, .nil => .nil
  | _ :: _, _, [], _, .cons _ _ _, z => by cases z
  | e :: es, _, (k0, v0) :: kvs, h, .cons h1 h2 h3, .cons h4 h5 => by
    refine .cons ?_ (pairs_ents (fun x hx => h x (List.mem_cons_of_mem _ hx)) h3 h5)
    obtain ⟨k, q1, q2⟩ := h e (List.mem_cons_self ..)
    have ek : k = k0 := by
      have e0 : k0 = _ := h4.1
      rw [e0]
      exact (mixKind P w).inj _ _ _ q1 h1
    subst ek
    rw [← h2] at h4
    refine ⟨?_, ?_, h4.2⟩
    · rw [q2]
      cases k <;> rfl
    · rcases keyIs_shape q1 with ⟨i, t, rfl, e2⟩ | ⟨x, t, rfl, e2⟩
      · exact ⟨t, e2⟩
      · exact ⟨t, e2⟩
theorem WE.dk {e : Expr} {Q : VK} (h : WE X e σ H (QK X.w Q)) : WE X e σ H Q := WE.frz <| .mk fun pins s I => thn (h.go pins s I) fun u s' q => by
  obtain ⟨v, H', I', r, a, kvs, rfl, ha, q⟩ := q
  obtain ⟨hz, hS, us, hkv, o, es, ep, g1, g2, g3, g4, g5, g6⟩ := (show ObjOk X.prog X.w H' s'.heap a (.dK kvs) from I'.hok a _ ha)
  have new : ObjOk X.prog X.w (upd H' a (gdO X.w a (esOf kvs))) s'.heap a (gdO X.w a (esOf kvs)) := by
    refine ⟨⟨o, es, ep, hS, g1, g2, g3, pairs_ents (fun e he => g4 e (by simpa using he)) g5 hkv⟩, ⟨o, g1⟩, fun h1 h2 z k => ?_⟩
    obtain ⟨o, ens, ep, y0, y1, y2, y3, y4⟩ := z
    exact ⟨o, ens, ep, y0, k _ y1, y2, y3, y4⟩
  exact ⟨.ref a, _, I'.write (x := a) (e := a) (t' := s'.toks) (h' := s'.heap) (by rw [ha]; trivial) (.inl rfl) (fun b v _ q => q) ⟨o, g1⟩ new, r, q⟩
theorem dc_read {z : Md} {is : List Nat} {g : D → Rho → Option Rho} {own : List (Str × Nat)} {Q : VK} (hi : ∀ R, WantI X W c H σ (fi ρ m) R → WI X tg iter σ H R)
    (hg : ∀ (s : Shared) (H : Hp) (C : Addr) (cl : List (Str × Addr)) (fp : List Addr), DLg (X.blk s H scope (compEnvC scope cl C X.env) fp) tg is g)
    (ht : ∀ (s : Shared) (H : Hp) (C : Addr) (cl : List (Str × Addr)) (fp : List Addr), DTs (X.blk s H scope (compEnvC scope cl C X.env) fp) ifs ft)
    (hk : ∀ (s : Shared) (H : Hp) (C : Addr) (cl : List (Str × Addr)) (fp : List Addr), DE (X.blk s H scope (compEnvC scope cl C X.env) fp) Wno kx fk)
    (he : ∀ (s : Shared) (H : Hp) (C : Addr) (cl : List (Str × Addr)) (fp : List Addr), DE (X.blk s H scope (compEnvC scope cl C X.env) fp) Wno vx fv)
    (hsub : ∀ i ∈ is, i ∈ own.map (·.2)) (hc : X.calm = true) (r : RelS X.kw c m H) (s : Slo X.kw H c ρ σ) (w : Want X W c H σ (dcE z (own.map (·.2)) fi g ft fk fv ρ m) Q) :
    tDc (WI X tg iter) (rG X scope tg) (rT X scope ifs) (rE X scope kx) (rE X scope vx) (own.map (·.2)) σ H (QK X.w Q) := by
  have hkw : ∀ s0 H0 cenv fp, (X.blk s0 H0 scope cenv fp).kw = X.kw := fun s0 H0 cenv fp => by simp [Cx.kw, hc]
  refine hi _ ?_
  unfold dcE at w
  cases q : fi ρ m with
  | stuck => rw [q] at w; exact w.elim
  | exc x m1 => rw [q] at w; exact w
  | ok ds m1 =>
    rw [q] at w
    intro c1 J H1 g1 hJ Dn hD
    have w : Want X W c H σ (if ds.length ≤ sizeLine then (dcM g ft fk fv (wipeR ρ (own.map (·.2))) ds [] m1).bind fun kvs m2 => newD z kvs m2 else .stuck) Q := w
    by_cases hz : ds.length ≤ sizeLine
    · rw [if_pos hz] at w
      have w1 := Want.shift g1 w
      have nD : ¬ Has c1 Dn := g1.rel.not hD
      have s1 := (g1.slots s).wipe (own.map (·.2))
      let Rest : Nat → Hp → List (L2.Key × V) → Prop := fun i H' acc => ∃ c' m' ys, Gd X.kw c1 c' m' H1 H' ∧ ¬ Has c' Dn ∧ H' Dn = some (.dK acc) ∧ KvR X.kw H' c' acc ys ∧ acc.length ≤ i ∧
        Want X W c1 H1 σ ((dcM g ft fk fv (wipeR ρ (own.map (·.2))) (ds.drop i) ys m').bind fun kvs m2 => newD z kvs m2) Q
      refine ⟨fun i mm H' => i ≤ ds.length ∧ mm = ds.length - i ∧ ∃ acc, Rest i H' acc, ⟨ds.length, Nat.zero_le _, by simp, [], c1, m1, [], g1.rel.lay hD, nD, upd_same, KvR.nil, Nat.le_refl _, by simpa using w1⟩, ?_⟩
      rintro i mm H2 ⟨hi2, hmm, acc, c2, m2, ys, g2, nD2, hD2, hv2, hl2, w2⟩
      obtain ⟨hgo, hstop⟩ := hJ c2 m2 H2 g2.pre g2.ext g2.rel i
      by_cases hlt : i < ds.length
      · have ed : ds[i]? = some ds[i] := List.getElem?_eq_getElem hlt
        obtain ⟨go, hy⟩ := hgo _ ed
        have e1 : ds.drop i = ds[i] :: ds.drop (i + 1) := List.drop_eq_getElem_cons hlt
        rw [e1] at w2
        refine .inr ⟨go, fun H' => ∃ acc, Rest (i + 1) H' acc, fun H' h => ⟨ds.length - (i + 1), by omega, hlt, rfl, h⟩, fun x H3 yl => ?_⟩
        obtain ⟨g3, k3, hv⟩ := hy x H3 yl
        have g23 := g2.trans g3
        have hD3 : H3 Dn = some (.dK acc) := k3 Dn _ hD2
        intro s0 H0 C cl fp
        cases q1 : g ds[i] (wipeR ρ (own.map (·.2))) with
        | none => simp only [dcM, q1, Res.bind] at w2; exact w2.elim
        | some ρ1 =>
          refine hg s0 H0 C cl fp c2 _ ρ1 _ H3 x ds[i] _ (by rw [hkw]; exact g23.slots s1) (by rw [hkw]; exact hv) q1 fun σ1 s3 hl hj => ⟨?_, ?_⟩
          · rw [show wipe σ (own.map (·.2)) = wipe (wipe σ (own.map (·.2))) (own.map (·.2)) from (wipe_ext (wipe_length _ _) fun j hj => wipe_out hj).symm]
            exact wipe_ext hl fun j hm => hj j fun z => hm (hsub j z)
          · intro s4 H4 C4 cl4 fp4 pins4 st4 I4
            simp only [dcM, q1] at w2
            rw [hkw] at s3
            refine ht s4 H4 C4 cl4 fp4 c2 ρ1 m2 σ1 H3 _ (by rw [hkw]; exact g3.rel) (by rw [hkw]; exact s3) ?_ pins4 st4 I4
            cases q2 : ft ρ1 m2 with
            | stuck => simp only [q2, noX, Res.bind] at w2; exact w2.elim
            | exc y m5 => simp only [q2, noX, Res.bind] at w2; exact w2.elim
            | ok k m5 =>
              intro c5 H5 g5
              rw [hkw] at g5
              have g25 := g23.trans g5
              have hD5 : H5 Dn = some (.dK acc) := g5.frame Dn _ nD2 hD3
              have nD5 : ¬ Has c5 Dn := fun z => (g5.new Dn z).elim nD2 fun e => by rw [hD3] at e; cases e
              simp only [q2, noX, Res.bind] at w2
              cases k with
              | false =>
                rw [if_neg Bool.false_ne_true]
                exact ⟨acc, c5, m5, ys, g25, nD5, hD5, (hv2.mono g3.ext g3.pre).mono g5.ext g5.pre, Nat.le_succ_of_le hl2, w2⟩
              | true =>
                rw [if_pos rfl]
                intro s6 H6 C6 cl6 fp6
                refine hk s6 H6 C6 cl6 fp6 c5 ρ1 m5 σ1 H5 _ (by rw [hkw]; exact g5.rel) (by rw [hkw]; exact g5.slots s3) ?_
                cases q3 : fk ρ1 m5 with
                | stuck => simp only [q3, noX, if_true, Res.bind] at w2; exact w2.elim
                | exc y m7 => simp only [q3, noX, if_true, Res.bind] at w2; exact w2.elim
                | ok y m7 =>
                  simp only [q3, noX, if_true, Res.bind] at w2
                  intro c7 vy H7 g7 hy7
                  rw [hkw] at g7 hy7
                  have g27 := g25.trans g7
                  have hD7 : H7 Dn = some (.dK acc) := g7.frame Dn _ nD5 hD5
                  have nD7 : ¬ Has c7 Dn := fun z => (g7.new Dn z).elim nD5 fun e => by rw [hD5] at e; cases e
                  intro s8 H8 C8 cl8 fp8
                  refine he s8 H8 C8 cl8 fp8 c7 ρ1 m7 σ1 H7 _ (by rw [hkw]; exact g7.rel) (by rw [hkw]; exact g7.slots (g5.slots s3)) ?_
                  cases q5 : fv ρ1 m7 with
                  | stuck => simp only [q5, noX, Res.bind] at w2; exact w2.elim
                  | exc y m9 => simp only [q5, noX, Res.bind] at w2; exact w2.elim
                  | ok dv m9 =>
                    simp only [q5, noX, Res.bind] at w2
                    intro c9 vz H9 g9 hy9
                    rw [hkw] at g9 hy9
                    have g29 := g27.trans g9
                    have hD9 : H9 Dn = some (.dK acc) := g9.frame Dn _ nD7 hD7
                    have nD9 : ¬ Has c9 Dn := fun z => (g9.new Dn z).elim nD7 fun e => by rw [hD7] at e; cases e
                    cases q6 : keyOf y with
                    | none => simp only [q6] at w2; exact w2.elim
                    | some k =>
                      simp only [q6] at w2
                      have ek : vy = kV k := by
                        unfold keyOf at q6
                        split at q6
                        · cases q6; exact VD.int.mp hy7
                        · cases q6; exact VD.str.mp hy7
                        · cases q6
                      have ex : Ext H9 (upd H9 Dn (.dK (putK acc k vz))) := Ext.putO hD9 rfl
                      refine ⟨acc, k, ek, hD9, by omega, putK acc k vz, c9, m9, putP ys k dv, ?_, nD9, upd_same, ?_, by have := length_putK acc k vz; omega, w2⟩
                      · refine ⟨g29.pre, g29.ext.trans ex, g29.new, fun b u hb e => by rw [upd_ne (fun z => by rw [z, hD] at e; cases e)]; exact g29.frame b u hb e, g29.rel.len, g29.rel.inj, fun j b x h1 h2 => (g29.rel.at_ j b x h1 h2).mono ex (Pre.refl _) fun zs _ e => ?_⟩
                        rw [upd_ne (fun z => nD9 ⟨j, by rw [← z]; exact h1⟩)]
                        exact e
                      · exact KvR.mono ((((hv2.mono g3.ext g3.pre).mono g5.ext g5.pre).mono g7.ext g7.pre |>.mono g9.ext g9.pre).put hy9) ex (Pre.refl _)
      · have e : i = ds.length := by omega
        subst e
        refine .inl ⟨hstop (Nat.le_refl _), Dn, acc, rfl, hD2, ?_⟩
        rw [List.drop_length] at w2
        have w3 : Want X W c1 H1 σ (newD z ys m2) Q := by simpa [dcM, Res.bind] using w2
        exact newD_at g2 hD nD2 hD2 rfl hv2.dct w3
    · rw [if_neg hz] at w; exact w.elim
theorem de_dc (z : Md) {is : List Nat} {g : D → Rho → Option Rho} (own : List (Str × Nat)) (hN : X.N.Nodup) (hi : DI X W tg iter fi) (ok : blkC X.N X.env.scope scope own = true)
    (hg : ∀ (s : Shared) (H : Hp) (C : Addr) (cl : List (Str × Addr)) (fp : List Addr), DLg (X.blk s H scope (compEnvC scope cl C X.env) fp) tg is g)
    (ht : ∀ (s : Shared) (H : Hp) (C : Addr) (cl : List (Str × Addr)) (fp : List Addr), DTs (X.blk s H scope (compEnvC scope cl C X.env) fp) ifs ft)
    (hk : ∀ (s : Shared) (H : Hp) (C : Addr) (cl : List (Str × Addr)) (fp : List Addr), DE (X.blk s H scope (compEnvC scope cl C X.env) fp) Wno kx fk)
    (he : ∀ (s : Shared) (H : Hp) (C : Addr) (cl : List (Str × Addr)) (fp : List Addr), DE (X.blk s H scope (compEnvC scope cl C X.env) fp) Wno vx fv)
    (hsub : ∀ i ∈ is, i ∈ own.map (·.2) := by decide) (hc : X.calm = true := by rfl) (hs : ∀ x, foldedSetIterable iter X.env x = pure x := by intro _; rfl) :
    DE X W (.DictComp kx vx [⟨tg, iter, ifs, 0⟩] scope pos) (dcE z (own.map (·.2)) fi g ft fk fv) := fun c ρ m σ H Q r s w =>
  WE.dk (we_of (pe_dc hc hN pi_w (blkOk_by ok) pg_r pt_r pe_r pe_r hs) (dc_read (fun R => hi c ρ m σ H R r s) hg ht hk he hsub hc r s w))
/-! ### set comprehensions over nothing -/
def sc0E (fi : FI) : FE := fun ρ m => (fi ρ m).bind fun ds m1 => match ds with
  | [] => .ok .opq m1
  | _ => .stuck
theorem de_sc0 {elt : Expr} (own : List (Str × Nat)) (hN : X.N.Nodup) (hi : DI X W tg iter fi) (ok : blkC X.N X.env.scope scope own = true) (hc : X.calm = true := by rfl) (hs : ∀ x, foldedSetIterable iter X.env x = pure x := by intro _; rfl) :
    DE X W (.SetComp elt [⟨tg, iter, ifs, 0⟩] scope pos) (sc0E fi) := fun c ρ m σ H Q r s w => by
  refine we_of (PpSet.pe_sc hc hN pi_w (blkOk_by ok) pg_r pt_r pe_r hs) (hi c ρ m σ H _ r s ?_)
  unfold sc0E at w
  cases q : fi ρ m with
  | stuck => rw [q] at w; exact w.elim
  | exc x m1 => rw [q] at w; exact w
  | ok ds m1 =>
    rw [q] at w
    intro c1 J H1 g1 hJ Dn hD
    cases ds with
    | cons d ds => exact w.elim
    | nil =>
      have g2 : Gd X.kw c1 c1 m1 H1 (upd H1 Dn (PpSet.SetBO X.w Dn (fun _ => false) 0)) := g1.rel.lay hD
      refine ⟨fun i mm H' => i = 0 ∧ H' = upd H1 Dn (PpSet.SetBO X.w Dn (fun _ => false) 0), ⟨0, rfl, rfl⟩, ?_⟩
      rintro i mm H' ⟨rfl, rfl⟩
      obtain ⟨_, hstop⟩ := hJ c1 m1 _ g2.pre g2.ext g2.rel 0
      exact .inl ⟨hstop (Nat.le_refl _), w c1 _ _ (g1.trans g2) (by unfold VD; exact ⟨Dn, rfl⟩)⟩
/-! ### sorted(set(xs)), xs empty -/
def ss0E (z : Md) (f : FE) : FE := fun ρ m => (f ρ m).bind fun d m1 => match lstOf d m1 with
  | some [] => newL z [] m1
  | _ => .stuck
theorem de_ss0 {e : Expr} {f : FE} {p p2 q : Pos} (z : Md) (hc : X.calm = true) (hu : X.A.units + 65 < cLine) (hg : Gl X "sorted") (hm : X.mg "sorted" = none) (hg2 : Gl X "set") (hm2 : X.mg "set" = none) (he : DE X W e f)
    (n1 : starEach [.Call (.Name "set" p2) [e] [] q] X.env = (false, eval (.Call (.Name "set" p2) [e] [] q) X.env) :: starEach [] X.env := by rfl) (n2 : starEach [e] X.env = (false, eval e X.env) :: starEach [] X.env := by rfl) :
    DE X W (.Call (.Name "sorted" p) [.Call (.Name "set" p2) [e] [] q] [] pos) (ss0E z f) := fun c ρ m σ H Q r s w => by
  refine WE.frz (we_of (pe_callB (cr_sortedT hc) hg hm (by decide +kernel) (pa_cons (pe_callTy (cr_setOfT hc (by omega)) hg2 hm2 (by decide +kernel) (pa_cons pe_w pa_nil n2) (he := n2)) pa_nil n1) (he := n1)) ?_)
  refine he.thenE r s w fun d m1 c1 v H1 r1 s1 g1 h1 w1 => ?_
  cases ql : lstOf d m1 with
  | none => rw [ql] at w1; exact w1.elim
  | some xs =>
    cases xs with
    | cons x xs => rw [ql] at w1; exact w1.elim
    | nil =>
      rw [ql] at w1
      dsimp only at w1
      obtain ⟨a, vs, rfl, k1, k2⟩ := lstOf_ok r1 h1 ql
      unfold VDs at k2
      subst k2
      refine ⟨a, [], rfl, k1.sq, fun p hp => (by cases hp), by decide, fun b L hb hL _ => ?_⟩
      have eL : L = [] := by
        cases L with
        | nil => rfl
        | cons p L => exact nomatch hL p (List.mem_cons_self ..)
      subst eL
      refine ⟨b, [], 1, 1, rfl, upd_same, fun p hp => (by cases hp), Nat.le_refl _, fun p hp => (by cases hp), fun L' p pm _ _ _ hp => ?_⟩
      have e2 : L' = [] := List.Perm.eq_nil pm
      subst e2
      have g2 : Gd X.kw c1 c1 m1 H1 (upd H1 b (SetTO X.prog X.w b [])) := r1.lay hb
      exact newL_ok (ds := []) g2.rel (by unfold VDs; rfl) (Want.shift g2 w1) p hp
end
end L2.Dn
namespace L2.Dn
open PySem PySem.Spec PyProof.Rows L2
/-! ### y = {.. for ..}: the comprehension's value is stored by its own block -/
section
variable {X : Cx} {W : WX} {elt kx vx tg iter : Expr} {ifs : List Expr} {scope : Scope} {pos spos py : Pos} {c : Anc} {ρ : Rho} {m : Store} {σ : St} {H : Hp} {fi : FI} {ft : Rho → Store → Res Bool} {fk fv : FE} {y : Str} {i : Nat} {own : List (Str × Nat)} {wi : TI} {g : TG} {tt : TT} {te tk tv : TE}
theorem sw_set {gs : List Comprehension} {l : Nat} {env : Env} (hk : env.scope.kind = .function) (hy : env.scope.names.lookup y = some .local) (hl : (py.line == pos.line) = true) (ha : (scope.names.any fun (n, k) => n == y && (k == .local || k == .cell)) = false) : swapsWith (.SetComp elt gs scope pos) (some (.Name y py)) l env = pure true := by
  have k1 : env.kindOf y = some .local := hy; have k2 : env.blockKind = .function := by unfold Env.blockKind; rw [hk]; rfl
  unfold swapsWith; simp only [k2, k1, ha, Expr.pos, hl]; rfl
theorem sw_dct {gs : List Comprehension} {l : Nat} {env : Env} (hk : env.scope.kind = .function) (hy : env.scope.names.lookup y = some .local) (hl : (py.line == pos.line) = true) (ha : (scope.names.any fun (n, k) => n == y && (k == .local || k == .cell)) = false) : swapsWith (.DictComp kx vx gs scope pos) (some (.Name y py)) l env = pure true := by
  have k1 : env.kindOf y = some .local := hy; have k2 : env.blockKind = .function := by unfold Env.blockKind; rw [hk]; rfl
  unfold swapsWith; simp only [k2, k1, ha, Expr.pos, hl]; rfl
/-- behind the block: the value goes to its name -/
theorem used_at {pins : List (Addr × Obj)} {D : Ends} (hN : X.N.Nodup) (hy : X.N[i]? = some y) (hyl : X.env.scope.names.lookup y = some .local) {L C : Addr} {s' : Shared} {m : Str → Option Value} {H' : Hp} (I' : Inv X pins σ H' s') (q : gName i (.ref L) σ H' D.nx) (hn : s'.heap.Ns C m) (f : FpOk X pins H' C) :
    compPost (model X.prog X.w) X.A X.xe (some (assign (.Name y py) X.env)) (fun _ s' => SP X pins D .next s') (.ref L) C (.ok .next) s' := by
  show wpAny _ _ (assign (.Name y py) X.env (.ref L)) _ _ _; refine wpAny_assign_Name (store_ok2 (v := V.ref L) I' hN hy (.inl hyl) rfl (fun s2 I2 ⟨a, sb, ha⟩ => ?_) (.inr hyl))
  obtain ⟨f0, f1, f2, f3, f4, f5⟩ := f; have nC : C ≠ a := ha.elim (fun z => by rw [z]; exact f1) (fun z e => f4 y a z e.symm)
  exact ⟨m, hn.sameBut sb nC, fun h3 sb3 => ⟨_, H', I2.turned (t' := s2.toks) (fun b o hb e => (sb3.2 b hb).trans e) f0 f1 f3 f4 f5, q⟩⟩
theorem ps_setSc (hc : X.calm = true) (hN : X.N.Nodup) (hy : X.N[i]? = some y) (hyl : X.env.scope.names.lookup y = some .local) (hsw : swapsWith (.SetComp elt [⟨tg, iter, ifs, 0⟩] scope pos) (some (.Name y py)) spos.line X.env = pure true) (hi : PI X tg iter wi) (ok : BlkOk X.N X.env.scope scope own)
    (hg : ∀ (s : Shared) (H : Hp) (C : Addr) (cl : List (Str × Addr)) (fp : List Addr), PG (X.blk s H scope (compEnvC scope cl C X.env) fp) tg g) (ht : ∀ (s : Shared) (H : Hp) (C : Addr) (cl : List (Str × Addr)) (fp : List Addr), PTs (X.blk s H scope (compEnvC scope cl C X.env) fp) ifs tt)
    (he : ∀ (s : Shared) (H : Hp) (C : Addr) (cl : List (Str × Addr)) (fp : List Addr), PE (X.blk s H scope (compEnvC scope cl C X.env) fp) elt te) (hs : ∀ x, foldedSetIterable iter X.env x = pure x := by intro _; rfl) : PS X (.Assign [.Name y py] (.SetComp elt [⟨tg, iter, ifs, 0⟩] scope pos) spos) (tAsg (PpSet.tSc X.w wi g tt te (own.map (·.2))) (gName i)) := ⟨fun pins s σ H D I h => by
  rw [exec_Assign_Name_used _ _ _ _ hsw]; refine wpAny_bind (wpAny_standAt (wpAny_bind ?_))
  show wpAny _ X.A (do let _ ← comprehension (.SetComp elt [⟨tg, iter, ifs, 0⟩] scope pos) scope X.env (firstIterPos [⟨tg, iter, ifs, 0⟩] pos) (newSet (.type "set")) false (eval iter X.env) (some (assign (.Name y py) X.env))) _ _ s
  have h : PpSet.tSc X.w wi g tt te (own.map (·.2)) σ H (fun x H1 => gName i x σ H1 D.nx) := h
  exact wpAny_bind (thn (PpSet.sc_core (Qf := fun _ s' => SP X pins D .next s') hc hN I hi ok hg ht he hs h fun L C s' m H' I' q hn f => used_at hN hy hyl I' q hn f) fun _ s' hq => wpAny_pure (wpAny_pure hq))⟩
theorem ps_setDc (hc : X.calm = true) (hN : X.N.Nodup) (hy : X.N[i]? = some y) (hyl : X.env.scope.names.lookup y = some .local) (hsw : swapsWith (.DictComp kx vx [⟨tg, iter, ifs, 0⟩] scope pos) (some (.Name y py)) spos.line X.env = pure true) (hi : PI X tg iter wi) (ok : BlkOk X.N X.env.scope scope own)
    (hg : ∀ (s : Shared) (H : Hp) (C : Addr) (cl : List (Str × Addr)) (fp : List Addr), PG (X.blk s H scope (compEnvC scope cl C X.env) fp) tg g) (ht : ∀ (s : Shared) (H : Hp) (C : Addr) (cl : List (Str × Addr)) (fp : List Addr), PTs (X.blk s H scope (compEnvC scope cl C X.env) fp) ifs tt)
    (hk : ∀ (s : Shared) (H : Hp) (C : Addr) (cl : List (Str × Addr)) (fp : List Addr), PE (X.blk s H scope (compEnvC scope cl C X.env) fp) kx tk)
    (he : ∀ (s : Shared) (H : Hp) (C : Addr) (cl : List (Str × Addr)) (fp : List Addr), PE (X.blk s H scope (compEnvC scope cl C X.env) fp) vx tv) (hs : ∀ x, foldedSetIterable iter X.env x = pure x := by intro _; rfl) : PS X (.Assign [.Name y py] (.DictComp kx vx [⟨tg, iter, ifs, 0⟩] scope pos) spos) (tAsg (tDc wi g tt tk tv (own.map (·.2))) (gName i)) := ⟨fun pins s σ H D I h => by
  rw [exec_Assign_Name_used _ _ _ _ hsw]; refine wpAny_bind (wpAny_standAt (wpAny_bind ?_))
  show wpAny _ X.A (do let _ ← comprehension (.DictComp kx vx [⟨tg, iter, ifs, 0⟩] scope pos) scope X.env (firstIterPos [⟨tg, iter, ifs, 0⟩] pos) newDict false (eval iter X.env) (some (assign (.Name y py) X.env))) _ _ s
  have h : tDc wi g tt tk tv (own.map (·.2)) σ H (fun x H1 => gName i x σ H1 D.nx) := h
  exact wpAny_bind (thn (dc_core (Qf := fun _ s' => SP X pins D .next s') hc hN I hi ok hg ht hk he hs h fun L C s' m H' I' q hn f => used_at hN hy hyl I' q hn f) fun _ s' hq => wpAny_pure (wpAny_pure hq))⟩
theorem ds_setSc0 (i : Nat) (own : List (Str × Nat)) (hN : X.N.Nodup) (hi : DI X W tg iter fi) (ok : blkC X.N X.env.scope scope own = true)
    (hsw : swapsWith (.SetComp elt [⟨tg, iter, ifs, 0⟩] scope pos) (some (.Name y py)) spos.line X.env = pure true)
    (hy : X.N[i]? = some y := by rfl) (hyl : X.env.scope.names.lookup y = some .local := by rfl) (hc : X.calm = true := by rfl) (hs : ∀ x, foldedSetIterable iter X.env x = pure x := by intro _; rfl) :
    DS X W (.Assign [.Name y py] (.SetComp elt [⟨tg, iter, ifs, 0⟩] scope pos) spos) (setS i (sc0E fi)) := fun c ρ m σ H En r s w => by
  refine wst_of (ps_setSc hc hN hy hyl hsw pi_w (blkOk_by ok) pg_r pt_r pe_r hs) (hi c ρ m σ H _ r s ?_)
  unfold setS sc0E at w
  cases q : fi ρ m with
  | stuck => rw [q] at w; exact w.elim
  | exc x m1 =>
    rw [q] at w
    exact fun c1 cls dd H1 g1 hv => w c1 σ cls dd H1 g1 (g1.slots s) hv
  | ok ds m1 =>
    rw [q] at w
    intro c1 J H1 g1 hJ Dn hD
    cases ds with
    | cons d ds => exact w.elim
    | nil =>
      have g2 : Gd X.kw c1 c1 m1 H1 (upd H1 Dn (PpSet.SetBO X.w Dn (fun _ => false) 0)) := g1.rel.lay hD
      refine ⟨fun i mm H' => i = 0 ∧ H' = upd H1 Dn (PpSet.SetBO X.w Dn (fun _ => false) 0), ⟨0, rfl, rfl⟩, ?_⟩
      rintro i mm H' ⟨rfl, rfl⟩
      obtain ⟨_, hstop⟩ := hJ c1 m1 _ g2.pre g2.ext g2.rel 0
      have gg := g1.trans g2
      exact .inl ⟨hstop (Nat.le_refl _), w c1 _ _ gg ((gg.slots s).set _ (by unfold VD; exact ⟨Dn, rfl⟩))⟩
/-- the ghost step of a dict behind a statement -/
def nxK (w : World) (R : St → Hp → Prop) (i : Nat) (σ : St) : V → Hp → Prop := QK w fun v H => R (σ.set i (some v)) H
end
end L2.Dn
namespace L2.Dn
open PySem PySem.Spec PyProof.Rows L2
/-! ### evaluation: what the operations do on data of known form -/
variable {m : Store} {z : Md}
theorem eqP_int (n : Bool) (i j : Int) : eqP n (.p (.int i)) (.p (.int j)) m = some (.p (.bool (if n then !(i == j) else (i == j))), m) := by
  simp only [eqP, whole_p, SeqAt.shaped, PyData.canLay0, PyData.depth, PyData.eqv]
  rfl
theorem eqG_int (n : Bool) (i j : Int) : eqG n (.p (.int i)) (.p (.int j)) m = some (.p (.bool (if n then !(i == j) else (i == j))), m) := eqP_int n i j
theorem eqG_str (n : Bool) (x y : Str) : eqG n (.p (.str x)) (.p (.str y)) m = some (.p (.bool (if n then !(x == y) else (x == y))), m) := rfl
theorem addD_int (i j : Int) : addD z (.p (.int i)) (.p (.int j)) m = some (.p (.int (i + j)), m) := rfl
theorem subI_int (i j : Int) : subI (.p (.int i)) (.p (.int j)) m = some (.p (.int (i - j)), m) := rfl
theorem ltI_int (i j : Int) : ltI (.p (.int i)) (.p (.int j)) m = some (.p (.bool (decide (i < j))), m) := rfl
theorem leI_int (i j : Int) : leI (.p (.int i)) (.p (.int j)) m = some (.p (.bool (decide (i ≤ j))), m) := rfl
theorem gtI_int (i j : Int) : gtI (.p (.int i)) (.p (.int j)) m = some (.p (.bool (decide (j < i))), m) := rfl
theorem geI_int (i j : Int) : geI (.p (.int i)) (.p (.int j)) m = some (.p (.bool (decide (j ≤ i))), m) := rfl
theorem mulD_int {i j : Int} (h : (small i || small j) = true) : mulD (.p (.int i)) (.p (.int j)) m = some (.p (.int (i * j)), m) := by
  simp only [mulD, altO, mulI, intOp, h, if_true]
theorem modI_int {i j : Int} (h : 0 < j) : modI (.p (.int i)) (.p (.int j)) m = some (.p (.int (i % j)), m) := by
  simp only [modI, intOp, decide_eq_true h, if_true]
theorem fdivI_int {i j : Int} (h : 0 < j) (h2 : j < 2 ^ 64) : fdivI (.p (.int i)) (.p (.int j)) m = some (.p (.int (i / j)), m) := by
  simp only [fdivI, intOp, decide_eq_true h, decide_eq_true h2, Bool.and_self, if_true]
theorem intD_int (i : Int) : intD [.p (.int i)] m = some (.p (.int i), m) := rfl
theorem absD_int (i : Int) : absD [.p (.int i)] m = some (.p (.int (if i < 0 then -i else i)), m) := rfl
theorem negI_int (i : Int) : negI (.p (.int i)) m = some (.p (.int (-i)), m) := rfl
theorem lenD_list (ds : List PyData) : lenD [.p (.list ds)] m = some (.p (.int ds.length), m) := by
  simp only [lenD, tupOf, lstOf, List.length_map]
theorem lenD_tuple (ds : List PyData) : lenD [.p (.tuple ds)] m = some (.p (.int ds.length), m) := by
  simp only [lenD, tupOf, List.length_map]
theorem ixN_nat {n k : Nat} (h : k < n) : ixN n (k : Int) = some k := by
  unfold ixN
  rw [if_pos (by omega), if_pos (by omega)]
  simp
theorem atI_at {α : Type} {xs : List α} {k : Int} (h0 : 0 ≤ k) : L2.atI xs k = xs[k.toNat]? := by
  unfold L2.atI ixN
  rw [if_pos h0]
  split
  · rfl
  · rw [List.getElem?_eq_none (by omega)]
    rfl
theorem ixD_list {ds : List PyData} {k : Int} (h : 0 ≤ k) : ixD (.p (.list ds)) (.p (.int k)) m = (ds[k.toNat]?).map fun d => (.p d, m) := by
  simp only [ixD, tupOf, lstOf, atI_at h, List.getElem?_map, Option.map_map]
  rfl
theorem ixD_cell {i : Ix} {xs : List D} {k : Int} (e : m.at_ i = some (.lst xs)) (h : 0 ≤ k) : ixD (.cell i) (.p (.int k)) m = (xs[k.toNat]?).map fun d => (d, m) := by
  simp only [ixD, tupOf, lstOf, e, atI_at h]
theorem setItemD_cell {i : Ix} {xs : List D} {k : Int} {d : D} (e : m.at_ i = some (.lst xs)) (h : 0 ≤ k) (hl : k < xs.length) (hd : okIn d i = true) : setItemD (.cell i) (.p (.int k)) d m = some (m.set (.lst (xs.set k.toNat d)) i) := by
  have e1 : ixN xs.length k = some k.toNat := by
    unfold ixN
    rw [if_pos h, if_pos hl]
  simp only [setItemD, e, e1, hd, if_true]
theorem getL_cell {i : Ix} {xs : List D} {k : Int} (e : m.at_ i = some (.lst xs)) (h : 0 ≤ k) : getL (.cell i) (.p (.int k)) m = xs[k.toNat]? := by
  simp only [getL, if_pos h, lstOf, e]
theorem alt_some {g h : D → D → Store → OD} {x y : D} {r : D × Store} (e : g x y m = some r) : altO g h x y m = some r := by
  unfold altO
  rw [e]
theorem mulG_int {i j : Int} (h : (small i || small j) = true) : mulG z (.p (.int i)) (.p (.int j)) m = some (.p (.int (i * j)), m) := alt_some (mulD_int h)
theorem lenG_list (ds : List PyData) : lenG [.p (.list ds)] m = some (.p (.int ds.length), m) := by
  simp only [lenG, lenD_list]
theorem lenG_tuple (ds : List PyData) : lenG [.p (.tuple ds)] m = some (.p (.int ds.length), m) := by
  simp only [lenG, lenD_tuple]
theorem ixG_list {ds : List PyData} {k : Int} {d : PyData} (h : 0 ≤ k) (e : ds[k.toNat]? = some d) : ixG (.p (.list ds)) (.p (.int k)) m = some (.p d, m) := alt_some (by rw [ixD_list h, e]; rfl)
/-! ### the bag of draws -/
structure Bag where
  b0 : Int
  b1 : Int
  b2 : Int
  cs : List Int
def Bag.cell (b : Bag) : Cell := .lst [.p (.int b.b0), .p (.int b.b1), .p (.int b.b2), .p (.list (b.cs.map .int))]
structure Bag.Ok (b : Bag) : Prop where
  h0 : 0 ≤ b.b0
  h1 : 0 ≤ b.b1
  h1' : b.b1 < 2147483647
  h2 : 0 ≤ b.b2
  hc : ∀ c ∈ b.cs, 0 ≤ c
/-! ### the combinators on results of known form -/
section
variable {α β : Type} {a : α} {x : Exn} {ρ : Rho} {d : D}
theorem bind_ok {k : α → Store → Res β} : (Res.ok a m).bind k = k a m := rfl
theorem bind_exc {k : α → Store → Res β} : (Res.exc x m : Res α).bind k = .exc x m := rfl
theorem bindS_ok {k : α → Store → SRes} : (Res.ok a m).bindS ρ k = k a m := rfl
theorem bindS_exc {k : α → Store → SRes} : (Res.exc x m : Res α).bindS ρ k = .exc x ρ m := rfl
theorem lift_some : lift (some (d, m)) = .ok d m := rfl
theorem testR_ok {b : Bool} : testR (.ok (.p (.bool b)) m) = .ok b m := rfl
theorem seq_nx {k : FS} : (SRes.nx ρ m).seq k = k ρ m := rfl
theorem seq_rt {k : FS} : (SRes.rt d m).seq k = .rt d m := rfl
theorem seq_bk {k : FS} : (SRes.bk ρ m).seq k = .bk ρ m := rfl
theorem seq_ct {k : FS} : (SRes.ct ρ m).seq k = .ct ρ m := rfl
theorem fin_rt {d : PyData} : fin (.rt (.p d) m) = .ok (.p d) m.g := rfl
theorem fin_cell {i : Nat} : fin (.rt (.cell (.g i)) m) = .ok (.cell (.g i)) m.g := rfl
theorem res_ok {d : D} {g l : List Cell} : (RG.ok d g).res l = .ok d ⟨g, l⟩ := rfl
theorem opE_eq (g : D → D → Store → OD) (fa fb : FE) : opE g fa fb ρ m = (fa ρ m).bind fun x m1 => (fb ρ m1).bind fun y m2 => lift (g x y m2) := rfl
theorem vE_0 {r : Rho} : vE 0 (some d :: r) m = .ok d m := rfl
theorem vE_s {i : Nat} {o : Option D} {r : Rho} : vE (i + 1) (o :: r) m = vE i r m := by
  unfold vE
  rw [List.getElem?_cons_succ]
theorem mapO_some {γ δ : Type} (f : γ → δ) (c : γ) : Option.map f (some c) = some (f c) := rfl
theorem gset {g l : List Cell} {c : Cell} {i : Nat} : (⟨g, l⟩ : Store).set c (.g i) = ⟨g.set i c, l⟩ := rfl
theorem gat {g l : List Cell} {i : Nat} : (⟨g, l⟩ : Store).at_ (.g i) = g[i]? := rfl
theorem lat {g l : List Cell} {i : Nat} : (⟨g, l⟩ : Store).at_ (.l i) = l[i]? := rfl
theorem okIn_p {d : PyData} {i : Ix} : okIn (.p d) i = true := by cases i <;> rfl
theorem ite_tt {γ : Type} {a b : γ} : (if true = true then a else b) = a := rfl
theorem ite_ff {γ : Type} {a b : γ} : (if false = true then a else b) = b := rfl
end
end L2.Dn
namespace L2.Dn
open PySem PySem.Spec PyProof.Rows L2
/-! ### the bag and the draws: the same text in every law -/
def takeB : FS := (seqS (ifS (testE (opE (eqG false) (opE ixG (vE 0) (cE (.int 0))) (cE (.int 0)))) (seqS (setS 2 (cE (.int 0)))
  (seqS (ifS (testE (opE ltI (opE ixG (vE 0) (cE (.int 2))) (calE lenG (consA (opE ixG (vE 0) (cE (.int 3))) nilA)))) (setS 2 (opE ixG (opE ixG (vE 0) (cE (.int 3))) (opE ixG (vE 0) (cE (.int 2))))) nilS)
  (seqS (augI addI (vE 0) (cE (.int 2)) (cE (.int 1)))
  (seqS (ifS (testE (opE geI (vE 2) (opE powI (cE (.int 10)) (cE (.int 18))))) (asgS (vE 2) (subG setG (vE 0) (cE (.int 0)))) nilS)
  (seqS (setS 3 (opE (addD .z) (opE (addD .z) (opE (mulG .z) (opE ixG (vE 0) (cE (.int 1))) (cE (.int 48271))) (opE modI (calE intD (consA (vE 2) nilA)) (cE (.int 2147483647)))) (opE (mulG .z) (cE (.int 7919)) (opE ixG (vE 0) (cE (.int 2))))))
  (asgS (opE modI (calE intD (consA (vE 3) nilA)) (cE (.int 2147483647))) (subG setG (vE 0) (cE (.int 1))))))))) nilS)
  (seqS (ifS (testE (opE gtI (opE ixG (vE 0) (cE (.int 0))) (cE (.int 0)))) (seqS (setS 4 (opE modI (calE intD (consA (opE ixG (vE 0) (cE (.int 0))) nilA)) (vE 1)))
  (seqS (asgS (opE fdivI (calE intD (consA (opE ixG (vE 0) (cE (.int 0))) nilA)) (vE 1)) (subG setG (vE 0) (cE (.int 0))))
  (retS (vE 4)))) nilS)
  (seqS (setS 5 (opE modI (calE intD (consA (opE (mulG .z) (opE (addD .z) (opE ixG (vE 0) (cE (.int 1))) (cE (.int 1))) (cE (.int 39373))) nilA)) (cE (.int 1000000007))))
  (seqS (setS 6 (opE modI (calE intD (consA (opE (mulG .z) (vE 5) (vE 5)) nilA)) (cE (.int 998244353))))
  (seqS (setS 6 (opE modI (calE intD (consA (opE (mulG .z) (vE 6) (cE (.int 30011))) nilA)) (cE (.int 998244353))))
  (seqS (ifS (testE (opE gtI (vE 1) (cE (.int 1000000)))) (retS (opE modI (calE intD (consA (opE (addD .z) (opE (mulG .z) (vE 6) (cE (.int 1000000007))) (vE 5)) nilA)) (vE 1))) nilS)
  (retS (opE modI (calE intD (consA (opE fdivI (vE 6) (cE (.int 7))) nilA)) (vE 1)))))))))
def bagB : FS := (retS (lstE .g (consA (cE (.int 0)) (consA (cE (.int 1234567891)) (consA (cE (.int 0)) (consA (lcE .z [1] (walkI (slE (slD .z) (vE 0) noO (someO (cE (.int 63))))) (oneG 1) yesT (calE absD (consA (vE 1) nilA))) nilA))))))
def alikeB : FS := (retS (andG (opE (eqG false) (vE 0) (vE 1)) (opE (eqG false) (calE reprD (consA (vE 0) nilA)) (calE reprD (consA (vE 1) nilA)))))
/-- the bag's list, at the store's head -/
def bagC (a b c : Int) (cs : List PyData) : Cell := .lst [.p (.int a), .p (.int b), .p (.int c), .p (.list cs)]
section
variable {a b c d : Int} {cs : List PyData} {g l : List Cell}
theorem bix0 : ixG (.cell (.g 0)) (.p (.int 0)) ⟨bagC a b c cs :: g, l⟩ = some (.p (.int a), ⟨bagC a b c cs :: g, l⟩) := rfl
theorem bix1 : ixG (.cell (.g 0)) (.p (.int 1)) ⟨bagC a b c cs :: g, l⟩ = some (.p (.int b), ⟨bagC a b c cs :: g, l⟩) := rfl
theorem bix2 : ixG (.cell (.g 0)) (.p (.int 2)) ⟨bagC a b c cs :: g, l⟩ = some (.p (.int c), ⟨bagC a b c cs :: g, l⟩) := rfl
theorem bix3 : ixG (.cell (.g 0)) (.p (.int 3)) ⟨bagC a b c cs :: g, l⟩ = some (.p (.list cs), ⟨bagC a b c cs :: g, l⟩) := rfl
theorem bset0 : setG (.cell (.g 0)) (.p (.int 0)) (.p (.int d)) ⟨bagC a b c cs :: g, l⟩ = some ⟨bagC d b c cs :: g, l⟩ := rfl
theorem bset1 : setG (.cell (.g 0)) (.p (.int 1)) (.p (.int d)) ⟨bagC a b c cs :: g, l⟩ = some ⟨bagC a d c cs :: g, l⟩ := rfl
theorem bset2 : setG (.cell (.g 0)) (.p (.int 2)) (.p (.int d)) ⟨bagC a b c cs :: g, l⟩ = some ⟨bagC a b d cs :: g, l⟩ := rfl
theorem bsetI2 : setItemD (.cell (.g 0)) (.p (.int 2)) (.p (.int d)) ⟨bagC a b c cs :: g, l⟩ = some ⟨bagC a b d cs :: g, l⟩ := rfl
theorem bget2 : getL (.cell (.g 0)) (.p (.int 2)) ⟨bagC a b c cs :: g, l⟩ = some (.p (.int c)) := rfl
end
theorem addI_int {m : Store} (i j : Int) : addI (.p (.int i)) (.p (.int j)) m = some (.p (.int (i + j)), m) := rfl
theorem mul_r {m : Store} {i j : Int} (h : small j = true) : mulG .z (.p (.int i)) (.p (.int j)) m = some (.p (.int (i * j)), m) := mulG_int (by rw [h, Bool.or_true])
theorem mul_l {m : Store} {i j : Int} (h : small i = true) : mulG .z (.p (.int i)) (.p (.int j)) m = some (.p (.int (i * j)), m) := mulG_int (by rw [h]; rfl)
theorem small_of {i : Int} (h0 : 0 ≤ i) (h : i < 2 ^ 64) : small i = true := by
  have h1 : -(2 ^ 64) < i := by omega
  simp only [small, decide_eq_true h1, decide_eq_true h, Bool.and_self]
theorem pow18 {m : Store} : powI (.p (.int 10)) (.p (.int 18)) m = some (.p (.int 1000000000000000000), m) := rfl
local macro_rules | `(tactic| walk_at "ev") => `(tactic| try simp only [seqS, ifS, setS, asgS, subG, augI, retS, exprS, nilS, testE, opE_eq, calE, consA, nilA, cE, vE_0, vE_s, bind_ok, bindS_ok, lift_some, testR_ok, seq_nx, seq_rt, fin_rt, res_ok, List.set_cons_zero, List.set_cons_succ,
  bix0, bix1, bix2, bix3, bset0, bset1, bset2, bsetI2, bget2, addI_int, pow18, ite_tt, ite_ff, addD_int, subI_int, ltI_int, leI_int, gtI_int, geI_int, eqG_int, intD_int, lenG_list, Bool.false_eq_true, if_false, if_true])
/-- the bag holds whole numbers, none below 0 -/
structure BagOk (a b c : Int) (cs : List PyData) : Prop where
  h0 : 0 ≤ a
  h1 : 0 ≤ b
  h1' : b < 2147483647
  h2 : 0 ≤ c
  hc : ∀ x ∈ cs, ∃ i : Int, x = .int i ∧ 0 ≤ i
/-- the draw's second half -/
def takeT : FS := (seqS (ifS (testE (opE gtI (opE ixG (vE 0) (cE (.int 0))) (cE (.int 0)))) (seqS (setS 4 (opE modI (calE intD (consA (opE ixG (vE 0) (cE (.int 0))) nilA)) (vE 1)))
  (seqS (asgS (opE fdivI (calE intD (consA (opE ixG (vE 0) (cE (.int 0))) nilA)) (vE 1)) (subG setG (vE 0) (cE (.int 0))))
  (retS (vE 4)))) nilS)
  (seqS (setS 5 (opE modI (calE intD (consA (opE (mulG .z) (opE (addD .z) (opE ixG (vE 0) (cE (.int 1))) (cE (.int 1))) (cE (.int 39373))) nilA)) (cE (.int 1000000007))))
  (seqS (setS 6 (opE modI (calE intD (consA (opE (mulG .z) (vE 5) (vE 5)) nilA)) (cE (.int 998244353))))
  (seqS (setS 6 (opE modI (calE intD (consA (opE (mulG .z) (vE 6) (cE (.int 30011))) nilA)) (cE (.int 998244353))))
  (seqS (ifS (testE (opE gtI (vE 1) (cE (.int 1000000)))) (retS (opE modI (calE intD (consA (opE (addD .z) (opE (mulG .z) (vE 6) (cE (.int 1000000007))) (vE 5)) nilA)) (vE 1))) nilS)
  (retS (opE modI (calE intD (consA (opE fdivI (vE 6) (cE (.int 7))) nilA)) (vE 1))))))))
def takeS : FS := (ifS (testE (opE (eqG false) (opE ixG (vE 0) (cE (.int 0))) (cE (.int 0)))) (seqS (setS 2 (cE (.int 0)))
  (seqS (ifS (testE (opE ltI (opE ixG (vE 0) (cE (.int 2))) (calE lenG (consA (opE ixG (vE 0) (cE (.int 3))) nilA)))) (setS 2 (opE ixG (opE ixG (vE 0) (cE (.int 3))) (opE ixG (vE 0) (cE (.int 2))))) nilS)
  (seqS (augI addI (vE 0) (cE (.int 2)) (cE (.int 1)))
  (seqS (ifS (testE (opE geI (vE 2) (opE powI (cE (.int 10)) (cE (.int 18))))) (asgS (vE 2) (subG setG (vE 0) (cE (.int 0)))) nilS)
  (seqS (setS 3 (opE (addD .z) (opE (addD .z) (opE (mulG .z) (opE ixG (vE 0) (cE (.int 1))) (cE (.int 48271))) (opE modI (calE intD (consA (vE 2) nilA)) (cE (.int 2147483647)))) (opE (mulG .z) (cE (.int 7919)) (opE ixG (vE 0) (cE (.int 2))))))
  (asgS (opE modI (calE intD (consA (vE 3) nilA)) (cE (.int 2147483647))) (subG setG (vE 0) (cE (.int 1))))))))) nilS)
theorem takeB_eq : takeB = seqS takeS takeT := rfl
theorem takeT_ok {a b c n : Int} {cs : List PyData} {g l : List Cell} {o2 o3 : Option D} (hb : BagOk a b c cs) (h0 : 0 < n) (h1 : n < 2 ^ 64) :
    ∃ r a', 0 ≤ r ∧ r < n ∧ BagOk a' b c cs ∧ fin (takeT [some (.cell (.g 0)), some (.p (.int n)), o2, o3, none, none, none] ⟨bagC a b c cs :: g, l⟩) = .ok (.p (.int r)) (bagC a' b c cs :: g) := by
  unfold takeT
  by_cases hz : 0 < a
  · refine ⟨a % n, a / n, Int.emod_nonneg _ (by omega), Int.emod_lt_of_pos _ h0, ⟨Int.ediv_nonneg hb.h0 (by omega), hb.h1, hb.h1', hb.h2, hb.hc⟩, ?_⟩
    walk_at "ev"
    simp only [decide_eq_true hz, if_true]
    walk_at "ev"
    simp only [modI_int h0, fdivI_int h0 h1]
    walk_at "ev"
    simp only [fdivI_int h0 h1]
    walk_at "ev"
  · have d0 : (0 : Int) < 1000000007 := by decide
    have d1 : (0 : Int) < 998244353 := by decide
    have d7 : (0 : Int) < 7 := by decide
    have d8 : (7 : Int) < 2 ^ 64 := by decide
    have s0 : small 39373 = true := by decide
    have s1 : small 30011 = true := by decide
    have s2 : small 1000000007 = true := by decide
    have s3 : small ((b + 1) * 39373 % 1000000007) = true := small_of (Int.emod_nonneg _ (by decide)) (Int.lt_trans (Int.emod_lt_of_pos _ d0) (by decide))
    by_cases hm : 1000000 < n
    · refine ⟨(((((b + 1) * 39373 % 1000000007) * ((b + 1) * 39373 % 1000000007) % 998244353) * 30011 % 998244353) * 1000000007 + ((b + 1) * 39373 % 1000000007)) % n, a, Int.emod_nonneg _ (by omega), Int.emod_lt_of_pos _ h0, hb, ?_⟩
      walk_at "ev"
      simp only [decide_eq_false hz, Bool.false_eq_true, if_false]
      walk_at "ev"
      simp only [mul_r s0]
      walk_at "ev"
      simp only [modI_int d0]
      walk_at "ev"
      simp only [mul_r s3]
      walk_at "ev"
      simp only [modI_int d1]
      walk_at "ev"
      simp only [mul_r s1]
      walk_at "ev"
      simp only [modI_int d1]
      walk_at "ev"
      simp only [decide_eq_true hm, if_true]
      walk_at "ev"
      simp only [mul_r s2]
      walk_at "ev"
      simp only [modI_int h0]
      walk_at "ev"
    · refine ⟨((((b + 1) * 39373 % 1000000007) * ((b + 1) * 39373 % 1000000007) % 998244353) * 30011 % 998244353) / 7 % n, a, Int.emod_nonneg _ (by omega), Int.emod_lt_of_pos _ h0, hb, ?_⟩
      walk_at "ev"
      simp only [decide_eq_false hz, Bool.false_eq_true, if_false]
      walk_at "ev"
      simp only [mul_r s0]
      walk_at "ev"
      simp only [modI_int d0]
      walk_at "ev"
      simp only [mul_r s3]
      walk_at "ev"
      simp only [modI_int d1]
      walk_at "ev"
      simp only [mul_r s1]
      walk_at "ev"
      simp only [modI_int d1]
      walk_at "ev"
      simp only [decide_eq_false hm, Bool.false_eq_true, if_false]
      walk_at "ev"
      simp only [fdivI_int d7 d8]
      walk_at "ev"
      simp only [modI_int h0]
      walk_at "ev"
theorem bag_cell {a b c : Int} {cs : List PyData} (hb : BagOk a b c cs) {m : Store} (h : c < cs.length) : ∃ i : Int, 0 ≤ i ∧ ixG (.p (.list cs)) (.p (.int c)) m = some (.p (.int i), m) := by
  have hl : c.toNat < cs.length := by have := hb.h2; omega
  obtain ⟨i, e, hi⟩ := hb.hc cs[c.toNat] (List.getElem_mem hl)
  refine ⟨i, hi, ?_⟩
  exact ixG_list hb.h2 (by rw [List.getElem?_eq_getElem hl, e])
theorem takeS_ok {a b c n : Int} {cs : List PyData} {g l : List Cell} (hb : BagOk a b c cs) :
    ∃ a' b' c' o2 o3, BagOk a' b' c' cs ∧ takeS [some (.cell (.g 0)), some (.p (.int n)), none, none, none, none, none] ⟨bagC a b c cs :: g, l⟩ = .nx [some (.cell (.g 0)), some (.p (.int n)), o2, o3, none, none, none] ⟨bagC a' b' c' cs :: g, l⟩ := by
  unfold takeS
  by_cases hz : (a == 0) = true
  · have s0 : small 48271 = true := by decide
    have s1 : small 7919 = true := by decide
    have d0 : (0 : Int) < 2147483647 := by decide
    have key : ∀ x : Int, 0 ≤ x → ∃ a' b' c' o2 o3, BagOk a' b' c' cs ∧ (seqS (augI addI (vE 0) (cE (.int 2)) (cE (.int 1)))
  (seqS (ifS (testE (opE geI (vE 2) (opE powI (cE (.int 10)) (cE (.int 18))))) (asgS (vE 2) (subG setG (vE 0) (cE (.int 0)))) nilS)
  (seqS (setS 3 (opE (addD .z) (opE (addD .z) (opE (mulG .z) (opE ixG (vE 0) (cE (.int 1))) (cE (.int 48271))) (opE modI (calE intD (consA (vE 2) nilA)) (cE (.int 2147483647)))) (opE (mulG .z) (cE (.int 7919)) (opE ixG (vE 0) (cE (.int 2))))))
  (asgS (opE modI (calE intD (consA (vE 3) nilA)) (cE (.int 2147483647))) (subG setG (vE 0) (cE (.int 1))))))) [some (.cell (.g 0)), some (.p (.int n)), some (.p (.int x)), none, none, none, none] ⟨bagC a b c cs :: g, l⟩ = .nx [some (.cell (.g 0)), some (.p (.int n)), o2, o3, none, none, none] ⟨bagC a' b' c' cs :: g, l⟩ := by
      intro x hx
      by_cases hw : (1000000000000000000 : Int) ≤ x
      · refine ⟨x, (b * 48271 + x % 2147483647 + 7919 * (c + 1)) % 2147483647, c + 1, some (.p (.int x)), some (.p (.int (b * 48271 + x % 2147483647 + 7919 * (c + 1)))), ⟨hx, Int.emod_nonneg _ (by decide), Int.emod_lt_of_pos _ d0, by have := hb.h2; omega, hb.hc⟩, ?_⟩
        walk_at "ev"
        simp only [decide_eq_true hw, if_true]
        walk_at "ev"
        simp only [mul_r s0, mul_l s1, modI_int d0]
        walk_at "ev"
        simp only [mul_r s0, mul_l s1, modI_int d0]
        walk_at "ev"
        simp only [mul_r s0, mul_l s1, modI_int d0]
        walk_at "ev"
      · refine ⟨a, (b * 48271 + x % 2147483647 + 7919 * (c + 1)) % 2147483647, c + 1, some (.p (.int x)), some (.p (.int (b * 48271 + x % 2147483647 + 7919 * (c + 1)))), ⟨hb.h0, Int.emod_nonneg _ (by decide), Int.emod_lt_of_pos _ d0, by have := hb.h2; omega, hb.hc⟩, ?_⟩
        walk_at "ev"
        simp only [decide_eq_false hw, Bool.false_eq_true, if_false]
        walk_at "ev"
        simp only [mul_r s0, mul_l s1, modI_int d0]
        walk_at "ev"
        simp only [mul_r s0, mul_l s1, modI_int d0]
        walk_at "ev"
        simp only [mul_r s0, mul_l s1, modI_int d0]
        walk_at "ev"
    by_cases hi : c < (cs.length : Int)
    · obtain ⟨i, hi0, e⟩ := bag_cell hb (m := ⟨bagC a b c cs :: g, l⟩) hi
      obtain ⟨a', b', c', o2, o3, k1, k2⟩ := key i hi0
      refine ⟨a', b', c', o2, o3, k1, ?_⟩
      rw [← k2]
      simp only [ifS, testE, opE_eq, seqS, setS, cE, vE_0, vE_s, bind_ok, bindS_ok, bix0, bix2, bix3, lift_some, eqG_int, testR_ok, hz, if_true, Bool.false_eq_true, if_false, ite_tt, ite_ff, seq_nx, calE, consA, nilA, lenG_list, ltI_int, decide_eq_true hi, e, List.set_cons_zero, List.set_cons_succ]
    · obtain ⟨a', b', c', o2, o3, k1, k2⟩ := key 0 (by decide)
      refine ⟨a', b', c', o2, o3, k1, ?_⟩
      rw [← k2]
      simp only [ifS, testE, opE_eq, seqS, setS, cE, vE_0, vE_s, bind_ok, bindS_ok, bix0, bix2, bix3, lift_some, eqG_int, testR_ok, hz, if_true, Bool.false_eq_true, if_false, ite_tt, ite_ff, seq_nx, calE, consA, nilA, lenG_list, ltI_int, decide_eq_false hi, List.set_cons_zero, List.set_cons_succ, nilS]
  · have hz' : (a == 0) = false := by simpa using hz
    refine ⟨a, b, c, none, none, hb, ?_⟩
    simp only [ifS, testE, opE_eq, cE, vE_0, bind_ok, bindS_ok, bix0, lift_some, eqG_int, testR_ok, hz', Bool.false_eq_true, if_false, ite_ff, nilS]
def bagsOk (cs : List PyData) (C : Cell) : Prop := ∃ a b c, BagOk a b c cs ∧ C = bagC a b c cs
/-- a draw below n leaves a number below n and a bag -/
theorem take_ok {n : Int} {cs : List PyData} {g : List Cell} {C : Cell} (hC : bagsOk cs C) (h0 : 0 < n) (h1 : n < 2 ^ 64) :
    ∃ r C', 0 ≤ r ∧ r < n ∧ bagsOk cs C' ∧ fnD 7 takeB [.cell (.g 0), .p (.int n)] (C :: g) = .ok (.p (.int r)) (C' :: g) := by
  obtain ⟨a, b, c, hb, rfl⟩ := hC
  obtain ⟨a', b', c', o2, o3, k1, k2⟩ := takeS_ok (n := n) (g := g) (l := []) hb
  obtain ⟨r, a2, r0, r1, k3, k4⟩ := takeT_ok (g := g) (l := []) (o2 := o2) (o3 := o3) k1 h0 h1
  refine ⟨r, _, r0, r1, ⟨a2, b', c', k3, rfl⟩, ?_⟩
  change fin (seqS takeS takeT [some (.cell (.g 0)), some (.p (.int n)), none, none, none, none, none] ⟨bagC a b c cs :: g, []⟩) = _
  unfold seqS
  rw [k2]
  exact k4
end L2.Dn
namespace L2.Dn
open PySem PySem.Spec PyProof.Rows L2
/-! ### loops and comprehensions, by what each round does -/
section
variable {g : D → Rho → Option Rho} {t : Rho → Store → Res Bool} {fe : FE} {ρ : Rho}
theorem lcM_pick {f : D → D} {p : D → Bool} {m : Store} : ∀ {ds : List D}, (∀ d ∈ ds, ∃ ρ1, g d ρ = some ρ1 ∧ t ρ1 m = .ok (p d) m ∧ (p d = true → fe ρ1 m = .ok (f d) m)) → lcM g t fe ρ ds m = .ok ((ds.filter p).map f) m
  | [], _ => rfl
  | d :: ds, h => by
    obtain ⟨ρ1, h1, h2, h3⟩ := h d (List.mem_cons_self ..)
    have ih := lcM_pick (f := f) (p := p) (m := m) (ds := ds) fun x hx => h x (List.mem_cons_of_mem _ hx)
    unfold lcM
    rw [h1]
    simp only [h2, noX, bind_ok]
    cases hp : p d with
    | true =>
      rw [hp] at h2
      simp only [h3 hp, if_true, noX, bind_ok, ih, List.filter_cons_of_pos hp, List.map_cons]
    | false => simp only [Bool.false_eq_true, if_false, ih, List.filter_cons_of_neg (show ¬ p d = true by rw [hp]; exact Bool.false_ne_true)]
theorem lcM_map {f : D → D} {m : Store} {ds : List D} (h : ∀ d ∈ ds, ∃ ρ1, g d ρ = some ρ1 ∧ t ρ1 m = .ok true m ∧ fe ρ1 m = .ok (f d) m) : lcM g t fe ρ ds m = .ok (ds.map f) m := by
  have := lcM_pick (g := g) (t := t) (fe := fe) (ρ := ρ) (f := f) (p := fun _ => true) (m := m) (ds := ds) fun d hd => by
    obtain ⟨ρ1, h1, h2, h3⟩ := h d hd
    exact ⟨ρ1, h1, h2, fun _ => h3⟩
  rw [this, List.filter_eq_self.mpr fun _ _ => rfl]
/-- each round keeps I and yields an item that P holds of -/
theorem lcM_inv {I : Store → Prop} {P : D → Prop} : ∀ {ds : List D} {m : Store}, I m → (∀ d ∈ ds, ∀ m, I m → ∃ ρ1 y m', g d ρ = some ρ1 ∧ t ρ1 m = .ok true m ∧ fe ρ1 m = .ok y m' ∧ I m' ∧ P y) → ∃ ys m', lcM g t fe ρ ds m = .ok ys m' ∧ I m' ∧ (∀ y ∈ ys, P y) ∧ ys.length = ds.length
  | [], m, hI, _ => ⟨[], m, rfl, hI, by simp, rfl⟩
  | d :: ds, m, hI, h => by
    obtain ⟨ρ1, y, m1, h1, h2, h3, h4, h5⟩ := h d (List.mem_cons_self ..) m hI
    obtain ⟨ys, m2, k1, k2, k3, k4⟩ := lcM_inv (ds := ds) h4 fun x hx => h x (List.mem_cons_of_mem _ hx)
    refine ⟨y :: ys, m2, ?_, k2, ?_, by simp [k4]⟩
    · unfold lcM
      rw [h1]
      simp only [h2, noX, bind_ok, if_true, h3, k1]
    · intro z hz
      rcases List.mem_cons.mp hz with e | hz
      · rw [e]; exact h5
      · exact k3 z hz
end
/-- each round ends well and keeps R -/
theorem forS_inv {g : FG} {body : FS} {R : Rho → Store → Prop} : ∀ {ds : List D} {ρ : Rho} {m : Store}, R ρ m → (∀ d ∈ ds, ∀ ρ m, R ρ m → ∃ ρ' m', (g d ρ m).seq body = .nx ρ' m' ∧ R ρ' m') → ∃ ρ' m', forS g body ds ρ m = .nx ρ' m' ∧ R ρ' m'
  | [], ρ, m, hR, _ => ⟨ρ, m, rfl, hR⟩
  | d :: ds, ρ, m, hR, h => by
    obtain ⟨ρ1, m1, h1, h2⟩ := h d (List.mem_cons_self ..) ρ m hR
    obtain ⟨ρ2, m2, k1, k2⟩ := forS_inv (ds := ds) h2 fun x hx => h x (List.mem_cons_of_mem _ hx)
    refine ⟨ρ2, m2, ?_, k2⟩
    unfold forS
    rw [h1]
    exact k1
/-! ### the bag as the script gives it -/
theorem abs_ok (i : Int) : 0 ≤ (if i < 0 then -i else i) := by split <;> omega
theorem bag_ok (ns : List Int) (hl : ns.length ≤ 63) : ∃ cs C, bagsOk cs C ∧ fnD 2 bagB [nums ns] [] = .ok (.cell (.g 0)) [C] := by
  have h1 : slD .z (nums ns) none (some 63) ⟨[], []⟩ = some (.p (.list (ns.map .int)), ⟨[], []⟩) := by
    show some (mkLst (cutD ((ns.map PyData.int).map D.p) none (some 63)), _) = _
    have : cutD ((ns.map PyData.int).map D.p) none (some 63) = (ns.map PyData.int).map D.p := by
      unfold cutD
      have e1 : HT.sIx ((ns.map PyData.int).map D.p).length 0 none = 0 := rfl
      have e2 : HT.sIx ((ns.map PyData.int).map D.p).length ((ns.map PyData.int).map D.p).length (some 63) = ns.length := by
        simp only [List.length_map, HT.sIx]
        rw [if_neg (by decide)]
        have : (63 : Int).toNat = 63 := rfl
        omega
      rw [e1, e2, List.drop_zero, Nat.sub_zero, List.take_of_length_le (by simp)]
    rw [this, mkLst_p]
  have h2 : lcM (oneG 1) yesT (calE absD (consA (vE 1) nilA)) [some (nums ns), none] ((ns.map PyData.int).map D.p) ⟨[], []⟩ = .ok ((ns.map fun i => PyData.int (if i < 0 then -i else i)).map D.p) ⟨[], []⟩ := by
    have := lcM_map (g := oneG 1) (t := yesT) (fe := calE absD (consA (vE 1) nilA)) (ρ := [some (nums ns), none]) (m := ⟨[], []⟩) (ds := (ns.map PyData.int).map D.p) (f := fun d => match d with | .p (.int i) => .p (.int (if i < 0 then -i else i)) | d => d) fun d hd => by
      obtain ⟨q, hq, rfl⟩ := List.mem_map.mp hd
      obtain ⟨i, _, rfl⟩ := List.mem_map.mp hq
      exact ⟨[some (nums ns), some (.p (.int i))], rfl, rfl, rfl⟩
    rw [this]
    simp only [List.map_map]
    rfl
  refine ⟨ns.map fun i => PyData.int (if i < 0 then -i else i), _, ⟨0, 1234567891, 0, ⟨by decide, by decide, by decide, by decide, fun x hx => ?_⟩, rfl⟩, ?_⟩
  · simp only [List.mem_map] at hx
    obtain ⟨i, _, rfl⟩ := hx
    exact ⟨_, rfl, abs_ok i⟩
  · change fin (bagB [some (nums ns), none] ⟨[], []⟩) = _
    have hs : ((ns.map PyData.int).map D.p).length ≤ sizeLine := by
      rw [sizeLine_eq]
      simp only [List.length_map]
      omega
    have h3 : lcE .z [1] (walkI (slE (slD .z) (vE 0) noO (someO (cE (.int 63))))) (oneG 1) yesT (calE absD (consA (vE 1) nilA)) [some (nums ns), none] ⟨[], []⟩ = .ok (.p (.list (ns.map fun i => PyData.int (if i < 0 then -i else i)))) ⟨[], []⟩ := by
      simp only [lcE, walkI, slE, vE_0, noO, someO, cE, bind_ok, h1, lift_some, itemsZ, wipeR, List.set_cons_zero, List.set_cons_succ, if_pos hs, h2, newL, mkLst_p]
    simp only [bagB, retS, lstE, consA, cE, nilA, bind_ok, h3]
    rfl
/-! ### alike -/
/-- data that repr and == take, whatever stands around -/
def fine (p : PyData) : Bool := SeqAt.shaped p && p.showable && decide (p.shown.length ≤ sizeLine) && decide (p.depth ≤ 60)
theorem repr_fine {p : PyData} {m : Store} (h1 : p.showable = true) (h2 : p.shown.length ≤ sizeLine) (h3 : p.depth ≤ 60) : reprD [.p p] m = some (.p (.str p.shown), m) := by
  simp only [reprD, whole_p, if_pos (And.intro h1 (And.intro h2 h3))]
theorem eqG_fine {p : PyData} {m : Store} (h : SeqAt.shaped p = true) : eqG false (.p p) (.p p) m = some (.p (.bool true), m) := by
  have e : PyData.eqv p p = true := by
    simp only [SeqAt.shaped, Bool.and_eq_true] at h
    exact SeqAt.eqv_refl p h.1
  have e2 : eqP false (.p p) (.p p) m = some (.p (.bool true), m) := by
    simp only [eqP, whole_p, if_pos (And.intro h h), e]
    rfl
  cases p with
  | str x => simp [eqG, altO, eqS]
  | _ => exact e2
theorem alike_fine {p : PyData} {g : List Cell} (h : fine p = true) : fnD 2 alikeB [.p p, .p p] g = .ok (.p (.bool true)) g := by
  simp only [fine, Bool.and_eq_true, decide_eq_true_eq] at h
  change fin (alikeB [some (.p p), some (.p p)] ⟨g, []⟩) = _
  simp only [alikeB, retS, andG, truG, opE_eq, calE, consA, nilA, vE_0, vE_s, bind_ok, bindS_ok, eqG_fine h.1.1.1, lift_some, repr_fine h.1.1.2 h.1.2 h.2, eqG_str, beq_self_eq_true]
  rfl
end L2.Dn
namespace L2.Dn
open PySem PySem.Spec PyProof.Rows L2
/-! ### lists and texts, frozen -/
section
variable {m : Store}
def cut {α : Type} (xs : List α) (lo hi : Option Int) : List α := (xs.drop (HT.sIx xs.length 0 lo)).take (HT.sIx xs.length xs.length hi - HT.sIx xs.length 0 lo)
theorem cutD_map (ds : List PyData) (lo hi : Option Int) : cutD (ds.map D.p) lo hi = (cut ds lo hi).map D.p := by
  simp only [cutD, cut, List.length_map, List.map_take, List.map_drop]
theorem cut_mem {α : Type} {xs : List α} {lo hi : Option Int} {x : α} (h : x ∈ cut xs lo hi) : x ∈ xs := List.mem_of_mem_drop (List.mem_of_mem_take h)
theorem cut_len {α : Type} (xs : List α) (lo hi : Option Int) : (cut xs lo hi).length = min (HT.sIx xs.length xs.length hi - HT.sIx xs.length 0 lo) (xs.length - HT.sIx xs.length 0 lo) := by
  simp only [cut, List.length_take, List.length_drop]
theorem slD_list (ds : List PyData) (lo hi : Option Int) : slD .z (.p (.list ds)) lo hi m = some (.p (.list (cut ds lo hi)), m) := by
  show some (mkLst (cutD (ds.map D.p) lo hi), m) = _
  rw [cutD_map, mkLst_p]
theorem slD_str {x : Str} (h : x.length ≤ sizeLine) (lo hi : Option Int) : slD .z (.p (.str x)) lo hi m = some (.p (.str (cutS x lo hi)), m) := by
  simp only [slD, altS, slL, lstOf, slS, if_pos h]
theorem addD_list {xs ys : List PyData} (h : xs.length + ys.length ≤ sizeLine) : addD .z (.p (.list xs)) (.p (.list ys)) m = some (.p (.list (xs ++ ys)), m) := by
  have : addD .z (.p (.list xs)) (.p (.list ys)) m = match addL .z (.p (.list xs)) (.p (.list ys)) m with
    | some r => some r
    | none => addT (.p (.list xs)) (.p (.list ys)) m := rfl
  rw [this]
  simp only [addL, lstOf, List.length_map, if_pos h, newO, ← List.map_append, mkLst_p]
theorem addD_str {x y : Str} (h : x.length + y.length ≤ sizeLine) : addD .z (.p (.str x)) (.p (.str y)) m = some (.p (.str (x ++ y)), m) := by
  have : addD .z (.p (.str x)) (.p (.str y)) m = match addS (.p (.str x)) (.p (.str y)) m with
    | some r => some r
    | none => (altO (addL .z) addT) (.p (.str x)) (.p (.str y)) m := rfl
  rw [this]
  simp only [addS, if_pos h]
theorem mulD_str {x : Str} {n : Int} (h : (decide (-1000000 ≤ n) && decide (n ≤ 1000000) && decide (x.length ≤ 16)) = true) : mulD (.p (.str x)) (.p (.int n)) m = some (.p (.str (Txt.mul x n)), m) := by
  have : mulD (.p (.str x)) (.p (.int n)) m = mulS (.p (.str x)) (.p (.int n)) m := rfl
  rw [this]
  simp only [mulS, h, if_true]
theorem ixD_str {x : Str} {k : Int} (h : x.length ≤ sizeLine) (h0 : 0 ≤ k) : ixD (.p (.str x)) (.p (.int k)) m = (x.cps.toList[k.toNat]?).map fun n => (.p (.str ⟨#[n]⟩), m) := by
  simp only [ixD, if_pos h, atI_at h0]
  cases x.cps.toList[k.toNat]? <;> rfl
theorem lenD_str {x : Str} (h : x.length ≤ sizeLine) : lenD [.p (.str x)] m = some (.p (.int x.length), m) := by
  simp only [lenD, if_pos h]
theorem upperD_str {x : Str} (h : x.length ≤ 5592405) : upperD (.p (.str x)) [] m = some (.p (.str (Txt.upper x)), m) := by
  simp only [upperD, if_pos h]
theorem splitD_z {a b : Str} (h : (b.length == 0) = false ∧ a.length + 2 ≤ sizeLine) : splitD .z (.p (.str a)) [.p (.str b)] m = some (.p (.list ((Txt.split a b).map .str)), m) := by
  simp only [splitD, if_pos h, newO]
  rw [show (Txt.split a b).map (fun t => D.p (.str t)) = ((Txt.split a b).map PyData.str).map D.p by rw [List.map_map]; rfl, mkLst_p]
theorem bind_pure {α β : Type} {r : Res α} {a : α} {k : α → Store → Res β} (h : r = .ok a m) : r.bind k = k a m := by rw [h]; rfl
/-- items that are texts -/
theorem strs_of {P : Str → Prop} : ∀ {ys : List D}, (∀ y ∈ ys, ∃ x, y = .p (.str x) ∧ P x) → ∃ xs : List Str, ys = (xs.map PyData.str).map D.p ∧ (∀ x ∈ xs, P x) ∧ xs.length = ys.length
  | [], _ => ⟨[], rfl, by simp, rfl⟩
  | y :: ys, h => by
    obtain ⟨x, e, hx⟩ := h y (List.mem_cons_self ..)
    obtain ⟨xs, k1, k2, k3⟩ := strs_of (ys := ys) fun z hz => h z (List.mem_cons_of_mem _ hz)
    refine ⟨x :: xs, by rw [e, k1]; rfl, ?_, by simp [k3]⟩
    intro z hz
    rcases List.mem_cons.mp hz with q | hz
    · rw [q]; exact hx
    · exact k2 z hz
/-- items that are data -/
theorem data_of {P : PyData → Prop} : ∀ {ys : List D}, (∀ y ∈ ys, ∃ x, y = .p x ∧ P x) → ∃ xs : List PyData, ys = xs.map D.p ∧ (∀ x ∈ xs, P x) ∧ xs.length = ys.length
  | [], _ => ⟨[], rfl, by simp, rfl⟩
  | y :: ys, h => by
    obtain ⟨x, e, hx⟩ := h y (List.mem_cons_self ..)
    obtain ⟨xs, k1, k2, k3⟩ := data_of (ys := ys) fun z hz => h z (List.mem_cons_of_mem _ hz)
    refine ⟨x :: xs, by rw [e, k1]; rfl, ?_, by simp [k3]⟩
    intro z hz
    rcases List.mem_cons.mp hz with q | hz
    · rw [q]; exact hx
    · exact k2 z hz
end
/-! ### signs of a text -/
theorem ok_iff {x : Str} : PyData.strOk x = true ↔ ∀ c ∈ x.cps.toList, c < 0x110000 := by
  obtain ⟨⟨l⟩⟩ := x
  simp [PyData.strOk]
theorem ok_cut {x : Str} (h : PyData.strOk x = true) (lo hi : Option Int) : PyData.strOk (cutS x lo hi) = true :=
  ok_iff.mpr fun c hc => ok_iff.mp h c (List.mem_of_mem_drop (List.mem_of_mem_take hc))
theorem len_cps (x : Str) : x.length = x.cps.toList.length := by obtain ⟨⟨l⟩⟩ := x; rfl
theorem len_cut (x : Str) (lo hi : Option Int) : (cutS x lo hi).length ≤ x.length := by
  rw [len_cps, len_cps]
  show ((x.cps.toList.drop _).take _).length ≤ _
  simp only [List.length_take, List.length_drop]
  omega
theorem app_cps (x y : Str) : (x ++ y).cps.toList = x.cps.toList ++ y.cps.toList := by
  show (x.cps ++ y.cps).toList = _
  simp
theorem ok_app {x y : Str} (h : PyData.strOk x = true) (h2 : PyData.strOk y = true) : PyData.strOk (x ++ y) = true :=
  ok_iff.mpr fun c hc => by
    rw [app_cps] at hc
    exact (List.mem_append.mp hc).elim (ok_iff.mp h c) (ok_iff.mp h2 c)
theorem len_app (x y : Str) : (x ++ y).length = x.length + y.length := by
  rw [len_cps, len_cps, len_cps, app_cps, List.length_append]
end L2.Dn
namespace L2.Dn
open PySem PySem.Spec PyProof.Rows L2
/-! ### what is shown: bounds -/
structure Fit (d n : Nat) (p : PyData) : Prop where
  sh : p.showable = true
  dp : p.depth ≤ d
  ln : p.shown.length ≤ n
theorem Fit.mono {d n d' n' : Nat} {p : PyData} (h : Fit d n p) (hd : d ≤ d') (hn : n ≤ n') : Fit d' n' p := ⟨h.sh, Nat.le_trans h.dp hd, Nat.le_trans h.ln hn⟩
theorem lText_le : ∀ ts : List Str, (listText ts).length ≤ 2 + piled ts
  | [] => by decide
  | t :: r => by
    have h := textFrom_length_pos r 1 (("[" : Str) ++ (if (0 : Nat) > 0 then ", " else "" : String) ++ t) (Nat.succ_pos 0)
    have e : (("[" : Str) ++ (if (0 : Nat) > 0 then ", " else "" : String) ++ t).length = 1 + t.length := by
      rw [strLen_append, strLen_append]; rfl
    have e2 : (listText (t :: r)).length = (textFrom 1 (("[" : Str) ++ (if (0 : Nat) > 0 then ", " else "" : String) ++ t) r).length + 1 := by
      show (textFrom 1 _ r ++ "]").length = _; rw [strLen_append]; rfl
    rw [e2, h, e, piled_cons]
    omega
theorem dText_le (ts : List Str) : (dictText ts).length ≤ 2 + piled ts := by
  unfold dictText; rw [strLen_append, strLen_append]
  have e1 : (("{" : Str)).length = 1 := rfl
  have e3 : (("}" : Str)).length = 1 := rfl
  rw [e1, e3]
  by_cases h : ts = []
  · subst h; decide
  · have := join_length_add ts h; omega
theorem tText_le (ts : List Str) : (tupleText ts).length ≤ 2 + piled ts := by
  unfold tupleText; rw [strLen_append, strLen_append]
  have e1 : (("(" : Str)).length = 1 := rfl
  have e3 : ((if ts.length == 1 then ",)" else ")" : String) : Str).length ≤ 2 := by split <;> decide
  rw [e1]
  by_cases h : ts = []
  · subst h; decide
  · have := join_length_add ts h; omega
theorem fit_all {d n : Nat} : ∀ {ps : List PyData}, (∀ p ∈ ps, Fit d n p) → PyData.showableAll ps = true ∧ PyData.depthAll ps ≤ d ∧ piled (PyData.shownAll ps) ≤ ps.length * (n + 2)
  | [], _ => ⟨rfl, Nat.zero_le _, Nat.le_of_eq (by rw [List.length_nil, Nat.zero_mul]; rfl)⟩
  | p :: ps, h => by
    obtain ⟨k1, k2, k3⟩ := fit_all (ps := ps) fun x hx => h x (List.mem_cons_of_mem _ hx)
    have hp := h p (List.mem_cons_self ..)
    refine ⟨by simp only [PyData.showableAll, hp.sh, k1, Bool.and_self], ?_, ?_⟩
    · simp only [PyData.depthAll]
      have := hp.dp
      omega
    · simp only [PyData.shownAll, piled_cons, List.length_cons, Nat.add_mul, Nat.one_mul]
      have := hp.ln
      omega
theorem Fit.list {d n k : Nat} {ps : List PyData} (h : ∀ p ∈ ps, Fit d n p) (hk : ps.length ≤ k) : Fit (d + 1) (2 + k * (n + 2)) (.list ps) := by
  obtain ⟨k1, k2, k3⟩ := fit_all h
  refine ⟨by simp only [PyData.showable, k1], by simp only [PyData.depth]; omega, ?_⟩
  have h1 := lText_le (PyData.shownAll ps)
  have h2 := Nat.mul_le_mul_right (n + 2) hk
  simp only [PyData.shown]
  omega
theorem Fit.tuple {d n k : Nat} {ps : List PyData} (h : ∀ p ∈ ps, Fit d n p) (hk : ps.length ≤ k) : Fit (d + 1) (2 + k * (n + 2)) (.tuple ps) := by
  obtain ⟨k1, k2, k3⟩ := fit_all h
  refine ⟨by simp only [PyData.showable, k1], by simp only [PyData.depth]; omega, ?_⟩
  have h1 := tText_le (PyData.shownAll ps)
  have h2 := Nat.mul_le_mul_right (n + 2) hk
  simp only [PyData.shown]
  omega
theorem fit_kv {d n : Nat} : ∀ {kv : List (PyData × PyData)}, (∀ q ∈ kv, Fit d n q.1 ∧ Fit d n q.2) → PyData.showableKv kv = true ∧ PyData.depthKv kv ≤ d ∧ piled (PyData.shownKv kv) ≤ kv.length * (2 * n + 4)
  | [], _ => ⟨rfl, Nat.zero_le _, Nat.le_of_eq (by rw [List.length_nil, Nat.zero_mul]; rfl)⟩
  | (a, b) :: kv, h => by
    obtain ⟨k1, k2, k3⟩ := fit_kv (kv := kv) fun x hx => h x (List.mem_cons_of_mem _ hx)
    obtain ⟨h1, h2⟩ := h (a, b) (List.mem_cons_self ..)
    have a2 := h1.dp; have a3 := h1.sh; have a4 := h1.ln; have b2 := h2.dp; have b3 := h2.sh; have b4 := h2.ln
    dsimp only at a2 a3 a4 b2 b3 b4
    refine ⟨by simp only [PyData.showableKv, a3, b3, k1, Bool.and_self], ?_, ?_⟩
    · simp only [PyData.depthKv]
      omega
    · simp only [PyData.shownKv, piled_cons, List.length_cons, Nat.add_mul, Nat.one_mul]
      rw [strLen_append, strLen_append]
      have : ((": " : String) : Str).length = 2 := rfl
      rw [this]
      omega
theorem Fit.dict {d n k : Nat} {kv : List (PyData × PyData)} (h : ∀ q ∈ kv, Fit d n q.1 ∧ Fit d n q.2) (hk : kv.length ≤ k) : Fit (d + 1) (2 + k * (2 * n + 4)) (.dict kv) := by
  obtain ⟨k1, k2, k3⟩ := fit_kv h
  refine ⟨by simp only [PyData.showable, k1], by simp only [PyData.depth]; omega, ?_⟩
  have h1 := dText_le (PyData.shownKv kv)
  have h2 := Nat.mul_le_mul_right (2 * n + 4) hk
  simp only [PyData.shown]
  omega
theorem Fit.int {k : Nat} {i : Int} (hk : 0 < k) (hk2 : k ≤ 500) (h : i.natAbs < 10 ^ k) : Fit 0 (k + 1) (.int i) := by
  refine ⟨?_, Nat.le_refl _, ?_⟩
  · simp only [PyData.showable, decide_eq_true_eq]
    by_cases h0 : i.natAbs = 0
    · rw [h0]; decide
    · have h2 : i.natAbs < 2 ^ 1920 := Nat.lt_of_lt_of_le h (Nat.le_trans (Nat.pow_le_pow_right (by decide) hk2) (by decide +kernel))
      exact (Nat.log2_lt h0).mpr h2
  · have e := int_text_length_le10 hk h
    show (Str.ofString (toString i)).length ≤ _
    rw [PySem.ofString_length]
    exact e
theorem Fit.str {x : Str} {k : Nat} (h : PyData.strOk x = true) (hk : x.length ≤ k) : Fit 0 (10 * k + 2) (.str x) := by
  refine ⟨rfl, Nat.le_refl _, ?_⟩
  have := StrLaws.reprText_len x fun c hc => Nat.lt_trans (ok_iff.mp h c hc) (by decide)
  simp only [PyData.shown]
  omega
theorem Fit.none : Fit 0 4 .none := ⟨rfl, Nat.le_refl _, by decide⟩
theorem Fit.bool (b : Bool) : Fit 0 5 (.bool b) := ⟨rfl, Nat.le_refl _, by cases b <;> decide⟩
theorem Fit.repr {d n : Nat} {p : PyData} {m : Store} (h : Fit d n p) (hd : d ≤ 60) (hn : n ≤ 16777216) : reprD [.p p] m = some (.p (.str p.shown), m) :=
  repr_fine h.sh (by rw [sizeLine_eq]; exact Nat.le_trans h.ln (by omega)) (Nat.le_trans h.dp hd)
theorem reprD_whole {d n : Nat} {p : PyData} {m : Store} {x : D} (e : whole m x = some p) (h : Fit d n p) (hd : d ≤ 60) (hn : n ≤ 16777216) : reprD [x] m = some (.p (.str p.shown), m) := by
  have h2 : p.shown.length ≤ sizeLine := by rw [sizeLine_eq]; exact Nat.le_trans h.ln (by omega)
  have h3 := Nat.le_trans h.dp hd
  simp only [reprD, e, if_pos (And.intro h.sh (And.intro h2 h3))]
/-! ### ==, of data without truths and dicts: equality -/
mutual
def flatP : PyData → Bool
  | .none => true
  | .bool _ => false
  | .int _ => true
  | .str x => PyData.strOk x
  | .list xs => flatPs xs
  | .tuple xs => flatPs xs
  | .dict _ => false
def flatPs : List PyData → Bool
  | [] => true
  | x :: xs => flatP x && flatPs xs
end
mutual
theorem eqv_iff : ∀ p q : PyData, flatP p = true → flatP q = true → (PyData.eqv p q = true ↔ p = q)
  | .none, q, _, hq => by cases q <;> simp [PyData.eqv]
  | .bool _, q, h, _ => by simp [flatP] at h
  | .int i, q, _, hq => by
    cases q with
    | bool b => simp [flatP] at hq
    | _ => simp [PyData.eqv]
  | .str x, q, _, hq => by cases q <;> simp [PyData.eqv]
  | .list xs, q, h, hq => by
    cases q with
    | list ys =>
      simp only [flatP] at h hq
      simp only [PyData.eqv, PyData.list.injEq]
      exact eqvs_iff xs ys h hq
    | _ => simp [PyData.eqv]
  | .tuple xs, q, h, hq => by
    cases q with
    | tuple ys =>
      simp only [flatP] at h hq
      simp only [PyData.eqv, PyData.tuple.injEq]
      exact eqvs_iff xs ys h hq
    | _ => simp [PyData.eqv]
  | .dict _, q, h, _ => by simp [flatP] at h
theorem eqvs_iff : ∀ ps qs : List PyData, flatPs ps = true → flatPs qs = true → (PyData.eqvAll ps qs = true ↔ ps = qs)
  | [], [], _, _ => by simp [PyData.eqvAll]
  | [], _ :: _, _, _ => by simp [PyData.eqvAll]
  | _ :: _, [], _, _ => by simp [PyData.eqvAll]
  | p :: ps, q :: qs, h, hq => by
    simp only [flatPs, Bool.and_eq_true] at h hq
    simp only [PyData.eqvAll, Bool.and_eq_true, List.cons.injEq, eqv_iff p q h.1 hq.1, eqvs_iff ps qs h.2 hq.2]
end
mutual
theorem flat_lay : ∀ p : PyData, flatP p = true → p.canLay0 = true
  | .none, _ => rfl
  | .bool _, _ => rfl
  | .int _, _ => rfl
  | .str x, h => by simpa [flatP, PyData.canLay0] using h
  | .list xs, h => by simp only [flatP] at h; simp only [PyData.canLay0]; exact flats_lay xs h
  | .tuple xs, h => by simp only [flatP] at h; simp only [PyData.canLay0]; exact flats_lay xs h
  | .dict _, h => by simp [flatP] at h
theorem flats_lay : ∀ ps : List PyData, flatPs ps = true → PyData.canLayAll0 ps = true
  | [], _ => rfl
  | p :: ps, h => by
    simp only [flatPs, Bool.and_eq_true] at h
    simp only [PyData.canLayAll0, flat_lay p h.1, flats_lay ps h.2, Bool.and_self]
end
theorem flatPs_of : ∀ {ps : List PyData}, (∀ p ∈ ps, flatP p = true) → flatPs ps = true
  | [], _ => rfl
  | p :: ps, h => by
    simp only [flatPs, h p (List.mem_cons_self ..), flatPs_of (fun x hx => h x (List.mem_cons_of_mem _ hx)), Bool.and_self]
theorem shaped_flat {p : PyData} (h : flatP p = true) (hd : p.depth ≤ 64) : SeqAt.shaped p = true := by
  simp only [SeqAt.shaped, flat_lay p h, decide_eq_true hd, Bool.and_self]
theorem eqG_whole {neg b : Bool} {x y : D} {p q : PyData} {m : Store} (ex : whole m x = some p) (ey : whole m y = some q) (hp : SeqAt.shaped p = true) (hq : SeqAt.shaped q = true) (hb : PyData.eqv p q = b) : eqG neg x y m = some (.p (.bool (if neg then !b else b)), m) := by
  subst hb
  have e2 : eqP neg x y m = some (.p (.bool (if neg then !PyData.eqv p q else PyData.eqv p q)), m) := by
    simp only [eqP, ex, ey, if_pos (And.intro hp hq)]
  unfold eqG altO
  split
  · rename_i r hr
    unfold eqS at hr
    split at hr
    · cases ex
      cases ey
      rw [← hr]
      simp [PyData.eqv]
    · cases hr
  · exact e2
theorem eqG_flat {neg b : Bool} {p q : PyData} {m : Store} (hp : flatP p = true) (hq : flatP q = true) (dp : p.depth ≤ 64) (dq : q.depth ≤ 64) (hb : b = true ↔ p = q) : eqG neg (.p p) (.p q) m = some (.p (.bool (if neg then !b else b)), m) := by
  refine eqG_whole (whole_p m p) (whole_p m q) (shaped_flat hp dp) (shaped_flat hq dq) ?_
  have := eqv_iff p q hp hq
  cases b with
  | true => exact this.mpr (hb.mp rfl)
  | false =>
    cases e : PyData.eqv p q with
    | false => rfl
    | true => exact absurd (hb.mpr (this.mp e)) (by decide)
/-! ### loops by the number of the round -/
theorem forS_ix {g : FG} {body : FS} (I : Nat → Rho → Store → Prop) : ∀ {ds : List D} {k : Nat} {ρ : Rho} {m : Store}, I k ρ m → (∀ j d, ds[j]? = some d → ∀ ρ m, I (k + j) ρ m → ∃ ρ' m', (g d ρ m).seq body = .nx ρ' m' ∧ I (k + j + 1) ρ' m') → ∃ ρ' m', forS g body ds ρ m = .nx ρ' m' ∧ I (k + ds.length) ρ' m'
  | [], k, ρ, m, hI, _ => ⟨ρ, m, rfl, hI⟩
  | d :: ds, k, ρ, m, hI, h => by
    obtain ⟨ρ1, m1, h1, h2⟩ := h 0 d rfl ρ m hI
    obtain ⟨ρ2, m2, k1, k2⟩ := forS_ix I (ds := ds) (k := k + 1) h2 fun j d' hj ρ m hI' => by
      have := h (j + 1) d' (by simpa using hj) ρ m (by rw [show k + (j + 1) = k + 1 + j by omega]; exact hI')
      rw [show k + (j + 1) + 1 = k + 1 + j + 1 by omega] at this
      exact this
    refine ⟨ρ2, m2, ?_, by rw [show k + (d :: ds).length = k + 1 + ds.length by simp; omega]; exact k2⟩
    unfold forS
    rw [h1]
    exact k1
theorem lcM_ix {g : D → Rho → Option Rho} {t : Rho → Store → Res Bool} {fe : FE} {ρ : Rho} (I : Nat → List D → Store → Prop) : ∀ {ds : List D} {k : Nat} {acc : List D} {m : Store}, I k acc m →
    (∀ j d, ds[j]? = some d → ∀ acc m, I (k + j) acc m → ∃ ρ1 b m1, g d ρ = some ρ1 ∧ t ρ1 m = .ok b m1 ∧ ((b = false ∧ I (k + j + 1) acc m1) ∨ (b = true ∧ ∃ y m2, fe ρ1 m1 = .ok y m2 ∧ I (k + j + 1) (acc ++ [y]) m2))) →
    ∃ ys m', lcM g t fe ρ ds m = .ok ys m' ∧ I (k + ds.length) (acc ++ ys) m'
  | [], k, acc, m, hI, _ => ⟨[], m, rfl, by simpa using hI⟩
  | d :: ds, k, acc, m, hI, h => by
    obtain ⟨ρ1, b, m1, h1, h2, h3⟩ := h 0 d rfl acc m hI
    have nxt : ∀ {acc' : List D} {m2 : Store}, I (k + 0 + 1) acc' m2 → ∃ ys m', lcM g t fe ρ ds m2 = .ok ys m' ∧ I (k + (d :: ds).length) (acc' ++ ys) m' := fun {acc' m2} hI2 => by
      obtain ⟨ys, m', q1, q2⟩ := lcM_ix I (ds := ds) (k := k + 1) hI2 fun j d' hj acc m hI' => by
        have := h (j + 1) d' (by simpa using hj) acc m (by rw [show k + (j + 1) = k + 1 + j by omega]; exact hI')
        rw [show k + (j + 1) + 1 = k + 1 + j + 1 by omega] at this
        exact this
      exact ⟨ys, m', q1, by rw [show k + (d :: ds).length = k + 1 + ds.length by simp; omega]; exact q2⟩
    rcases h3 with ⟨rfl, h4⟩ | ⟨rfl, y, m2, h4, h5⟩
    · obtain ⟨ys, m', q1, q2⟩ := nxt h4
      refine ⟨ys, m', ?_, q2⟩
      unfold lcM
      rw [h1]
      simp only [h2, noX, bind_ok, Bool.false_eq_true, if_false, q1]
    · obtain ⟨ys, m', q1, q2⟩ := nxt h5
      refine ⟨y :: ys, m', ?_, by simpa using q2⟩
      unfold lcM
      rw [h1]
      simp only [h2, noX, bind_ok, if_true, h4, q1]
/-! ### range -/
theorem rng_get (n j : Nat) (h : j < n) (f : Nat → D) : ((List.range n).map f)[j]? = some (f j) := by
  rw [List.getElem?_map, List.getElem?_range h]
  rfl
end L2.Dn
namespace L2.Dn
open PySem PySem.Spec PyProof.Rows L2
local macro_rules | `(tactic| walk_at "ev") => `(tactic| try simp only [seqS, ifS, setS, asgS, subG, augI, retS, exprS, nilS, testE, opE_eq, calE, consA, nilA, cE, vE_0, vE_s, bind_ok, bindS_ok, lift_some, testR_ok, seq_nx, seq_rt, fin_rt, res_ok, List.set_cons_zero, List.set_cons_succ,
  bix0, bix1, bix2, bix3, bset0, bset1, bset2, bsetI2, bget2, addI_int, pow18, ite_tt, ite_ff, addD_int, subI_int, ltI_int, leI_int, gtI_int, geI_int, eqG_int, intD_int, lenG_list, Bool.false_eq_true, if_false, if_true])
/-- the draw's second half -/
def takeT_b : FS := (seqS (ifS (testE (opE gtI (opE ixG (vE 0) (cE (.int 0))) (cE (.int 0)))) (seqS (setS 4 (opE modI (calE intD (consA (opE ixG (vE 0) (cE (.int 0))) nilA)) (vE 1)))
  (seqS (asgS (opE fdivI (opE ixG (vE 0) (cE (.int 0))) (vE 1)) (subG setG (vE 0) (cE (.int 0))))
  (retS (vE 4)))) nilS)
  (seqS (setS 5 (opE modI (calE intD (consA (opE (mulG .z) (opE (addD .z) (opE ixG (vE 0) (cE (.int 1))) (cE (.int 1))) (cE (.int 39373))) nilA)) (cE (.int 1000000007))))
  (seqS (setS 6 (opE modI (calE intD (consA (opE (mulG .z) (opE modI (calE intD (consA (opE (mulG .z) (vE 5) (vE 5)) nilA)) (cE (.int 998244353))) (cE (.int 30011))) nilA)) (cE (.int 998244353))))
  (seqS (ifS (testE (opE gtI (vE 1) (cE (.int 1000000)))) (retS (opE modI (calE intD (consA (opE (addD .z) (opE (mulG .z) (vE 6) (cE (.int 1000000007))) (vE 5)) nilA)) (vE 1))) nilS)
  (retS (opE modI (calE intD (consA (opE fdivI (vE 6) (cE (.int 7))) nilA)) (vE 1)))))))
def takeS_b : FS := (ifS (testE (opE (eqG false) (opE ixG (vE 0) (cE (.int 0))) (cE (.int 0)))) (seqS (setS 2 (cE (.int 0)))
  (seqS (ifS (testE (opE ltI (opE ixG (vE 0) (cE (.int 2))) (calE lenG (consA (opE ixG (vE 0) (cE (.int 3))) nilA)))) (setS 2 (opE ixG (opE ixG (vE 0) (cE (.int 3))) (opE ixG (vE 0) (cE (.int 2))))) nilS)
  (seqS (augI addI (vE 0) (cE (.int 2)) (cE (.int 1)))
  (seqS (ifS (testE (opE geI (vE 2) (cE (.int 1000000000000000000)))) (asgS (vE 2) (subG setG (vE 0) (cE (.int 0)))) nilS)
  (seqS (setS 3 (opE (addD .z) (opE (addD .z) (opE (mulG .z) (opE ixG (vE 0) (cE (.int 1))) (cE (.int 48271))) (opE modI (calE intD (consA (vE 2) nilA)) (cE (.int 2147483647)))) (opE (mulG .z) (cE (.int 7919)) (opE ixG (vE 0) (cE (.int 2))))))
  (asgS (opE modI (calE intD (consA (vE 3) nilA)) (cE (.int 2147483647))) (subG setG (vE 0) (cE (.int 1))))))))) nilS)
theorem takeT_ok_b {a b c n : Int} {cs : List PyData} {g l : List Cell} {o2 o3 : Option D} (hb : BagOk a b c cs) (h0 : 0 < n) (h1 : n < 2 ^ 64) :
    ∃ r a', 0 ≤ r ∧ r < n ∧ BagOk a' b c cs ∧ fin (takeT_b [some (.cell (.g 0)), some (.p (.int n)), o2, o3, none, none, none] ⟨bagC a b c cs :: g, l⟩) = .ok (.p (.int r)) (bagC a' b c cs :: g) := by
  unfold takeT_b
  by_cases hz : 0 < a
  · refine ⟨a % n, a / n, Int.emod_nonneg _ (by omega), Int.emod_lt_of_pos _ h0, ⟨Int.ediv_nonneg hb.h0 (by omega), hb.h1, hb.h1', hb.h2, hb.hc⟩, ?_⟩
    walk_at "ev"
    simp only [decide_eq_true hz, if_true]
    walk_at "ev"
    simp only [modI_int h0, fdivI_int h0 h1]
    walk_at "ev"
    simp only [fdivI_int h0 h1]
    walk_at "ev"
  · have d0 : (0 : Int) < 1000000007 := by decide
    have d1 : (0 : Int) < 998244353 := by decide
    have d7 : (0 : Int) < 7 := by decide
    have d8 : (7 : Int) < 2 ^ 64 := by decide
    have s0 : small 39373 = true := by decide
    have s1 : small 30011 = true := by decide
    have s2 : small 1000000007 = true := by decide
    have s3 : small ((b + 1) * 39373 % 1000000007) = true := small_of (Int.emod_nonneg _ (by decide)) (Int.lt_trans (Int.emod_lt_of_pos _ d0) (by decide))
    by_cases hm : 1000000 < n
    · refine ⟨(((((b + 1) * 39373 % 1000000007) * ((b + 1) * 39373 % 1000000007) % 998244353) * 30011 % 998244353) * 1000000007 + ((b + 1) * 39373 % 1000000007)) % n, a, Int.emod_nonneg _ (by omega), Int.emod_lt_of_pos _ h0, hb, ?_⟩
      walk_at "ev"
      simp only [decide_eq_false hz, Bool.false_eq_true, if_false]
      walk_at "ev"
      simp only [mul_r s0]
      walk_at "ev"
      simp only [modI_int d0]
      walk_at "ev"
      simp only [mul_r s3]
      walk_at "ev"
      simp only [modI_int d1]
      walk_at "ev"
      simp only [mul_r s1]
      walk_at "ev"
      simp only [modI_int d1]
      walk_at "ev"
      simp only [decide_eq_true hm, if_true]
      walk_at "ev"
      simp only [mul_r s2]
      walk_at "ev"
      simp only [modI_int h0]
      walk_at "ev"
    · refine ⟨((((b + 1) * 39373 % 1000000007) * ((b + 1) * 39373 % 1000000007) % 998244353) * 30011 % 998244353) / 7 % n, a, Int.emod_nonneg _ (by omega), Int.emod_lt_of_pos _ h0, hb, ?_⟩
      walk_at "ev"
      simp only [decide_eq_false hz, Bool.false_eq_true, if_false]
      walk_at "ev"
      simp only [mul_r s0]
      walk_at "ev"
      simp only [modI_int d0]
      walk_at "ev"
      simp only [mul_r s3]
      walk_at "ev"
      simp only [modI_int d1]
      walk_at "ev"
      simp only [mul_r s1]
      walk_at "ev"
      simp only [modI_int d1]
      walk_at "ev"
      simp only [decide_eq_false hm, Bool.false_eq_true, if_false]
      walk_at "ev"
      simp only [fdivI_int d7 d8]
      walk_at "ev"
      simp only [modI_int h0]
      walk_at "ev"
theorem takeS_ok_b {a b c n : Int} {cs : List PyData} {g l : List Cell} (hb : BagOk a b c cs) :
    ∃ a' b' c' o2 o3, BagOk a' b' c' cs ∧ takeS_b [some (.cell (.g 0)), some (.p (.int n)), none, none, none, none, none] ⟨bagC a b c cs :: g, l⟩ = .nx [some (.cell (.g 0)), some (.p (.int n)), o2, o3, none, none, none] ⟨bagC a' b' c' cs :: g, l⟩ := by
  unfold takeS_b
  by_cases hz : (a == 0) = true
  · have s0 : small 48271 = true := by decide
    have s1 : small 7919 = true := by decide
    have d0 : (0 : Int) < 2147483647 := by decide
    have key : ∀ x : Int, 0 ≤ x → ∃ a' b' c' o2 o3, BagOk a' b' c' cs ∧ (seqS (augI addI (vE 0) (cE (.int 2)) (cE (.int 1)))
  (seqS (ifS (testE (opE geI (vE 2) (cE (.int 1000000000000000000)))) (asgS (vE 2) (subG setG (vE 0) (cE (.int 0)))) nilS)
  (seqS (setS 3 (opE (addD .z) (opE (addD .z) (opE (mulG .z) (opE ixG (vE 0) (cE (.int 1))) (cE (.int 48271))) (opE modI (calE intD (consA (vE 2) nilA)) (cE (.int 2147483647)))) (opE (mulG .z) (cE (.int 7919)) (opE ixG (vE 0) (cE (.int 2))))))
  (asgS (opE modI (calE intD (consA (vE 3) nilA)) (cE (.int 2147483647))) (subG setG (vE 0) (cE (.int 1))))))) [some (.cell (.g 0)), some (.p (.int n)), some (.p (.int x)), none, none, none, none] ⟨bagC a b c cs :: g, l⟩ = .nx [some (.cell (.g 0)), some (.p (.int n)), o2, o3, none, none, none] ⟨bagC a' b' c' cs :: g, l⟩ := by
      intro x hx
      by_cases hw : (1000000000000000000 : Int) ≤ x
      · refine ⟨x, (b * 48271 + x % 2147483647 + 7919 * (c + 1)) % 2147483647, c + 1, some (.p (.int x)), some (.p (.int (b * 48271 + x % 2147483647 + 7919 * (c + 1)))), ⟨hx, Int.emod_nonneg _ (by decide), Int.emod_lt_of_pos _ d0, by have := hb.h2; omega, hb.hc⟩, ?_⟩
        walk_at "ev"
        simp only [decide_eq_true hw, if_true]
        walk_at "ev"
        simp only [mul_r s0, mul_l s1, modI_int d0]
        walk_at "ev"
        simp only [mul_r s0, mul_l s1, modI_int d0]
        walk_at "ev"
        simp only [mul_r s0, mul_l s1, modI_int d0]
        walk_at "ev"
      · refine ⟨a, (b * 48271 + x % 2147483647 + 7919 * (c + 1)) % 2147483647, c + 1, some (.p (.int x)), some (.p (.int (b * 48271 + x % 2147483647 + 7919 * (c + 1)))), ⟨hb.h0, Int.emod_nonneg _ (by decide), Int.emod_lt_of_pos _ d0, by have := hb.h2; omega, hb.hc⟩, ?_⟩
        walk_at "ev"
        simp only [decide_eq_false hw, Bool.false_eq_true, if_false]
        walk_at "ev"
        simp only [mul_r s0, mul_l s1, modI_int d0]
        walk_at "ev"
        simp only [mul_r s0, mul_l s1, modI_int d0]
        walk_at "ev"
        simp only [mul_r s0, mul_l s1, modI_int d0]
        walk_at "ev"
    by_cases hi : c < (cs.length : Int)
    · obtain ⟨i, hi0, e⟩ := bag_cell hb (m := ⟨bagC a b c cs :: g, l⟩) hi
      obtain ⟨a', b', c', o2, o3, k1, k2⟩ := key i hi0
      refine ⟨a', b', c', o2, o3, k1, ?_⟩
      rw [← k2]
      simp only [ifS, testE, opE_eq, seqS, setS, cE, vE_0, vE_s, bind_ok, bindS_ok, bix0, bix2, bix3, lift_some, eqG_int, testR_ok, hz, if_true, Bool.false_eq_true, if_false, ite_tt, ite_ff, seq_nx, calE, consA, nilA, lenG_list, ltI_int, decide_eq_true hi, e, List.set_cons_zero, List.set_cons_succ]
    · obtain ⟨a', b', c', o2, o3, k1, k2⟩ := key 0 (by decide)
      refine ⟨a', b', c', o2, o3, k1, ?_⟩
      rw [← k2]
      simp only [ifS, testE, opE_eq, seqS, setS, cE, vE_0, vE_s, bind_ok, bindS_ok, bix0, bix2, bix3, lift_some, eqG_int, testR_ok, hz, if_true, Bool.false_eq_true, if_false, ite_tt, ite_ff, seq_nx, calE, consA, nilA, lenG_list, ltI_int, decide_eq_false hi, List.set_cons_zero, List.set_cons_succ, nilS]
  · have hz' : (a == 0) = false := by simpa using hz
    refine ⟨a, b, c, none, none, hb, ?_⟩
    simp only [ifS, testE, opE_eq, cE, vE_0, bind_ok, bindS_ok, bix0, lift_some, eqG_int, testR_ok, hz', Bool.false_eq_true, if_false, ite_ff, nilS]
/-- a draw below n leaves a number below n and a bag -/
theorem take_ok_b {n : Int} {cs : List PyData} {g : List Cell} {C : Cell} (hC : bagsOk cs C) (h0 : 0 < n) (h1 : n < 2 ^ 64) :
    ∃ r C', 0 ≤ r ∧ r < n ∧ bagsOk cs C' ∧ fnD 7 (seqS takeS_b takeT_b) [.cell (.g 0), .p (.int n)] (C :: g) = .ok (.p (.int r)) (C' :: g) := by
  obtain ⟨a, b, c, hb, rfl⟩ := hC
  obtain ⟨a', b', c', o2, o3, k1, k2⟩ := takeS_ok_b (n := n) (g := g) (l := []) hb
  obtain ⟨r, a2, r0, r1, k3, k4⟩ := takeT_ok_b (g := g) (l := []) (o2 := o2) (o3 := o3) k1 h0 h1
  refine ⟨r, _, r0, r1, ⟨a2, b', c', k3, rfl⟩, ?_⟩
  change fin (seqS takeS_b takeT_b [some (.cell (.g 0)), some (.p (.int n)), none, none, none, none, none] ⟨bagC a b c cs :: g, []⟩) = _
  unfold seqS
  rw [k2]
  exact k4
end L2.Dn
namespace L2.Dn
open PySem PySem.Spec PyProof.Rows L2
/-! ### what comes of a denotation: forwards, by what is wanted behind it -/
def Ev {α : Type} (r : Res α) (P : α → Store → Prop) (X : Exn → Store → Prop) : Prop := match r with
  | .ok a m => P a m
  | .exc x m => X x m
  | .stuck => False
def Es (r : SRes) (N : Rho → Store → Prop) (R : D → Store → Prop) (X : Exn → Rho → Store → Prop) : Prop := match r with
  | .nx ρ m => N ρ m
  | .rt d m => R d m
  | .exc x ρ m => X x ρ m
  | _ => False
def Eg (r : RG) (P : D → List Cell → Prop) (X : Exn → List Cell → Prop) : Prop := match r with
  | .ok d g => P d g
  | .exc x g => X x g
  | .stuck => False
abbrev nX : Exn → Store → Prop := fun _ _ => False
abbrev nXs : Exn → Rho → Store → Prop := fun _ _ _ => False
abbrev nXg : Exn → List Cell → Prop := fun _ _ => False
section
variable {α β : Type} {m : Store} {ρ : Rho} {N : Rho → Store → Prop} {R : D → Store → Prop} {X : Exn → Store → Prop} {Y : Exn → Rho → Store → Prop} {Z : Exn → List Cell → Prop}
theorem ev_ok {P : α → Store → Prop} {a : α} : Ev (.ok a m) P X ↔ P a m := Iff.rfl
theorem ev_exc {P : α → Store → Prop} {x : Exn} : Ev (.exc x m) P X ↔ X x m := Iff.rfl
theorem ev_bind {P : β → Store → Prop} {r : Res α} {k : α → Store → Res β} : Ev (r.bind k) P X ↔ Ev r (fun a m => Ev (k a m) P X) X := by cases r <;> exact Iff.rfl
theorem ev_lift {P : D → Store → Prop} {d : D} : Ev (lift (some (d, m))) P X ↔ P d m := Iff.rfl
theorem ev_map {P : D → Store → Prop} {d : α} {f : α → D × Store} : Ev (lift (Option.map f (some d))) P X ↔ P (f d).1 (f d).2 := Iff.rfl
theorem ev_noX {P : α → Store → Prop} {r : Res α} : Ev (noX r) P X ↔ Ev r P nX := by cases r <;> exact Iff.rfl
theorem es_bindS {r : Res α} {k : α → Store → SRes} : Es (r.bindS ρ k) N R Y ↔ Ev r (fun a m => Es (k a m) N R Y) (fun x m => Y x ρ m) := by cases r <;> exact Iff.rfl
theorem es_seq {r : SRes} {k : FS} : Es (r.seq k) N R Y ↔ Es r (fun ρ m => Es (k ρ m) N R Y) R Y := by cases r <;> exact Iff.rfl
theorem es_nx : Es (.nx ρ m) N R Y ↔ N ρ m := Iff.rfl
theorem es_rt {d : D} : Es (.rt d m) N R Y ↔ R d m := Iff.rfl
theorem es_exc {x : Exn} : Es (.exc x ρ m) N R Y ↔ Y x ρ m := Iff.rfl
theorem eg_fin {P : D → List Cell → Prop} {r : SRes} : Eg (fin r) P Z ↔ Es r (fun _ m => P (.p .none) m.g) (fun d m => nl d = true ∧ P d m.g) (fun x _ m => nls (x.fs.map (·.2)) = true ∧ Z x m.g) := by
  cases r with
  | rt d m =>
    simp only [fin, Es]
    cases nl d <;> simp [Eg]
  | exc x ρ m =>
    simp only [fin, Es]
    cases nls (x.fs.map (·.2)) <;> simp [Eg]
  | _ => exact Iff.rfl
theorem ev_call {P : D → Store → Prop} {den : Den} {ds : List D} {g l : List Cell} : Ev (callR den ds ⟨g, l⟩) P X ↔ nls ds = true ∧ Eg (den ds g) (fun d g => P d ⟨g, l⟩) (fun x g => X x ⟨g, l⟩) := by
  unfold callR
  cases nls ds with
  | false => simp [Ev]
  | true =>
    simp only [if_true, true_and]
    cases den ds g <;> exact Iff.rfl
theorem eg_ok {P : D → List Cell → Prop} {d : D} {g : List Cell} : Eg (.ok d g) P Z ↔ P d g := Iff.rfl
theorem Eg.get {r : RG} {P : D → List Cell → Prop} (h : Eg r P nXg) : ∃ d g, r = .ok d g ∧ P d g := by
  cases r with
  | ok d g => exact ⟨d, g, rfl, h⟩
  | exc x g => exact h.elim
  | stuck => exact h.elim
theorem Eg.mono {r : RG} {P Q : D → List Cell → Prop} {Z Z' : Exn → List Cell → Prop} (h : Eg r P Z) (k : ∀ d g, P d g → Q d g) (kx : ∀ x g, Z x g → Z' x g) : Eg r Q Z' := by
  cases r with
  | ok d g => exact k _ _ h
  | exc x g => exact kx _ _ h
  | stuck => exact h
theorem Eg.to {r : RG} {P Q : D → List Cell → Prop} (h : Eg r P nXg) (k : ∀ d g, P d g → Q d g) : Eg r Q Z := h.mono k fun _ _ z => z.elim
theorem Eg.of {r : RG} {P : D → List Cell → Prop} {d : D} {g : List Cell} (e : r = .ok d g) (h : P d g) : Eg r P Z := by rw [e]; exact h
theorem Ev.mono {r : Res α} {P Q : α → Store → Prop} {X X' : Exn → Store → Prop} (h : Ev r P X) (k : ∀ d g, P d g → Q d g) (kx : ∀ x g, X x g → X' x g) : Ev r Q X' := by
  cases r with
  | ok d g => exact k _ _ h
  | exc x g => exact kx _ _ h
  | stuck => exact h
theorem Ev.to {r : Res α} {P Q : α → Store → Prop} (h : Ev r P nX) (k : ∀ d g, P d g → Q d g) : Ev r Q X := h.mono k fun _ _ z => z.elim
theorem Ev.get {r : Res α} {P : α → Store → Prop} (h : Ev r P nX) : ∃ d g, r = .ok d g ∧ P d g := by
  cases r with
  | ok d g => exact ⟨d, g, rfl, h⟩
  | exc x g => exact h.elim
  | stuck => exact h.elim
theorem Ev.of {r : Res α} {P : α → Store → Prop} {d : α} {g : Store} (e : r = .ok d g) (h : P d g) : Ev r P X := by rw [e]; exact h
theorem Es.mono {r : SRes} {N' : Rho → Store → Prop} {R' : D → Store → Prop} {Y' : Exn → Rho → Store → Prop} (h : Es r N R Y) (kn : ∀ ρ m, N ρ m → N' ρ m) (kr : ∀ d m, R d m → R' d m) (kx : ∀ x ρ m, Y x ρ m → Y' x ρ m) : Es r N' R' Y' := by
  cases r with
  | nx ρ m => exact kn _ _ h
  | rt d m => exact kr _ _ h
  | exc x ρ m => exact kx _ _ _ h
  | bk ρ m => exact h
  | ct ρ m => exact h
  | stuck => exact h
/-- a statement that goes on -/
theorem Es.nxt {r : SRes} {P : Rho → Store → Prop} (h : Es r P (fun _ _ => False) nXs) (k : ∀ ρ m, P ρ m → N ρ m) : Es r N R Y := h.mono k (fun _ _ z => z.elim) fun _ _ _ z => z.elim
def isB (d : D) (k : Bool → Prop) : Prop := match d with
  | .p (.bool b) => k b
  | _ => False
theorem isB_p {b : Bool} {k : Bool → Prop} : isB (.p (.bool b)) k ↔ k b := Iff.rfl
theorem ev_test {P : Bool → Store → Prop} {r : Res D} : Ev (testR r) P X ↔ Ev r (fun d m => isB d fun b => P b m) X := by
  cases r with
  | ok d m =>
    cases d with
    | p q => cases q <;> exact Iff.rfl
    | _ => exact Iff.rfl
  | exc x m => exact Iff.rfl
  | stuck => exact Iff.rfl
/-! ### range -/
theorem rng1I_eq {fl : FI} {ρ : Rho} {m : Store} : rng1I fl ρ m = (fl ρ m).bind rngK := rfl
theorem rngK_p {j : Int} {m : Store} : rngK [.p (.int j)] m = rngJ j m := by cases j <;> rfl
/-! ### loops -/
theorem es_for {g : FG} {body : FS} (I : Nat → Rho → Store → Prop) {ds : List D} {ρ : Rho} {m : Store} (h0 : I 0 ρ m) (hs : ∀ j d, ds[j]? = some d → ∀ ρ m, I j ρ m → Es (g d ρ m) (fun ρ m => Es (body ρ m) (I (j + 1)) R Y) R Y) (hn : ∀ ρ m, I ds.length ρ m → N ρ m) : Es (forS g body ds ρ m) N R Y := by
  have key : ∀ (es : List D) (k : Nat) (ρ : Rho) (m : Store), ds.drop k = es → k ≤ ds.length → I k ρ m → Es (forS g body es ρ m) N R Y := by
    intro es
    induction es with
    | nil =>
      intro k ρ m e hk hI
      have : k = ds.length := by have := congrArg List.length e; simp at this; omega
      subst this
      exact hn ρ m hI
    | cons d es ih =>
      intro k ρ m e hk hI
      have hd : ds[k]? = some d := by
        have := congrArg List.head? e
        rw [List.head?_drop] at this
        exact this
      have hk' : k < ds.length := (List.getElem?_eq_some_iff.mp hd).1
      have he : ds.drop (k + 1) = es := by
        rw [← List.drop_drop, e]
        rfl
      have st := hs k d hd ρ m hI
      rw [← es_seq] at st
      unfold forS
      cases q : (g d ρ m).seq body with
      | nx ρ1 m1 =>
        rw [q] at st
        exact ih (k + 1) ρ1 m1 he hk' st
      | rt x m1 => rw [q] at st; exact st
      | exc x ρ1 m1 => rw [q] at st; exact st
      | bk ρ1 m1 => rw [q] at st; exact st.elim
      | ct ρ1 m1 => rw [q] at st; exact st.elim
      | stuck => rw [q] at st; exact st.elim
  exact key ds 0 ρ m (by simp) (Nat.zero_le _) h0
theorem ev_lc {g : D → Rho → Option Rho} {t : Rho → Store → Res Bool} {fe : FE} (I : Nat → List D → Store → Prop) {ds : List D} {ρ : Rho} {m : Store} {P : List D → Store → Prop} (h0 : I 0 [] m)
    (hs : ∀ j d, ds[j]? = some d → ∀ acc m, I j acc m → ∃ ρ1, g d ρ = some ρ1 ∧ Ev (t ρ1 m) (fun b m1 => if b = true then Ev (fe ρ1 m1) (fun y m2 => I (j + 1) (acc ++ [y]) m2) nX else I (j + 1) acc m1) nX) (hn : ∀ ys m, I ds.length ys m → P ys m) : Ev (lcM g t fe ρ ds m) P X := by
  obtain ⟨ys, m', e, hI⟩ := lcM_ix (g := g) (t := t) (fe := fe) (ρ := ρ) I (ds := ds) (k := 0) (acc := []) h0 fun j d hj acc m hI => by
    rw [Nat.zero_add] at hI ⊢
    obtain ⟨ρ1, h1, h2⟩ := hs j d hj acc m hI
    obtain ⟨b, m1, e1, h3⟩ := h2.get
    refine ⟨ρ1, b, m1, h1, e1, ?_⟩
    cases b with
    | false => exact .inl ⟨rfl, by simpa using h3⟩
    | true =>
      obtain ⟨y, m2, e2, h4⟩ := Ev.get (by simpa using h3)
      exact .inr ⟨rfl, y, m2, e2, h4⟩
  rw [Nat.zero_add, List.nil_append] at hI
  exact Ev.of e (hn _ _ hI)
/-- without a store: every item by itself -/
theorem ev_lcP {g : D → Rho → Option Rho} {t : Rho → Store → Res Bool} {fe : FE} (p : D → Bool) (f : D → D) {ds : List D} {ρ : Rho} {m : Store} {P : List D → Store → Prop}
    (hs : ∀ d ∈ ds, ∃ ρ1, g d ρ = some ρ1 ∧ t ρ1 m = .ok (p d) m ∧ (p d = true → fe ρ1 m = .ok (f d) m)) (hn : P ((ds.filter p).map f) m) : Ev (lcM g t fe ρ ds m) P X := by
  rw [lcM_pick hs]
  exact hn
theorem ev_rng {P : List D → Store → Prop} {j : Int} (h0 : 0 ≤ j) (h1 : j < 1000000) (h : P (rngL 0 j.toNat) m) : Ev (rngJ j m) P X := by
  unfold rngJ
  rw [if_pos ⟨by omega, by omega⟩]
  exact h
theorem ev_rngN {P : List D → Store → Prop} {n : Nat} (h1 : n ≤ 100000) (h : P (rngL 0 n) m) : Ev (rngJ (n : Int) m) P X := by
  have h2 : (n : Int) < 1000000 := by omega
  have h0 : (0 : Int) ≤ (n : Int) := by omega
  generalize hj : (n : Int) = j at h0 h2 ⊢
  refine ev_rng h0 h2 ?_
  have : j.toNat = n := by omega
  rw [this]
  exact h
theorem rngL_len (n : Nat) : (rngL 0 n).length = n := by simp [rngL]
theorem rngL_get {n j : Nat} {d : D} (h : (rngL 0 n)[j]? = some d) : j < n ∧ d = .p (.int (j : Int)) := by
  have hl := (List.getElem?_eq_some_iff.mp h).1
  rw [rngL_len] at hl
  refine ⟨hl, ?_⟩
  simp only [rngL, List.getElem?_map, List.getElem?_range hl, Option.map_some, Option.some.injEq] at h
  rw [← h]
  simp
end
theorem lsz {n : Nat} (h : n ≤ 100000) : n ≤ sizeLine := by rw [sizeLine_eq]; omega
/-! ### which arguments may be handed on -/
theorem nls_nil : nls [] = true := rfl
theorem nls_p {d : PyData} {r : List D} : nls (.p d :: r) = nls r := rfl
theorem nls_g {i : Nat} {r : List D} : nls (.cell (.g i) :: r) = nls r := rfl
theorem nls_fn {x : Str} {r : List D} : nls (.fn x :: r) = nls r := rfl
theorem nl_p {d : PyData} : nl (.p d) = true := rfl
theorem nl_g {i : Nat} : nl (.cell (.g i)) = true := rfl
theorem tru_bool {b : Bool} {m : Store} : truG (.p (.bool b)) m = some b := rfl
theorem ev_sz {α : Type} {r : Res α} {n : Nat} {P : α → Store → Prop} {X : Exn → Store → Prop} (h : n ≤ 100000) (k : Ev r P X) : Ev (if n ≤ sizeLine then r else .stuck) P X := by
  rw [if_pos (lsz h)]
  exact k
theorem ev_o {o : OD} {d : D} {m : Store} {P : D → Store → Prop} {X : Exn → Store → Prop} (e : o = some (d, m)) (h : P d m) : Ev (lift o) P X := by rw [e]; exact h
/-! ### words for evaluation -/
theorem mk0 : mkTup [] = .p (.tuple []) := rfl
theorem mk1 {a : PyData} : mkTup [.p a] = .p (.tuple [a]) := rfl
theorem mk2 {a b : PyData} : mkTup [.p a, .p b] = .p (.tuple [a, b]) := rfl
theorem mk3 {a b c : PyData} : mkTup [.p a, .p b, .p c] = .p (.tuple [a, b, c]) := rfl
theorem mk4 {a b c d : PyData} : mkTup [.p a, .p b, .p c, .p d] = .p (.tuple [a, b, c, d]) := rfl
theorem ml0 : mkLst [] = .p (.list []) := rfl
theorem ml1 {a : PyData} : mkLst [.p a] = .p (.list [a]) := rfl
theorem ml2 {a b : PyData} : mkLst [.p a, .p b] = .p (.list [a, b]) := rfl
theorem ml3 {a b c : PyData} : mkLst [.p a, .p b, .p c] = .p (.list [a, b, c]) := rfl
theorem ml4 {a b c d : PyData} : mkLst [.p a, .p b, .p c, .p d] = .p (.list [a, b, c, d]) := rfl
theorem ml5 {a b c d e : PyData} : mkLst [.p a, .p b, .p c, .p d, .p e] = .p (.list [a, b, c, d, e]) := rfl
theorem ml6 {a b c d e f : PyData} : mkLst [.p a, .p b, .p c, .p d, .p e, .p f] = .p (.list [a, b, c, d, e, f]) := rfl
theorem tupOf_p {ds : List PyData} : tupOf (.p (.tuple ds)) = some (ds.map D.p) := rfl
theorem tupOf_t {ds : List D} : tupOf (.tup ds) = some ds := rfl
theorem isTy_s {x : Str} {m : Store} : isTy "str" (.p (.str x)) m = true := rfl
theorem isTy_l {ds : List PyData} {m : Store} : isTy "list" (.p (.list ds)) m = true := rfl
theorem isTy_c {i : Ix} {xs : List D} {m : Store} (h : m.at_ i = some (.lst xs)) : isTy "list" (.cell i) m = true := by simp [isTy, lstOf, h]
theorem newL_z {xs : List D} {m : Store} : newL .z xs m = .ok (mkLst xs) m := rfl
theorem sz1 : (0 + 1 ≤ sizeLine) = True := eq_true (lsz (by decide))
theorem sz2 : (0 + 1 + 1 ≤ sizeLine) = True := eq_true (lsz (by decide))
theorem sz3 : (0 + 1 + 1 + 1 ≤ sizeLine) = True := eq_true (lsz (by decide))
theorem sz4 : (0 + 1 + 1 + 1 + 1 ≤ sizeLine) = True := eq_true (lsz (by decide))
theorem sz5 : (0 + 1 + 1 + 1 + 1 + 1 ≤ sizeLine) = True := eq_true (lsz (by decide))
theorem sz6 : (0 + 1 + 1 + 1 + 1 + 1 + 1 ≤ sizeLine) = True := eq_true (lsz (by decide))
theorem sz7 : (0 + 1 + 1 + 1 + 1 + 1 + 1 + 1 ≤ sizeLine) = True := eq_true (lsz (by decide))
theorem sz8 : (0 + 1 + 1 + 1 + 1 + 1 + 1 + 1 + 1 ≤ sizeLine) = True := eq_true (lsz (by decide))
theorem sz9 : (0 + 1 + 1 + 1 + 1 + 1 + 1 + 1 + 1 + 1 ≤ sizeLine) = True := eq_true (lsz (by decide))
theorem sz10 : (0 + 1 + 1 + 1 + 1 + 1 + 1 + 1 + 1 + 1 + 1 ≤ sizeLine) = True := eq_true (lsz (by decide))
theorem sz11 : (0 + 1 + 1 + 1 + 1 + 1 + 1 + 1 + 1 + 1 + 1 + 1 ≤ sizeLine) = True := eq_true (lsz (by decide))
theorem sz12 : (0 + 1 + 1 + 1 + 1 + 1 + 1 + 1 + 1 + 1 + 1 + 1 + 1 ≤ sizeLine) = True := eq_true (lsz (by decide))
theorem sz13 : (0 + 1 + 1 + 1 + 1 + 1 + 1 + 1 + 1 + 1 + 1 + 1 + 1 + 1 ≤ sizeLine) = True := eq_true (lsz (by decide))
theorem sz14 : (0 + 1 + 1 + 1 + 1 + 1 + 1 + 1 + 1 + 1 + 1 + 1 + 1 + 1 + 1 ≤ sizeLine) = True := eq_true (lsz (by decide))
theorem sz15 : (0 + 1 + 1 + 1 + 1 + 1 + 1 + 1 + 1 + 1 + 1 + 1 + 1 + 1 + 1 + 1 ≤ sizeLine) = True := eq_true (lsz (by decide))
theorem sz16 : (0 + 1 + 1 + 1 + 1 + 1 + 1 + 1 + 1 + 1 + 1 + 1 + 1 + 1 + 1 + 1 + 1 ≤ sizeLine) = True := eq_true (lsz (by decide))
theorem sz17 : (0 + 1 + 1 + 1 + 1 + 1 + 1 + 1 + 1 + 1 + 1 + 1 + 1 + 1 + 1 + 1 + 1 + 1 ≤ sizeLine) = True := eq_true (lsz (by decide))
theorem sz18 : (0 + 1 + 1 + 1 + 1 + 1 + 1 + 1 + 1 + 1 + 1 + 1 + 1 + 1 + 1 + 1 + 1 + 1 + 1 ≤ sizeLine) = True := eq_true (lsz (by decide))
theorem sz19 : (0 + 1 + 1 + 1 + 1 + 1 + 1 + 1 + 1 + 1 + 1 + 1 + 1 + 1 + 1 + 1 + 1 + 1 + 1 + 1 ≤ sizeLine) = True := eq_true (lsz (by decide))
theorem sz20 : (0 + 1 + 1 + 1 + 1 + 1 + 1 + 1 + 1 + 1 + 1 + 1 + 1 + 1 + 1 + 1 + 1 + 1 + 1 + 1 + 1 ≤ sizeLine) = True := eq_true (lsz (by decide))
theorem sz21 : (0 + 1 + 1 + 1 + 1 + 1 + 1 + 1 + 1 + 1 + 1 + 1 + 1 + 1 + 1 + 1 + 1 + 1 + 1 + 1 + 1 + 1 ≤ sizeLine) = True := eq_true (lsz (by decide))
theorem sz22 : (0 + 1 + 1 + 1 + 1 + 1 + 1 + 1 + 1 + 1 + 1 + 1 + 1 + 1 + 1 + 1 + 1 + 1 + 1 + 1 + 1 + 1 + 1 ≤ sizeLine) = True := eq_true (lsz (by decide))
theorem sz23 : (0 + 1 + 1 + 1 + 1 + 1 + 1 + 1 + 1 + 1 + 1 + 1 + 1 + 1 + 1 + 1 + 1 + 1 + 1 + 1 + 1 + 1 + 1 + 1 ≤ sizeLine) = True := eq_true (lsz (by decide))
theorem sz24 : (0 + 1 + 1 + 1 + 1 + 1 + 1 + 1 + 1 + 1 + 1 + 1 + 1 + 1 + 1 + 1 + 1 + 1 + 1 + 1 + 1 + 1 + 1 + 1 + 1 ≤ sizeLine) = True := eq_true (lsz (by decide))
end L2.Dn
namespace L2.Dn
open PySem PySem.Spec PyProof.Rows L2
/-! ### dicts whose keys are texts -/
def sd (kv : List (Str × PyData)) : PyData := .dict (kv.map fun q => (.str q.1, q.2))
/-- the entries as they are told -/
def sk (kv : List (Str × PyData)) : List (PyData × D) := kv.map fun q => (.str q.1, .p q.2)
def putS {α : Type} (kv : List (Str × α)) (n : Str) (v : α) : List (Str × α) := if n ∈ kv.map (·.1) then kv.map (fun q => if q.1 = n then (q.1, v) else q) else kv ++ [(n, v)]
section
variable {kv : List (Str × PyData)} {n : Str} {v : PyData} {m : Store} {d : D}
theorem sd_zip : ∀ kv : List (Str × PyData), ((kv.map fun q => (PyData.str q.1, q.2)).map (·.1)).zip (((kv.map fun q => (PyData.str q.1, q.2)).map (·.2)).map D.p) = sk kv
  | [] => rfl
  | q :: kv => by
    have := sd_zip kv
    simp only [List.map_cons, List.zip_cons_cons, sk] at this ⊢
    rw [this]
theorem dct_sd : dctOf (.p (sd kv)) m = some (sk kv) := by
  show some _ = _
  rw [sd_zip]
theorem sk_len : (sk kv).length = kv.length := by simp [sk]
theorem nk_str : nk (.str n) = some (.text n) := rfl
theorem lk_sk : ∀ kv : List (Str × PyData), lkD (sk kv) (.text n) = (kv.lookup n).map D.p
  | [] => rfl
  | q :: kv => by
    have ih := lk_sk kv
    unfold lkD sk at ih ⊢
    rw [List.map_cons, List.find?_cons]
    show _ = (List.lookup n ((q.1, q.2) :: kv)).map D.p
    rw [List.lookup_cons]
    by_cases h : q.1 = n
    · have e : (n == q.1) = true := by simp [h]
      rw [e]
      simp [nk_str, h]
    · have e : (n == q.1) = false := beq_eq_false_iff_ne.mpr fun z => h z.symm
      have e2 : decide (nk (PyData.str q.1) = some (.text n)) = false := decide_eq_false (by rw [nk_str]; intro z; cases z; exact h rfl)
      rw [e, e2]
      exact ih
theorem key_str : keyK (.p (.str n)) = some (.text n) := rfl
theorem get_sd2 : getD1 (.p (sd kv)) [.p (.str n), d] m = some (((kv.lookup n).map D.p).getD d, m) := by
  simp only [getD1, dct_sd, key_str, lk_sk]
theorem get_sd1 : getD1 (.p (sd kv)) [.p (.str n)] m = some (((kv.lookup n).map D.p).getD (.p .none), m) := by
  simp only [getD1, dct_sd, key_str, lk_sk]
theorem ix_sd (h : kv.lookup n = some v) : ixG (.p (sd kv)) (.p (.str n)) m = some (.p v, m) := by
  have e1 : ixD (.p (sd kv)) (.p (.str n)) m = none := rfl
  have e2 : ixDc (.p (sd kv)) (.p (.str n)) m = some (.p v, m) := by
    simp only [ixDc, dct_sd, key_str, lk_sk, h, Option.map_some]
  unfold ixG altO
  rw [e1]
  exact e2
theorem in_sd : inG (.p (.str n)) (.p (sd kv)) m = some (.p (.bool (kv.lookup n).isSome), m) := by
  have e1 : inD (.p (.str n)) (.p (sd kv)) m = none := rfl
  have e2 : inDc false (.p (.str n)) (.p (sd kv)) m = some (.p (.bool (kv.lookup n).isSome), m) := by
    simp only [inDc, dct_sd, key_str, lk_sk, Option.isSome_map]
    rfl
  unfold inG altO
  rw [e1]
  exact e2
theorem notIn_sd : notInG (.p (.str n)) (.p (sd kv)) m = some (.p (.bool (!(kv.lookup n).isSome)), m) := by
  have e1 : notInD (.p (.str n)) (.p (sd kv)) m = none := rfl
  have e2 : inDc true (.p (.str n)) (.p (sd kv)) m = some (.p (.bool (!(kv.lookup n).isSome)), m) := by
    simp only [inDc, dct_sd, key_str, lk_sk, Option.isSome_map]
    rfl
  unfold notInG altO
  rw [e1]
  exact e2
theorem len_sd (h : kv.length ≤ 100000) : lenG [.p (sd kv)] m = some (.p (.int kv.length), m) := by
  have e1 : lenD [.p (sd kv)] m = none := rfl
  simp only [lenG, e1, dct_sd, sk_len]
  rw [if_pos (lsz h)]
theorem keys_sk : ∀ kv : List (Str × PyData), keysK (sk kv) = kv.map fun q => .text q.1
  | [] => rfl
  | q :: kv => by
    have := keys_sk kv
    unfold keysK sk at this ⊢
    rw [List.map_cons, List.filterMap_cons, List.map_cons]
    simp only [nk_str]
    rw [this]
theorem pures_sk : ∀ kv : List (Str × PyData), pures ((sk kv).map (·.2)) = some (kv.map (·.2))
  | [] => rfl
  | q :: kv => by
    have := pures_sk kv
    simp only [sk, List.map_cons, pures] at this ⊢
    rw [this]
theorem mk_sk : mkDct (sk kv) = .p (sd kv) := by
  unfold mkDct
  rw [pures_sk]
  show D.p (.dict _) = _
  congr 2
  induction kv with
  | nil => rfl
  | cons q kv ih => simp only [sk, List.map_cons, List.zip_cons_cons] at ih ⊢; rw [ih]
theorem dict_sd (h : kv.length ≤ 100000) : dictD .z [.p (sd kv)] m = some (.p (sd kv), m) := by
  have e : apartK (keysK (sk kv)) = true := by
    rw [keys_sk]
    have : ((kv.map fun q => NestedKey.text q.1).any isTupK) = false := by
      rw [List.any_eq_false]
      intro x hx
      obtain ⟨q, _, rfl⟩ := List.mem_map.mp hx
      exact Bool.false_ne_true
    simp only [apartK, this, Bool.not_false, Bool.true_or]
  simp only [dictD, dct_sd]
  rw [if_pos ⟨e, by rw [sk_len]; exact lsz h⟩]
  simp only [newDO, newD, mk_sk]
theorem frz_sk : frzC (.dct (sk kv)) = some (.p (sd kv)) := by simp only [frzC, mk_sk]
theorem sk_keys : (sk kv).map (fun q => nk q.1) = kv.map fun q => some (.text q.1) := by simp [sk, Function.comp_def, nk_str]
theorem put_sk : putD (sk kv) (.str n) (.text n) (.p v) = sk (putS kv n v) := by
  unfold putD putS
  rw [sk_keys]
  by_cases h : n ∈ kv.map (·.1)
  · have h2 : some (NestedKey.text n) ∈ kv.map (fun q => some (NestedKey.text q.1)) := by
      obtain ⟨q, hq, e⟩ := List.mem_map.mp h
      exact List.mem_map.mpr ⟨q, hq, by rw [e]⟩
    rw [if_pos h, if_pos h2]
    simp only [sk, List.map_map]
    apply List.map_congr_left
    intro q _
    simp only [Function.comp]
    by_cases e : q.1 = n
    · rw [if_pos e, if_pos (by rw [nk_str, e])]
    · rw [if_neg e, if_neg (by rw [nk_str]; intro z; cases z; exact e rfl)]
  · have h2 : ¬ some (NestedKey.text n) ∈ kv.map (fun q => some (NestedKey.text q.1)) := by
      intro z
      obtain ⟨q, hq, e⟩ := List.mem_map.mp z
      cases e
      exact h (List.mem_map.mpr ⟨q, hq, rfl⟩)
    rw [if_neg h, if_neg h2]
    simp [sk]
theorem set_sk {i : Ix} (h : m.at_ i = some (.dct (sk kv))) (hl : kv.length < 100000) : setG (.cell i) (.p (.str n)) (.p v) m = some (m.set (.dct (sk (putS kv n v))) i) := by
  have e1 : setItemD (.cell i) (.p (.str n)) (.p v) m = none := by
    simp only [setItemD]
  have e2 : setItemDc (.cell i) (.p (.str n)) (.p v) m = some (m.set (.dct (sk (putS kv n v))) i) := by
    simp only [setItemDc, h, key_str, put_sk, okIn_p, and_true]
    rw [if_pos (by rw [sk_len, sizeLine_eq]; omega)]
  unfold setG
  rw [e1]
  exact e2
/-! ### putting -/
theorem put_mem {α : Type} {kv : List (Str × α)} {n : Str} {v : α} {q : Str × α} (h : q ∈ putS kv n v) : q ∈ kv ∨ q = (n, v) := by
  unfold putS at h
  split at h
  · obtain ⟨p, hp, e⟩ := List.mem_map.mp h
    split at e
    · rename_i hn
      right
      rw [← e, hn]
    · left
      rw [← e]
      exact hp
  · rcases List.mem_append.mp h with h | h
    · exact .inl h
    · exact .inr (List.mem_singleton.mp h)
theorem put_len {α : Type} (kv : List (Str × α)) (n : Str) (v : α) : (putS kv n v).length ≤ kv.length + 1 ∧ 1 ≤ (putS kv n v).length ∧ kv.length ≤ (putS kv n v).length := by
  unfold putS
  split
  · rename_i h
    obtain ⟨q, hq, _⟩ := List.mem_map.mp h
    have := List.length_pos_of_mem hq
    rw [List.length_map]
    omega
  · rw [List.length_append, List.length_singleton]
    omega
theorem putS_keys {α : Type} {kv : List (Str × α)} {n : Str} {v : α} (h : (kv.map (·.1)).Nodup) : ((putS kv n v).map (·.1)).Nodup := by
  unfold putS
  split
  · have : (kv.map (fun q => if q.1 = n then (q.1, v) else q)).map (·.1) = kv.map (·.1) := by
      rw [List.map_map]
      apply List.map_congr_left
      intro q _
      simp only [Function.comp]
      split <;> rfl
    rw [this]
    exact h
  · rename_i hn
    rw [List.map_append, List.nodup_append]
    refine ⟨h, by simp, fun a ha b hb e => ?_⟩
    have : b = n := by simpa using hb
    exact hn (by rw [← this, ← e]; exact ha)
theorem put_look {α : Type} {n n' : Str} {v : α} : ∀ {kv : List (Str × α)}, (putS kv n v).lookup n' = if n' = n then some v else kv.lookup n' := by
  intro kv
  have k1 : ∀ kv : List (Str × α), (kv.map (fun q => if q.1 = n then (q.1, v) else q)).lookup n' = if n' = n ∧ n ∈ kv.map (·.1) then some v else kv.lookup n' := by
    intro kv
    induction kv with
    | nil => simp
    | cons q kv ih =>
      obtain ⟨a, b⟩ := q
      rw [List.map_cons]
      by_cases h : a = n
      · subst h
        simp only [if_true, List.lookup_cons, ih]
        by_cases h2 : n' = a
        · subst h2; simp
        · have : (n' == a) = false := beq_eq_false_iff_ne.mpr h2
          simp [this, h2]
      · simp only [if_neg h, List.lookup_cons, ih]
        by_cases h2 : n' = a
        · subst h2; simp [h]
        · have : (n' == a) = false := beq_eq_false_iff_ne.mpr h2
          have h' : ¬ n = a := fun z => h z.symm
          have h3 : (n ∈ ((a, b) :: kv).map (·.1)) ↔ n ∈ kv.map (·.1) := by
            rw [List.map_cons, List.mem_cons]
            exact ⟨fun z => z.elim (fun z => absurd z h') id, .inr⟩
          simp only [this, h3]
  have k2 : ∀ kv : List (Str × α), (kv ++ [(n, v)]).lookup n' = (kv.lookup n').or (if n' = n then some v else none) := by
    intro kv
    induction kv with
    | nil =>
      by_cases h : n' = n
      · subst h; simp
      · have : (n' == n) = false := beq_eq_false_iff_ne.mpr h
        simp [List.lookup_cons, this, h]
    | cons q kv ih =>
      obtain ⟨a, b⟩ := q
      rw [List.cons_append, List.lookup_cons, List.lookup_cons, ih]
      cases n' == a <;> rfl
  have k3 : ∀ kv : List (Str × α), n ∉ kv.map (·.1) → kv.lookup n = none := by
    intro kv h
    induction kv with
    | nil => rfl
    | cons q kv ih =>
      obtain ⟨a, b⟩ := q
      simp only [List.map_cons, List.mem_cons, not_or] at h
      have : (n == a) = false := beq_eq_false_iff_ne.mpr h.1
      rw [List.lookup_cons, this]
      exact ih h.2
  unfold putS
  split
  · rename_i h
    rw [k1]
    simp [h]
  · rename_i h
    rw [k2]
    by_cases e : n' = n
    · subst e
      rw [k3 _ h]
      simp
    · simp [e]
end
theorem look_mem {α : Type} {n : Str} {v : α} : ∀ {kv : List (Str × α)}, kv.lookup n = some v → (n, v) ∈ kv := fun h => lookup_memA h
theorem mem_look {α : Type} {n : Str} : ∀ {kv : List (Str × α)}, n ∈ kv.map (·.1) → ∃ v, kv.lookup n = some v
  | (a, b) :: kv, h => by
    rw [List.lookup_cons]
    by_cases e : n = a
    · subst e
      exact ⟨b, by simp⟩
    · have : (n == a) = false := beq_eq_false_iff_ne.mpr e
      rw [this]
      rcases List.mem_cons.mp h with h | h
      · exact absurd h e
      · exact mem_look h
/-! ### texts in order -/
theorem srt_perm (ps : List PyData) : (srtP ps).Perm ps := List.mergeSort_perm ps _
theorem sortB_strs {xs : List Str} (h : xs.length ≤ 100000) : sortB (xs.map PyData.str) = true := by
  simp only [sortB, Bool.and_eq_true, decide_eq_true_eq, List.all_eq_true, Bool.or_eq_true, List.length_map]
  refine ⟨⟨⟨?_, ?_⟩, lsz h⟩, ?_⟩
  · intro a ha b hb
    obtain ⟨x, _, rfl⟩ := List.mem_map.mp ha
    obtain ⟨y, _, rfl⟩ := List.mem_map.mp hb
    rfl
  · right
    intro a ha
    obtain ⟨x, _, rfl⟩ := List.mem_map.mp ha
    rfl
  · intro a ha
    obtain ⟨x, _, rfl⟩ := List.mem_map.mp ha
    exact Nat.zero_le _
/-- the texts in order -/
def srtS (xs : List Str) : List Str := (srtP (xs.map .str)).filterMap fun p => match p with
  | .str x => some x
  | _ => none
theorem srtS_map (xs : List Str) : srtP (xs.map PyData.str) = (srtS xs).map PyData.str := by
  have h : ∀ p ∈ srtP (xs.map PyData.str), ∃ x, p = .str x := fun p hp => by
    have := (srt_perm (xs.map PyData.str)).mem_iff.mp hp
    obtain ⟨x, _, rfl⟩ := List.mem_map.mp this
    exact ⟨x, rfl⟩
  unfold srtS
  revert h
  generalize srtP (xs.map PyData.str) = l
  intro h
  induction l with
  | nil => rfl
  | cons p l ih =>
    obtain ⟨x, rfl⟩ := h p (List.mem_cons_self ..)
    rw [List.filterMap_cons]
    simp only [List.map_cons]
    rw [← ih fun q hq => h q (List.mem_cons_of_mem _ hq)]
theorem srtS_perm (xs : List Str) : (srtS xs).Perm xs := by
  have h := srt_perm (xs.map PyData.str)
  rw [srtS_map] at h
  have := h.filterMap (fun p => match p with | .str x => some x | _ => (none : Option Str))
  simpa [List.filterMap_map, Function.comp_def] using this
theorem sort_sd {kv : List (Str × PyData)} {m : Store} (h : kv.length ≤ 100000) : sortG .z [.p (sd kv)] m = some (.p (.list ((srtS (kv.map (·.1))).map .str)), m) := by
  have e1 : sortD .z [.p (sd kv)] m = none := rfl
  have e2 : (sk kv).map (·.1) = (kv.map (·.1)).map PyData.str := by simp [sk, Function.comp_def]
  simp only [sortG, e1, dct_sd, e2]
  rw [if_pos (sortB_strs (by rw [List.length_map]; exact h)), srtS_map]
  simp only [newO, mkLst_p]
theorem itms_sd : ∀ kv : List (Str × PyData), prs ((kv.map fun q => (PyData.str q.1, q.2)).map (·.1)) (((kv.map fun q => (PyData.str q.1, q.2)).map (·.2)).map D.p) = (kv.map fun q => PyData.tuple [.str q.1, q.2]).map D.p := by
  intro kv
  unfold prs
  rw [sd_zip]
  simp only [sk, List.map_map]
  rfl
theorem sn1 : (1 ≤ sizeLine) = True := eq_true (lsz (by decide))
theorem sn2 : (2 ≤ sizeLine) = True := eq_true (lsz (by decide))
theorem sn3 : (3 ≤ sizeLine) = True := eq_true (lsz (by decide))
theorem sn4 : (4 ≤ sizeLine) = True := eq_true (lsz (by decide))
theorem sn5 : (5 ≤ sizeLine) = True := eq_true (lsz (by decide))
theorem sn6 : (6 ≤ sizeLine) = True := eq_true (lsz (by decide))
theorem sn7 : (7 ≤ sizeLine) = True := eq_true (lsz (by decide))
theorem sn8 : (8 ≤ sizeLine) = True := eq_true (lsz (by decide))
theorem sn9 : (9 ≤ sizeLine) = True := eq_true (lsz (by decide))
theorem sn10 : (10 ≤ sizeLine) = True := eq_true (lsz (by decide))
theorem sn11 : (11 ≤ sizeLine) = True := eq_true (lsz (by decide))
theorem sn12 : (12 ≤ sizeLine) = True := eq_true (lsz (by decide))
theorem sn13 : (13 ≤ sizeLine) = True := eq_true (lsz (by decide))
theorem sn14 : (14 ≤ sizeLine) = True := eq_true (lsz (by decide))
theorem sn15 : (15 ≤ sizeLine) = True := eq_true (lsz (by decide))
theorem sn16 : (16 ≤ sizeLine) = True := eq_true (lsz (by decide))
theorem sn17 : (17 ≤ sizeLine) = True := eq_true (lsz (by decide))
theorem sn18 : (18 ≤ sizeLine) = True := eq_true (lsz (by decide))
theorem sn19 : (19 ≤ sizeLine) = True := eq_true (lsz (by decide))
theorem sn20 : (20 ≤ sizeLine) = True := eq_true (lsz (by decide))
theorem sn21 : (21 ≤ sizeLine) = True := eq_true (lsz (by decide))
theorem sn22 : (22 ≤ sizeLine) = True := eq_true (lsz (by decide))
theorem sn23 : (23 ≤ sizeLine) = True := eq_true (lsz (by decide))
theorem sn24 : (24 ≤ sizeLine) = True := eq_true (lsz (by decide))
/-! ### new cells -/
theorem frzV_at {i : Nat} {f : FS} {ρ : Rho} {m : Store} {j : Ix} {x : Cell} {d : D} (h1 : ρ[i]? = some (some (.cell j))) (h2 : m.at_ j = some x) (h3 : frzC x = some d) : frzV i f ρ m = f (ρ.set i (some d)) (m.set .gone j) := by
  simp only [frzV, h1, h2, h3]
theorem dct0_l {ρ : Rho} {g l : List Cell} : dct0E .l ρ ⟨g, l⟩ = .ok (.cell (.l l.length)) ⟨g, l ++ [.dct []]⟩ := rfl
theorem dct0_z {ρ : Rho} {m : Store} : dct0E .z ρ m = .ok (.p (.dict [])) m := rfl
theorem new_l {g l : List Cell} : newL .l [] ⟨g, l⟩ = .ok (.cell (.l l.length)) ⟨g, l ++ [.lst []]⟩ := rfl
theorem new_g {g l : List Cell} : newL .g [] ⟨g, l⟩ = .ok (.cell (.g g.length)) ⟨g ++ [.lst []], l⟩ := rfl
theorem at_l0 {g l : List Cell} {x : Cell} : (⟨g, x :: l⟩ : Store).at_ (.l 0) = some x := rfl
theorem at_l1 {g l : List Cell} {x y : Cell} : (⟨g, x :: y :: l⟩ : Store).at_ (.l 1) = some y := rfl
theorem at_l2 {g l : List Cell} {x y z : Cell} : (⟨g, x :: y :: z :: l⟩ : Store).at_ (.l 2) = some z := rfl
theorem set_l0 {g l : List Cell} {x x' : Cell} : (⟨g, x :: l⟩ : Store).set x' (.l 0) = ⟨g, x' :: l⟩ := rfl
theorem set_l1 {g l : List Cell} {x y y' : Cell} : (⟨g, x :: y :: l⟩ : Store).set y' (.l 1) = ⟨g, x :: y' :: l⟩ := rfl
theorem set_l2 {g l : List Cell} {x y z z' : Cell} : (⟨g, x :: y :: z :: l⟩ : Store).set z' (.l 2) = ⟨g, x :: y :: z' :: l⟩ := rfl
theorem app_p {i : Ix} {xs : List D} {d : PyData} {m : Store} (h : m.at_ i = some (.lst xs)) (hl : xs.length < 100000) : appendD (.cell i) [.p d] m = some (.p .none, m.set (.lst (xs ++ [.p d])) i) := by
  simp only [appendD, h]
  rw [if_pos ⟨by rw [sizeLine_eq]; omega, okIn_p⟩]
theorem ixG_l {i : Ix} {xs : List D} {k : Int} {d : D} {m : Store} (h : m.at_ i = some (.lst xs)) (h0 : 0 ≤ k) (e : xs[k.toNat]? = some d) : ixG (.cell i) (.p (.int k)) m = some (d, m) := alt_some (by rw [ixD_cell h h0, e]; rfl)
end L2.Dn
namespace L2.Dn
open PySem PySem.Spec PyProof.Rows L2
/-! ### dicts by keys of any one kind -/
section
variable {κ α : Type} [BEq κ] [LawfulBEq κ] [DecidableEq κ]
def putA (kv : List (κ × α)) (n : κ) (v : α) : List (κ × α) := if n ∈ kv.map (·.1) then kv.map (fun q => if q.1 = n then (q.1, v) else q) else kv ++ [(n, v)]
theorem lookA_none {n : κ} : ∀ {kv : List (κ × α)}, n ∉ kv.map (·.1) → kv.lookup n = none
  | [], _ => rfl
  | (a, b) :: kv, h => by
    simp only [List.map_cons, List.mem_cons, not_or] at h
    have : (n == a) = false := beq_eq_false_iff_ne.mpr h.1
    rw [List.lookup_cons, this]
    exact lookA_none h.2
theorem lookA_mem {n : κ} {v : α} : ∀ {kv : List (κ × α)}, kv.lookup n = some v → (n, v) ∈ kv
  | (a, b) :: kv, h => by
    rw [List.lookup_cons] at h
    cases z : n == a with
    | true =>
      rw [z] at h
      cases h
      rw [eq_of_beq z]
      exact List.mem_cons_self ..
    | false =>
      rw [z] at h
      exact List.mem_cons_of_mem _ (lookA_mem h)
theorem putA_look {n n' : κ} {v : α} {kv : List (κ × α)} : (putA kv n v).lookup n' = if n' = n then some v else kv.lookup n' := by
  have k1 : ∀ kv : List (κ × α), (kv.map (fun q => if q.1 = n then (q.1, v) else q)).lookup n' = if n' = n ∧ n ∈ kv.map (·.1) then some v else kv.lookup n' := by
    intro kv
    induction kv with
    | nil => simp
    | cons q kv ih =>
      obtain ⟨a, b⟩ := q
      rw [List.map_cons]
      by_cases h : a = n
      · subst h
        simp only [if_true, List.lookup_cons, ih]
        by_cases h2 : n' = a
        · subst h2; simp
        · have : (n' == a) = false := beq_eq_false_iff_ne.mpr h2
          simp [this, h2]
      · simp only [if_neg h, List.lookup_cons, ih]
        by_cases h2 : n' = a
        · subst h2; simp [h]
        · have : (n' == a) = false := beq_eq_false_iff_ne.mpr h2
          have h' : ¬ n = a := fun z => h z.symm
          have h3 : (n ∈ ((a, b) :: kv).map (·.1)) ↔ n ∈ kv.map (·.1) := by
            rw [List.map_cons, List.mem_cons]
            exact ⟨fun z => z.elim (fun z => absurd z h') id, .inr⟩
          simp only [this, h3]
  have k2 : ∀ kv : List (κ × α), (kv ++ [(n, v)]).lookup n' = (kv.lookup n').or (if n' = n then some v else none) := by
    intro kv
    induction kv with
    | nil =>
      by_cases h : n' = n
      · subst h; simp
      · have : (n' == n) = false := beq_eq_false_iff_ne.mpr h
        simp [List.lookup_cons, this, h]
    | cons q kv ih =>
      obtain ⟨a, b⟩ := q
      rw [List.cons_append, List.lookup_cons, List.lookup_cons, ih]
      cases n' == a <;> rfl
  unfold putA
  split
  · rename_i h
    rw [k1]
    simp [h]
  · rename_i h
    rw [k2]
    by_cases e : n' = n
    · subst e
      rw [lookA_none h]
      simp
    · simp [e]
theorem putA_len (kv : List (κ × α)) (n : κ) (v : α) : (putA kv n v).length ≤ kv.length + 1 := by
  unfold putA
  split
  · rw [List.length_map]; omega
  · rw [List.length_append, List.length_singleton]; omega
end
/-- keys that are data of their own -/
structure KeyM (κ : Type) where
  kd : κ → PyData
  kn : κ → NestedKey
  nk : ∀ k, nk (kd k) = some (kn k)
  dp : ∀ k, (kn k).depth ≤ 8
  inj : ∀ a b, kn a = kn b → a = b
section
variable {κ α : Type} [BEq κ] [LawfulBEq κ] [DecidableEq κ] (M : KeyM κ) (f : α → D)
def KeyM.kv (l : List (κ × α)) : List (PyData × D) := l.map fun q => (M.kd q.1, f q.2)
theorem KeyM.len (l : List (κ × α)) : (M.kv f l).length = l.length := by simp [KeyM.kv]
theorem KeyM.key (k : κ) : keyK (.p (M.kd k)) = some (M.kn k) := by simp only [keyK, M.nk, if_pos (M.dp k)]
theorem KeyM.lk (k : κ) : ∀ l : List (κ × α), lkD (M.kv f l) (M.kn k) = (l.lookup k).map f
  | [] => rfl
  | q :: l => by
    have ih := KeyM.lk k l
    unfold lkD KeyM.kv at ih ⊢
    rw [List.map_cons, List.find?_cons]
    show _ = (List.lookup k ((q.1, q.2) :: l)).map f
    rw [List.lookup_cons]
    by_cases h : q.1 = k
    · have e : (k == q.1) = true := by simp [h]
      rw [e]
      simp [M.nk, h]
    · have e : (k == q.1) = false := beq_eq_false_iff_ne.mpr fun z => h z.symm
      have e2 : decide (Dn.nk (M.kd q.1) = some (M.kn k)) = false := decide_eq_false (by rw [M.nk]; intro z; exact h (M.inj _ _ (Option.some.inj z)))
      rw [e, e2]
      exact ih
theorem KeyM.put (k : κ) (v : α) (l : List (κ × α)) : putD (M.kv f l) (M.kd k) (M.kn k) (f v) = M.kv f (putA l k v) := by
  have e0 : (M.kv f l).map (fun q => Dn.nk q.1) = l.map fun q => some (M.kn q.1) := by simp [KeyM.kv, Function.comp_def, M.nk]
  unfold putD putA
  rw [e0]
  by_cases h : k ∈ l.map (·.1)
  · have h2 : some (M.kn k) ∈ l.map (fun q => some (M.kn q.1)) := by
      obtain ⟨q, hq, e⟩ := List.mem_map.mp h
      exact List.mem_map.mpr ⟨q, hq, by rw [e]⟩
    rw [if_pos h, if_pos h2]
    simp only [KeyM.kv, List.map_map]
    apply List.map_congr_left
    intro q _
    simp only [Function.comp]
    by_cases e : q.1 = k
    · rw [if_pos e, if_pos (by rw [M.nk, e])]
    · rw [if_neg e, if_neg (by rw [M.nk]; intro z; exact e (M.inj _ _ (Option.some.inj z)))]
  · have h2 : ¬ some (M.kn k) ∈ l.map (fun q => some (M.kn q.1)) := by
      intro z
      obtain ⟨q, hq, e⟩ := List.mem_map.mp z
      exact h (List.mem_map.mpr ⟨q, hq, M.inj _ _ (Option.some.inj e)⟩)
    rw [if_neg h, if_neg h2]
    simp [KeyM.kv]
variable {M f} {m : Store} {i : Ix} {l : List (κ × α)} {k : κ} {v : α}
theorem dctOf_c {kvs : List (PyData × D)} (h : m.at_ i = some (.dct kvs)) : dctOf (.cell i) m = some kvs := by simp only [dctOf, dctZ, h]
theorem whole_dct {kvs : List (PyData × D)} (h : m.at_ i = some (.dct kvs)) : whole m (.cell i) = none ∨ ∃ kv, whole m (.cell i) = some (.dict kv) := by
  have e : whole m (.cell i) = (deepAll (deep m 7) (kvs.map (·.2))).map fun vs => PyData.dict ((kvs.map (·.1)).zip vs) := by simp only [whole, deep, h]
  rw [e]
  cases deepAll (deep m 7) (kvs.map (·.2)) with
  | none => exact .inl rfl
  | some vs => exact .inr ⟨_, rfl⟩
/-- told of tuples: no other rule serves -/
theorem KeyM.notIn {ks : List PyData} (hk : M.kd k = .tuple ks) (h : m.at_ i = some (.dct (M.kv f l))) : notInG (.p (M.kd k)) (.cell i) m = some (.p (.bool (!(l.lookup k).isSome)), m) := by
  have e1 : notInD (.p (M.kd k)) (.cell i) m = none := by
    rw [hk]
    simp only [notInD, altO, inSg, inL]
    rcases whole_dct h with z | ⟨kv, z⟩ <;> rw [z] <;> rfl
  have e2 : inDc true (.p (M.kd k)) (.cell i) m = some (.p (.bool (!(l.lookup k).isSome)), m) := by
    simp only [inDc, M.key, dctOf_c h, M.lk, Option.isSome_map, if_true]
  unfold notInG altO
  rw [e1]
  exact e2
theorem KeyM.isIn {ks : List PyData} (hk : M.kd k = .tuple ks) (h : m.at_ i = some (.dct (M.kv f l))) : inG (.p (M.kd k)) (.cell i) m = some (.p (.bool (l.lookup k).isSome), m) := by
  have e1 : inD (.p (M.kd k)) (.cell i) m = none := by
    rw [hk]
    simp only [inD, altO, inSg, inTs, inL]
    rcases whole_dct h with z | ⟨kv, z⟩ <;> rw [z] <;> rfl
  have e2 : inDc false (.p (M.kd k)) (.cell i) m = some (.p (.bool (l.lookup k).isSome), m) := by
    simp only [inDc, M.key, dctOf_c h, M.lk, Option.isSome_map, Bool.false_eq_true, if_false]
  unfold inG altO
  rw [e1]
  exact e2
theorem KeyM.ix {ks : List PyData} (hk : M.kd k = .tuple ks) (h : m.at_ i = some (.dct (M.kv f l))) (hv : l.lookup k = some v) : ixG (.cell i) (.p (M.kd k)) m = some (f v, m) := by
  have e1 : ixD (.cell i) (.p (M.kd k)) m = none := by
    rw [hk]
    rfl
  have e2 : ixDc (.cell i) (.p (M.kd k)) m = some (f v, m) := by
    simp only [ixDc, M.key, dctOf_c h, M.lk, hv, Option.map_some]
  unfold ixG altO
  rw [e1]
  exact e2
theorem KeyM.set {ks : List PyData} (hk : M.kd k = .tuple ks) (h : m.at_ i = some (.dct (M.kv f l))) (hl : l.length < 100000) (ok : okIn (f v) i = true) : setG (.cell i) (.p (M.kd k)) (f v) m = some (m.set (.dct (M.kv f (putA l k v))) i) := by
  have e1 : setItemD (.cell i) (.p (M.kd k)) (f v) m = none := by
    rw [hk]
    simp only [setItemD]
  have e2 : setItemDc (.cell i) (.p (M.kd k)) (f v) m = some (m.set (.dct (M.kv f (putA l k v))) i) := by
    simp only [setItemDc, h, M.key, M.put, ok, and_true]
    rw [if_pos (by rw [M.len, sizeLine_eq]; omega)]
  unfold setG
  rw [e1]
  exact e2
end
/-- the last number below k of which p holds -/
def lastI (p : Nat → Bool) : Nat → Option Nat
  | 0 => none
  | k + 1 => if p k then some k else lastI p k
theorem lastI_some {p : Nat → Bool} : ∀ {k i : Nat}, lastI p k = some i → i < k ∧ p i = true
  | k + 1, i, h => by
    unfold lastI at h
    split at h
    · rename_i hp
      cases h
      exact ⟨Nat.lt_succ_self _, hp⟩
    · have := lastI_some h
      exact ⟨by omega, this.2⟩
theorem lastI_none {p : Nat → Bool} : ∀ {k : Nat}, lastI p k = none → ∀ i, i < k → p i = false
  | k + 1, h, i, hi => by
    unfold lastI at h
    split at h
    · cases h
    · rename_i hp
      by_cases e : i = k
      · subst e; simpa using hp
      · exact lastI_none h i (by omega)
theorem lastI_congr {p q : Nat → Bool} : ∀ {k : Nat}, (∀ i, i < k → p i = q i) → lastI p k = lastI q k
  | 0, _ => rfl
  | k + 1, h => by
    unfold lastI
    rw [h k (Nat.lt_succ_self _), lastI_congr fun i hi => h i (by omega)]
/-! ### parts of lists -/
theorem cut_take {α : Type} {xs : List α} {k : Nat} (h : k ≤ xs.length) : cut xs none (some (k : Int)) = xs.take k := by
  unfold cut
  have e1 : HT.sIx xs.length 0 none = 0 := rfl
  have e2 : HT.sIx xs.length xs.length (some (k : Int)) = k := by
    simp only [HT.sIx]
    rw [if_neg (by omega)]
    omega
  rw [e1, e2]
  simp
theorem cut_drop {α : Type} {xs : List α} {k : Nat} (h : k ≤ xs.length) : cut xs (some (k : Int)) none = xs.drop k := by
  unfold cut
  have e1 : HT.sIx xs.length 0 (some (k : Int)) = k := by
    simp only [HT.sIx]
    rw [if_neg (by omega)]
    omega
  have e2 : HT.sIx xs.length xs.length none = xs.length := rfl
  rw [e1, e2]
  apply List.take_of_length_le
  simp
theorem pairs_len (ds : List D) (k : Nat) : (pairs k ds).length = ds.length := pairs_length ds k
end L2.Dn
namespace K90
open PySem PySem.Spec PyProof.Rows L2 L2.Dn
def k_KINDS : List Str := [Str.ofString "fixed", Str.ofString "stable", Str.ofString "changing", Str.ofString "effect"]
def ga_Schema_2_ {α : Type} (us its mv ws : List α) : List α := match us, its, mv, ws with
  | [a0, a1, a2], [], [m0, m1, m2], [] => [a0, a1, a2, m0, m1, m2]
  | _, _, _, _ => []
def gd_Schema_2_ (us ws : List D) : List D := ga_Schema_2_ us [] [.p .none, .p (.tuple []), .p (.tuple [])] ws
noncomputable def body_is_integer : FS := (retS (andG (calE isiD (consA (vE 0) (consA (tyE "int") nilA))) (notE (calE isiD (consA (vE 0) (consA (tyE "bool") nilA))))))
noncomputable def den_is_integer : Den := fnD 1 body_is_integer
theorem eq_is_integer (x0 : D) (g : List Cell) : den_is_integer [x0] g = fin (body_is_integer [some x0] ⟨g, []⟩) := rfl
noncomputable def ce_is_name_1 : FE := (opE inG (vE 1) (cE (.str (Str.ofString "abcdefghijklmnopqrstuvwxyz"))))
noncomputable def st_is_name_1 : FS := (ifS (orT (notT (tvE (calE isiD (consA (vE 0) (consA (tyE "str") nilA))))) (notT (testE (chE leI leI (cE (.int 1)) (calE lenG (consA (vE 0) nilA)) (cE (.int 8)))))) (retS (cE (.bool false))) nilS)
noncomputable def body_is_name : FS := (seqS st_is_name_1
  (retS (calE allD (consA (lcE .z [1] (walkI (vE 0)) (oneG 1) yesT ce_is_name_1) nilA))))
noncomputable def den_is_name : Den := fnD 2 body_is_name
theorem eq_is_name (x0 : D) (g : List Cell) : den_is_name [x0] g = fin (body_is_name [some x0, none] ⟨g, []⟩) := rfl
noncomputable def body_is_kind : FS := (retS (andG (calE isiD (consA (vE 0) (consA (tyE "str") nilA))) (opE inG (vE 0) (cE (.tuple (k_KINDS.map .str))))))
noncomputable def den_is_kind : Den := fnD 1 body_is_kind
theorem eq_is_kind (x0 : D) (g : List Cell) : den_is_kind [x0] g = fin (body_is_kind [some x0] ⟨g, []⟩) := rfl
noncomputable def body_is_reference : FS := (retS (andG (calE isiD (consA (vE 0) (consA (tyE "tuple") nilA))) (andG (opE (eqG false) (calE lenG (consA (vE 0) nilA)) (cE (.int 3))) (calE allD (consA (lcE .z [1] (walkI (vE 0)) (oneG 1) yesT (callE den_is_name (consA (vE 1) nilA))) nilA)))))
noncomputable def den_is_reference : Den := fnD 2 body_is_reference
theorem eq_is_reference (x0 : D) (g : List Cell) : den_is_reference [x0] g = fin (body_is_reference [some x0, none] ⟨g, []⟩) := rfl
noncomputable def st_is_made_1 : FS := (ifS (orT (notT (tvE (calE isiD (consA (vE 0) (consA (tyE "tuple") nilA))))) (orT (testE (opE (eqG true) (calE lenG (consA (vE 0) nilA)) (cE (.int 4)))) (notT (tvE (calE isiD (consA (opE ixG (vE 0) (cE (.int 3))) (consA (tyE "tuple") nilA))))))) (retS (cE (.bool false))) nilS)
noncomputable def st_is_made_2 : FS := (retS (andG (opE leI (calE lenG (consA (opE ixG (vE 0) (cE (.int 3))) nilA)) (cE (.int 3))) (calE allD (consA (lcE .z [1] (walkI (opE (addD .z) (slE (slD .z) (vE 0) noO (someO (cE (.int 3)))) (opE ixG (vE 0) (cE (.int 3))))) (oneG 1) yesT (callE den_is_name (consA (vE 1) nilA))) nilA))))
noncomputable def body_is_made : FS := (seqS st_is_made_1
  st_is_made_2)
noncomputable def den_is_made : Den := fnD 2 body_is_made
theorem eq_is_made (x0 : D) (g : List Cell) : den_is_made [x0] g = fin (body_is_made [some x0, none] ⟨g, []⟩) := rfl
noncomputable def ce_is_list_of_1 : FE := (callV [("is_name", den_is_name), ("is_reference", den_is_reference), ("is_made", den_is_made)] (vE 0) (consA (vE 2) nilA))
noncomputable def body_is_list_of : FS := (retS (andG (calE isiD (consA (vE 1) (consA (tupE (consA (tyE "list") (consA (tyE "tuple") nilA))) nilA))) (calE allD (consA (lcE .z [2] (walkI (vE 1)) (oneG 2) yesT ce_is_list_of_1) nilA))))
noncomputable def den_is_list_of : Den := fnD 3 body_is_list_of
theorem eq_is_list_of (x0 x1 : D) (g : List Cell) : den_is_list_of [x0, x1] g = fin (body_is_list_of [some x0, some x1, none] ⟨g, []⟩) := rfl
noncomputable def st_are_columns_1 : FS := (ifS (notT (tvE (callE den_is_list_of (consA (fnE "is_name") (consA (vE 0) nilA))))) (retS (cE (.bool false))) nilS)
noncomputable def st_are_columns_2 : FS := (retS (andG (chE leI leI (cE (.int 1)) (calE lenG (consA (vE 0) nilA)) (cE (.int 5))) (opE (eqG false) (calE lenG (consA stuckE nilA)) (calE lenG (consA (vE 0) nilA)))))
noncomputable def body_are_columns : FS := (seqS st_are_columns_1
  st_are_columns_2)
noncomputable def den_are_columns : Den := fnD 1 body_are_columns
theorem eq_are_columns (x0 : D) (g : List Cell) : den_are_columns [x0] g = fin (body_are_columns [some x0] ⟨g, []⟩) := rfl
noncomputable def st_is_shape_1 : FS := (ifS (orT (notT (tvE (calE isiD (consA (vE 0) (consA (tyE "tuple") nilA))))) (orT (testE (opE (eqG true) (calE lenG (consA (vE 0) nilA)) (cE (.int 2)))) (notT (tvE (callE den_is_integer (consA (opE ixG (vE 0) (cE (.int 0))) nilA)))))) (retS (cE (.bool false))) nilS)
noncomputable def st_is_shape_2 : FS := (retS (andG (chE leI leI (cE (.int 0)) (opE ixG (vE 0) (cE (.int 0))) (cE (.int 3))) (callE den_is_kind (consA (opE ixG (vE 0) (cE (.int 1))) nilA))))
noncomputable def body_is_shape : FS := (seqS st_is_shape_1
  st_is_shape_2)
noncomputable def den_is_shape : Den := fnD 1 body_is_shape
theorem eq_is_shape (x0 : D) (g : List Cell) : den_is_shape [x0] g = fin (body_is_shape [some x0] ⟨g, []⟩) := rfl
noncomputable def ce_is_dict_of_1 : FE := (andG (callE den_is_name (consA (vE 2) nilA)) (callV [("are_columns", den_are_columns), ("is_shape", den_is_shape)] (vE 0) (consA (vE 3) nilA)))
noncomputable def st_is_dict_of_1 : FS := (ifS (orT (notT (tvE (calE isiD (consA (vE 1) (consA (tyE "dict") nilA))))) (testE (opE gtI (calE lenG (consA (vE 1) nilA)) (cE (.int 6))))) (retS (cE (.bool false))) nilS)
noncomputable def body_is_dict_of : FS := (seqS st_is_dict_of_1
  (retS (calE allD (consA (lcE .z [2, 3] (itmsI (vE 1)) (manyG [2, 3]) yesT ce_is_dict_of_1) nilA))))
noncomputable def den_is_dict_of : Den := fnD 4 body_is_dict_of
theorem eq_is_dict_of (x0 x1 : D) (g : List Cell) : den_is_dict_of [x0, x1] g = fin (body_is_dict_of [some x0, some x1, none, none] ⟨g, []⟩) := rfl
noncomputable def ce_is_dict_of_names_1 : FE := (andG (callE den_is_name (consA (vE 1) nilA)) (callE den_is_name (consA (vE 2) nilA)))
noncomputable def body_is_dict_of_names : FS := (retS (andG (calE isiD (consA (vE 0) (consA (tyE "dict") nilA))) (calE allD (consA (lcE .z [1, 2] (itmsI (vE 0)) (manyG [1, 2]) yesT ce_is_dict_of_names_1) nilA))))
noncomputable def den_is_dict_of_names : Den := fnD 3 body_is_dict_of_names
theorem eq_is_dict_of_names (x0 : D) (g : List Cell) : den_is_dict_of_names [x0] g = fin (body_is_dict_of_names [some x0, none, none] ⟨g, []⟩) := rfl
noncomputable def lb_Schema_made_of_1 : FS := (ifS (testE (opE (eqG false) (tupE (consA (vE 3) (consA (vE 4) nilA))) (tupE (consA (vE 1) (consA (vE 2) nilA))))) (retS (tupE (consA (vE 5) (consA (vE 6) nilA)))) nilS)
noncomputable def st_Schema_made_of_1 : FS := (forE (walkI (fldE [] ["Schema"] "its_made" (vE 0))) (tupG 4 (consG (nameG 3) (consG (nameG 4) (consG (nameG 5) (consG (nameG 6) nilG))))) lb_Schema_made_of_1)
noncomputable def body_Schema_made_of : FS := (seqS st_Schema_made_of_1
  (retS (cE .none)))
noncomputable def den_Schema_made_of : Den := fnD 7 body_Schema_made_of
theorem eq_Schema_made_of (x0 x1 x2 : D) (g : List Cell) : den_Schema_made_of [x0, x1, x2] g = fin (body_Schema_made_of [some x0, some x1, some x2, none, none, none, none] ⟨g, []⟩) := rfl
noncomputable def lb_Schema_check_keys_1 : FS := (ifS (orT (testE (opE notInG (vE 1) (fldE [] ["Schema"] "its_columns" (vE 0)))) (testE (opE notInG (opE ixG (fldE [] ["Schema"] "its_keys" (vE 0)) (vE 1)) (opE ixG (fldE [] ["Schema"] "its_columns" (vE 0)) (vE 1))))) (raiseS "BadKey" ["table"] (consA (vE 1) nilA)) nilS)
noncomputable def body_Schema_check_keys : FS := (forE (walkI (calE (sortG .z) (consA (fldE [] ["Schema"] "its_keys" (vE 0)) nilA))) (nameG 1) lb_Schema_check_keys_1)
noncomputable def den_Schema_check_keys : Den := fnD 2 body_Schema_check_keys
theorem eq_Schema_check_keys (x0 : D) (g : List Cell) : den_Schema_check_keys [x0] g = fin (body_Schema_check_keys [some x0, none] ⟨g, []⟩) := rfl
noncomputable def lb_Schema_checked_references_1 : FS := (ifS (orT (testE (opE notInG (vE 4) (dmE getD1 (fldE [] ["Schema"] "its_columns" (vE 0)) (consA (vE 3) (consA (lstE .z nilA) nilA))))) (testE (opE notInG (vE 5) (fldE [] ["Schema"] "its_keys" (vE 0))))) (raiseS "BadReference" ["at"] (consA (vE 2) nilA)) nilS)
noncomputable def st_Schema_checked_references_1 : FS := (forE (enumI (consA (vE 1) nilA)) (tupG 2 (consG (nameG 2) (consG (tupG 3 (consG (nameG 3) (consG (nameG 4) (consG (nameG 5) nilG)))) nilG))) lb_Schema_checked_references_1)
noncomputable def body_Schema_checked_references : FS := (seqS st_Schema_checked_references_1
  (retS (ss0E .z (vE 1))))
noncomputable def den_Schema_checked_references : Den := fnD 6 body_Schema_checked_references
theorem eq_Schema_checked_references (x0 x1 : D) (g : List Cell) : den_Schema_checked_references [x0, x1] g = fin (body_Schema_checked_references [some x0, some x1, none, none, none, none] ⟨g, []⟩) := rfl
noncomputable def lb_Schema_checked_made_1 : FS := (seqS (setS 9 (dmE getD1 (fldE [] ["Schema"] "its_columns" (vE 0)) (consA (vE 5) (consA (lstE .z nilA) nilA))))
  (seqS (ifS (orT (notT (tvE (calE allD (consA (lcE .z [11] (walkI (opE (addD .z) (tupE (consA (vE 6) nilA)) (vE 8))) (oneG 11) yesT (opE inG (vE 11) (vE 9))) nilA)))) (testE (opE (eqG false) (dmE getD1 (fldE [] ["Schema"] "its_keys" (vE 0)) (consA (vE 5) nilA)) (vE 6)))) (raiseS "BadMade" ["at"] (consA (vE 4) nilA)) nilS)
  (seqS (ifS (orT (testE (opE (eqG true) (dmE getD1 (fldE [] ["Schema"] "its_shapes" (vE 0)) (consA (vE 7) nilA)) (tupE (consA (calE lenG (consA (vE 8) nilA)) (consA (cE (.str (Str.ofString "fixed"))) nilA))))) (testE (opE inG (tupE (consA (vE 5) (consA (vE 6) nilA))) (vE 3)))) (raiseS "BadMade" ["at"] (consA (vE 4) nilA)) nilS)
  (seqS (ifS (testE (opE (eqG true) (dmE getD1 (vE 2) (consA (tupE (consA (vE 5) (consA (vE 6) nilA))) (consA (tupE (consA (vE 7) (consA (vE 8) nilA))) nilA))) (tupE (consA (vE 7) (consA (vE 8) nilA))))) (raiseS "BadMade" ["at"] (consA (vE 4) nilA)) nilS)
  (asgS (tupE (consA (vE 7) (consA (vE 8) nilA))) (subG setG (vE 2) (tupE (consA (vE 5) (consA (vE 6) nilA)))))))))
noncomputable def st_Schema_checked_made_1 : FS := (forE (enumI (consA (vE 1) nilA)) (tupG 2 (consG (nameG 4) (consG (tupG 4 (consG (nameG 5) (consG (nameG 6) (consG (nameG 7) (consG (nameG 8) nilG))))) nilG))) lb_Schema_checked_made_1)
noncomputable def body_Schema_checked_made : FS := (seqS (setS 2 (dct0E .l))
  (seqS (setS 3 (sc0E (walkI (fldE [] ["Schema"] "its_references" (vE 0)))))
  (seqS st_Schema_checked_made_1
  (retS (ss0E .z (vE 1))))))
noncomputable def den_Schema_checked_made : Den := fnD 12 body_Schema_checked_made
theorem eq_Schema_checked_made (x0 x1 : D) (g : List Cell) : den_Schema_checked_made [x0, x1] g = fin (body_Schema_checked_made [some x0, some x1, none, none, none, none, none, none, none, none, none, none] ⟨g, []⟩) := rfl
noncomputable def lb_Schema_check_rings_1 : FS := (seqS (setS 7 (methE [("Schema", den_Schema_made_of)] "made_of" (vE 0) (consA (vE 1) (consA (opE ixG (vE 5) (vE 6)) nilA))))
  (seqS (ifS (testE (opE (isG true) (vE 7) (cE .none))) (exprS stuckE) nilS)
  (augS 6 addI (cE (.int 1)))))
noncomputable def lb_Schema_check_rings_2 : FS := (seqS (setS 5 (calE (listG .z) (consA (vE 4) nilA)))
  (seqS (setS 6 (cE (.int 0)))
  (seqS (whileS (testE (opE ltI (vE 6) (calE lenG (consA (vE 5) nilA)))) lb_Schema_check_rings_1 100)
  (ifS (testE (opE inG (vE 2) (vE 5))) (raiseS "Ringed" ["table", "column"] (consA (vE 1) (consA (vE 2) nilA))) nilS))))
noncomputable def body_Schema_check_rings : FS := (forE (walkI (fldE [] ["Schema"] "its_made" (vE 0))) (tupG 4 (consG (nameG 1) (consG (nameG 2) (consG (nameG 3) (consG (nameG 4) nilG))))) lb_Schema_check_rings_2)
noncomputable def den_Schema_check_rings : Den := fnD 9 body_Schema_check_rings
theorem eq_Schema_check_rings (x0 : D) (g : List Cell) : den_Schema_check_rings [x0] g = fin (body_Schema_check_rings [some x0, none, none, none, none, none, none, none, none] ⟨g, []⟩) := rfl
noncomputable def st_Schema___init___1 : FS := (ifS (notT (tvE (callE den_is_dict_of (consA (fnE "are_columns") (consA (vE 1) nilA))))) (raiseS "Wrong" ["place"] (consA (cE (.int 0)) nilA)) nilS)
noncomputable def st_Schema___init___2 : FS := (ifS (notT (tvE (callE den_is_dict_of (consA (fnE "is_shape") (consA (vE 2) nilA))))) (raiseS "Wrong" ["place"] (consA (cE (.int 1)) nilA)) nilS)
noncomputable def st_Schema___init___3 : FS := (ifS (andT (testE (opE (isG true) (vE 3) (cE .none))) (notT (tvE (callE den_is_dict_of_names (consA (vE 3) nilA))))) (raiseS "Wrong" ["place"] (consA (cE (.int 2)) nilA)) nilS)
noncomputable def st_Schema___init___4 : FS := (ifS (notT (tvE (callE den_is_list_of (consA (fnE "is_reference") (consA (vE 4) nilA))))) (raiseS "Wrong" ["place"] (consA (cE (.int 3)) nilA)) nilS)
noncomputable def st_Schema___init___5 : FS := (ifS (notT (tvE (callE den_is_list_of (consA (fnE "is_made") (consA (vE 5) nilA))))) (raiseS "Wrong" ["place"] (consA (cE (.int 4)) nilA)) nilS)
noncomputable def st_Schema___init___6 : FS := (setFS ["Schema"] "its_columns" (vE 0) (dcE .z [6, 7] (itmsI (vE 1)) (manyG [6, 7]) yesT (vE 6) (calE (listG .z) (consA (vE 7) nilA))))
noncomputable def st_Schema___init___7 : FS := (setFS ["Schema"] "its_references" (vE 0) (methE [("Schema", den_Schema_checked_references)] "checked_references" (vE 0) (consA (calE (listG .z) (consA (vE 4) nilA)) nilA)))
noncomputable def st_Schema___init___8 : FS := (setFS ["Schema"] "its_made" (vE 0) (methE [("Schema", den_Schema_checked_made)] "checked_made" (vE 0) (consA (calE (listG .z) (consA (vE 5) nilA)) nilA)))
noncomputable def body_Schema___init__ : FS := (seqS st_Schema___init___1
  (seqS st_Schema___init___2
  (seqS st_Schema___init___3
  (seqS st_Schema___init___4
  (seqS st_Schema___init___5
  (seqS st_Schema___init___6
  (seqS (setFS ["Schema"] "its_shapes" (vE 0) (calE (dictD .z) (consA (vE 2) nilA)))
  (seqS (setFS ["Schema"] "its_keys" (vE 0) (calE (dictD .z) (consA (orG (vE 3) (dct0E .z)) nilA)))
  (seqS (exprS (methE [("Schema", den_Schema_check_keys)] "check_keys" (vE 0) nilA))
  (seqS st_Schema___init___7
  (seqS st_Schema___init___8
  (exprS (methE [("Schema", den_Schema_check_rings)] "check_rings" (vE 0) nilA)))))))))))))
noncomputable def den_Schema___init__ : Den := fnD 8 body_Schema___init__
theorem eq_Schema___init__ (x0 x1 x2 x3 x4 x5 : D) (g : List Cell) : den_Schema___init__ [x0, x1, x2, x3, x4, x5] g = fin (body_Schema___init__ [some x0, some x1, some x2, some x3, some x4, some x5, none, none] ⟨g, []⟩) := rfl
noncomputable def lb_earlier_1 : FS := (ifS (andT (testE (opE (eqG false) (slE (slD .z) (vE 7) (someO (cE (.int 1))) (someO (cE (.int 3)))) (slE (slD .z) (vE 3) (someO (cE (.int 1))) (someO (cE (.int 3)))))) (orT (testE (opE (eqG false) (vE 5) (cE (.str (Str.ofString "ever"))))) (andT (testE (opE (eqG false) (vE 5) (cE (.str (Str.ofString "statement"))))) (testE (opE (eqG false) (opE ixG (vE 7) (cE (.int 0))) (opE ixG (vE 3) (cE (.int 0)))))))) (setS 4 (vE 6)) nilS)
noncomputable def st_earlier_1 : FS := (setS 5 (dmE getD1 (vE 0) (consA (opE ixG (vE 3) (cE (.int 1))) (consA (cE (.str (Str.ofString "never"))) nilA))))
noncomputable def st_earlier_2 : FS := (forE (enumI (consA (slE (slD .z) (vE 1) noO (someO (vE 2))) nilA)) (tupG 2 (consG (nameG 6) (consG (nameG 7) nilG))) lb_earlier_1)
noncomputable def body_earlier : FS := (seqS (parS 3 4 (consA (opE ixG (vE 1) (vE 2)) (consA (cE .none) nilA)))
  (seqS st_earlier_1
  (seqS st_earlier_2
  (retS (vE 4)))))
noncomputable def den_earlier : Den := fnD 8 body_earlier
theorem eq_earlier (x0 x1 x2 : D) (g : List Cell) : den_earlier [x0, x1, x2] g = fin (body_earlier [some x0, some x1, some x2, none, none, none, none, none] ⟨g, []⟩) := rfl
noncomputable def lb_told_1 : FS := (seqS (setS 6 (callE den_earlier (consA (vE 1) (consA (vE 2) (consA (vE 4) nilA)))))
  (exprS (metE "list" appendD (vE 3) (consA (ifE (testE (opE (isG false) (vE 6) (cE .none))) (opE ixG (vE 5) (cE (.int 3))) (opE ixG (vE 3) (vE 6))) nilA))))
noncomputable def body_told : FS := (seqS (setS 3 (lstE .g nilA))
  (seqS (forE (enumI (consA (vE 2) nilA)) (tupG 2 (consG (nameG 4) (consG (nameG 5) nilG))) lb_told_1)
  (retS (vE 3))))
noncomputable def den_told : Den := fnD 7 body_told
theorem eq_told (x0 x1 x2 : D) (g : List Cell) : den_told [x0, x1, x2] g = fin (body_told [some x0, some x1, some x2, none, none, none, none] ⟨g, []⟩) := rfl
noncomputable def ct_asked_1 : Rho → Store → Res Bool := (testE (opE (isG false) (callE den_earlier (consA (vE 1) (consA (vE 2) (consA (vE 3) nilA)))) (cE .none)))
noncomputable def body_asked : FS := (retS (lcE .g [3] (rng1I (consA (calE lenG (consA (vE 2) nilA)) nilA)) (oneG 3) ct_asked_1 (vE 3)))
noncomputable def den_asked : Den := fnD 4 body_asked
theorem eq_asked (x0 x1 x2 : D) (g : List Cell) : den_asked [x0, x1, x2] g = fin (body_asked [some x0, some x1, some x2, none] ⟨g, []⟩) := rfl
noncomputable def body__law_bag : FS := (retS (lstE .g (consA (cE (.int 0)) (consA (cE (.int 1234567891)) (consA (cE (.int 0)) (consA (lcE .z [1] (walkI (slE (slD .z) (vE 0) noO (someO (cE (.int 63))))) (oneG 1) yesT (calE absD (consA (vE 1) nilA))) nilA))))))
noncomputable def den__law_bag : Den := fnD 2 body__law_bag
theorem eq__law_bag (x0 : D) (g : List Cell) : den__law_bag [x0] g = fin (body__law_bag [some x0, none] ⟨g, []⟩) := rfl
noncomputable def st__law_take_1 : FS := (ifS (testE (opE (eqG false) (opE ixG (vE 0) (cE (.int 0))) (cE (.int 0)))) (seqS (setS 2 (cE (.int 0)))
  (seqS (ifS (testE (opE ltI (opE ixG (vE 0) (cE (.int 2))) (calE lenG (consA (opE ixG (vE 0) (cE (.int 3))) nilA)))) (setS 2 (opE ixG (opE ixG (vE 0) (cE (.int 3))) (opE ixG (vE 0) (cE (.int 2))))) nilS)
  (seqS (augI addI (vE 0) (cE (.int 2)) (cE (.int 1)))
  (seqS (ifS (testE (opE geI (vE 2) (cE (.int 1000000000000000000)))) (asgS (vE 2) (subG setG (vE 0) (cE (.int 0)))) nilS)
  (seqS (setS 3 (opE (addD .z) (opE (addD .z) (opE (mulG .z) (opE ixG (vE 0) (cE (.int 1))) (cE (.int 48271))) (opE modI (calE intD (consA (vE 2) nilA)) (cE (.int 2147483647)))) (opE (mulG .z) (cE (.int 7919)) (opE ixG (vE 0) (cE (.int 2))))))
  (asgS (opE modI (calE intD (consA (vE 3) nilA)) (cE (.int 2147483647))) (subG setG (vE 0) (cE (.int 1))))))))) nilS)
noncomputable def st__law_take_2 : FS := (ifS (testE (opE gtI (opE ixG (vE 0) (cE (.int 0))) (cE (.int 0)))) (seqS (setS 4 (opE modI (calE intD (consA (opE ixG (vE 0) (cE (.int 0))) nilA)) (vE 1)))
  (seqS (asgS (opE fdivI (opE ixG (vE 0) (cE (.int 0))) (vE 1)) (subG setG (vE 0) (cE (.int 0))))
  (retS (vE 4)))) nilS)
noncomputable def st__law_take_3 : FS := (setS 5 (opE modI (calE intD (consA (opE (mulG .z) (opE (addD .z) (opE ixG (vE 0) (cE (.int 1))) (cE (.int 1))) (cE (.int 39373))) nilA)) (cE (.int 1000000007))))
noncomputable def st__law_take_4 : FS := (setS 6 (opE modI (calE intD (consA (opE (mulG .z) (opE modI (calE intD (consA (opE (mulG .z) (vE 5) (vE 5)) nilA)) (cE (.int 998244353))) (cE (.int 30011))) nilA)) (cE (.int 998244353))))
noncomputable def st__law_take_5 : FS := (ifS (testE (opE gtI (vE 1) (cE (.int 1000000)))) (retS (opE modI (calE intD (consA (opE (addD .z) (opE (mulG .z) (vE 6) (cE (.int 1000000007))) (vE 5)) nilA)) (vE 1))) nilS)
noncomputable def body__law_take : FS := (seqS st__law_take_1
  (seqS st__law_take_2
  (seqS st__law_take_3
  (seqS st__law_take_4
  (seqS st__law_take_5
  (retS (opE modI (calE intD (consA (opE fdivI (vE 6) (cE (.int 7))) nilA)) (vE 1))))))))
noncomputable def den__law_take : Den := fnD 7 body__law_take
theorem eq__law_take (x0 x1 : D) (g : List Cell) : den__law_take [x0, x1] g = fin (body__law_take [some x0, some x1, none, none, none, none, none] ⟨g, []⟩) := rfl
noncomputable def body__law_alike : FS := (retS (andG (opE (eqG false) (vE 0) (vE 1)) (opE (eqG false) (calE reprD (consA (vE 0) nilA)) (calE reprD (consA (vE 1) nilA)))))
noncomputable def den__law_alike : Den := fnD 2 body__law_alike
theorem eq__law_alike (x0 x1 : D) (g : List Cell) : den__law_alike [x0, x1] g = fin (body__law_alike [some x0, some x1] ⟨g, []⟩) := rfl
noncomputable def ce__law_draw_labels_1 : FE := (opE ixG (vE 2) (callE den__law_take (consA (vE 0) (consA (cE (.int 26)) nilA))))
noncomputable def ce__law_draw_labels_2 : FE := (opE (addD .z) (vE 6) (opE ixG (vE 2) (opE modI (calE intD (consA (opE (addD .z) (vE 5) (opE (mulG .z) (cE (.int 3)) (vE 7))) nilA)) (cE (.int 26)))))
noncomputable def st__law_draw_labels_1 : FS := (setS 3 (cE (.str (Str.ofString "each call same unlike use kept show mark cell look ask told int key end item a b ab ba"))))
noncomputable def st__law_draw_labels_2 : FS := (asgS (tupE (consA (callE den__law_take (consA (vE 0) (consA (cE (.int 3)) nilA))) (consA (callE den__law_take (consA (vE 0) (consA (cE (.int 20)) nilA))) (consA (metE "str" (splitD .z) (vE 3) (consA (cE (.str (Str.ofString " "))) nilA)) nilA)))) (tupG 3 (consG (nameG 4) (consG (nameG 5) (consG (nameG 3) nilG)))))
noncomputable def st__law_draw_labels_3 : FS := (setS 6 (metE "str" joinD (cE (.str (Str.ofString ""))) (consA (lcE .z [7] (rng1I (consA (callE den__law_take (consA (vE 0) (consA (cE (.int 8)) nilA))) nilA)) (oneG 7) yesT ce__law_draw_labels_1) nilA)))
noncomputable def st__law_draw_labels_4 : FS := (ifS (testE (opE (eqG false) (vE 4) (cE (.int 0)))) (retS (slE (slD .z) (opE (addD .z) (slE (slD .z) (vE 3) (someO (vE 5)) noO) (slE (slD .z) (vE 3) noO (someO (vE 5)))) noO (someO (vE 1)))) nilS)
noncomputable def body__law_draw_labels : FS := (seqS (setS 2 (cE (.str (Str.ofString "abcdefghijklmnopqrstuvwxyz"))))
  (seqS st__law_draw_labels_1
  (seqS st__law_draw_labels_2
  (seqS st__law_draw_labels_3
  (seqS st__law_draw_labels_4
  (retS (lcE .z [7] (rng1I (consA (vE 1) nilA)) (oneG 7) yesT ce__law_draw_labels_2)))))))
noncomputable def den__law_draw_labels : Den := fnD 8 body__law_draw_labels
theorem eq__law_draw_labels (x0 x1 : D) (g : List Cell) : den__law_draw_labels [x0, x1] g = fin (body__law_draw_labels [some x0, some x1, none, none, none, none, none, none] ⟨g, []⟩) := rfl
noncomputable def ce__law_asks_1 : FE := (opE ixG (lstE .z (consA (cE (.int 0)) (consA (cE (.int 1)) (consA (cE (.int 11)) (consA (cE (.int 0)) (consA (cE (.int 1)) (consA (unE negI (cE (.int 1))) nilA))))))) (callE den__law_take (consA (vE 0) (consA (cE (.int 6)) nilA))))
noncomputable def lb__law_asks_1 : FS := (seqS (setS 7 (opE ixG (vE 3) (callE den__law_take (consA (vE 0) (consA (calE lenG (consA (vE 3) nilA)) nilA)))))
  (seqS (setS 8 (calE tupleD (consA (lcE .z [9] (rng1I (consA (opE ixG (opE ixG (vE 1) (vE 7)) (cE (.int 0))) nilA)) (oneG 9) yesT ce__law_asks_1) nilA)))
  (seqS (exprS (metE "list" appendD (vE 4) (consA (tupE (consA (vE 5) (consA (vE 7) (consA (vE 8) (consA (opE ixG (lstE .z (consA (callE den__law_take (consA (vE 0) (consA (cE (.int 3)) nilA))) (consA (opE powI (cE (.int 10)) (cE (.int 30))) (consA (unE negI (cE (.int 4))) nilA)))) (opE fdivI (callE den__law_take (consA (vE 0) (consA (cE (.int 7)) nilA))) (cE (.int 3)))) nilA))))) nilA)))
  (setS 5 (opE (addD .z) (vE 5) (opE (mulG .z) (opE fdivI (callE den__law_take (consA (vE 0) (consA (cE (.int 4)) nilA))) (cE (.int 3))) (opE (addD .z) (cE (.int 1)) (callE den__law_take (consA (vE 0) (consA (cE (.int 2)) nilA))))))))))
noncomputable def st__law_asks_1 : FS := (par3S 3 4 5 (consA (calE (sortG .z) (consA (vE 1) nilA)) (consA (lstE .l nilA) (consA (callE den__law_take (consA (vE 0) (consA (cE (.int 3)) nilA))) nilA))))
noncomputable def st__law_asks_2 : FS := (forE (rng1I (consA (opE (addD .z) (cE (.int 1)) (callE den__law_take (consA (vE 0) (consA (vE 2) nilA)))) nilA)) (nameG 6) lb__law_asks_1)
noncomputable def body__law_asks : FS := (seqS st__law_asks_1
  (seqS st__law_asks_2
  (frzV 4 (retS (vE 4)))))
noncomputable def den__law_asks : Den := fnD 10 body__law_asks
theorem eq__law_asks (x0 x1 x2 : D) (g : List Cell) : den__law_asks [x0, x1, x2] g = fin (body__law_asks [some x0, some x1, some x2, none, none, none, none, none, none, none] ⟨g, []⟩) := rfl
noncomputable def lb__law_drawn_1 : FS := (seqS (asgS (tupE (consA (callE den__law_take (consA (vE 0) (consA (cE (.int 4)) nilA))) (consA (opE ixG (vE 2) (callE den__law_take (consA (vE 0) (consA (cE (.int 4)) nilA)))) nilA))) (subG setG (vE 3) (vE 5)))
  (seqS (setS 6 (opE ixG (lstE .z (consA (cE (.str (Str.ofString "never"))) (consA (cE (.str (Str.ofString "statement"))) (consA (cE (.str (Str.ofString "ever"))) (consA (cE .none) nilA))))) (callE den__law_take (consA (vE 0) (consA (cE (.int 4)) nilA)))))
  (ifS (testE (opE (isG true) (vE 6) (cE .none))) (asgS (vE 6) (subG setG (vE 4) (vE 5))) nilS)))
noncomputable def st__law_drawn_1 : FS := (asgS (tupE (consA (callE den__law_draw_labels (consA (vE 0) (consA (cE (.int 3)) nilA))) (consA (lstE .z (consA (cE (.str (Str.ofString "fixed"))) (consA (cE (.str (Str.ofString "stable"))) (consA (cE (.str (Str.ofString "changing"))) (consA (cE (.str (Str.ofString "effect"))) nilA))))) (consA (dct0E .l) (consA (dct0E .l) nilA))))) (tupG 4 (consG (nameG 1) (consG (nameG 2) (consG (nameG 3) (consG (nameG 4) nilG))))))
noncomputable def st__law_drawn_2 : FS := (forE (walkI (slE (slD .z) (vE 1) noO (someO (opE (addD .z) (cE (.int 1)) (callE den__law_take (consA (vE 0) (consA (cE (.int 3)) nilA))))))) (nameG 5) lb__law_drawn_1)
noncomputable def st__law_drawn_3 : FS := (frzV 4 (frzV 3 (retS (tupE (consA (vE 3) (consA (makeE "Schema" den_Schema___init__ 2 0 gd_Schema_2_ (consA (dct0E .z) (consA (vE 3) nilA)) nilA) (consA (vE 4) nilA)))))))
noncomputable def body__law_drawn : FS := (seqS st__law_drawn_1
  (seqS st__law_drawn_2
  st__law_drawn_3))
noncomputable def den__law_drawn : Den := fnD 7 body__law_drawn
theorem eq__law_drawn (x0 : D) (g : List Cell) : den__law_drawn [x0] g = fin (body__law_drawn [some x0, none, none, none, none, none, none] ⟨g, []⟩) := rfl
noncomputable def lb__law_store_1 : FS := (seqS (asgS (opE ixG (vE 1) (vE 5)) (tupG 4 (consG (nameG 6) (consG (nameG 7) (consG (nameG 8) (consG (nameG 9) nilG))))))
  (seqS (setS 10 (dmE getD1 (vE 0) (consA (vE 7) (consA (cE (.str (Str.ofString "never"))) nilA))))
  (seqS (setS 11 (tupE (consA (vE 7) (consA (vE 8) (consA (ifE (testE (opE (eqG false) (vE 10) (cE (.str (Str.ofString "statement"))))) (vE 6) (cE .none)) nilA)))))
  (ifS (orT (testE (opE (eqG false) (vE 10) (cE (.str (Str.ofString "never"))))) (testE (opE notInG (vE 11) (vE 4)))) (seqS (exprS (metE "list" appendD (vE 3) (consA (vE 5) nilA)))
  (seqS (asgS (vE 9) (subG setG (vE 4) (vE 11)))
  (exprS (metE "list" appendD (vE 2) (consA (vE 9) nilA))))) (exprS (metE "list" appendD (vE 2) (consA (opE ixG (vE 4) (vE 11)) nilA)))))))
noncomputable def body__law_store : FS := (seqS (par3S 2 3 4 (consA (lstE .l nilA) (consA (lstE .l nilA) (consA (dct0E .l) nilA))))
  (seqS (forE (rng1I (consA (calE lenG (consA (vE 1) nilA)) nilA)) (nameG 5) lb__law_store_1)
  (frzV 3 (frzV 2 (retS (tupE (consA (vE 2) (consA (vE 3) nilA))))))))
noncomputable def den__law_store : Den := fnD 12 body__law_store
theorem eq__law_store (x0 x1 : D) (g : List Cell) : den__law_store [x0, x1] g = fin (body__law_store [some x0, some x1, none, none, none, none, none, none, none, none, none, none] ⟨g, []⟩) := rfl
noncomputable def ce_law_1 : FE := (callE den__law_drawn (consA (vE 1) nilA))
noncomputable def ce_law_2 : FE := (callE den__law_asks (consA (vE 1) (consA (opE ixG (vE 14) (cE (.int 0))) (consA (cE (.int 40)) nilA))))
noncomputable def lb_law_1 : FS := (seqS (setS 12 (lstE .z (consA (callE den_told (consA (vE 6) (consA (vE 7) (consA (vE 8) nilA)))) (consA (callE den_asked (consA (vE 6) (consA (vE 7) (consA (vE 8) nilA)))) nilA))))
  (seqS (ifS (orT (notT (tvE (callE den__law_alike (consA (vE 12) (consA (lstE .z (consA (opE ixG (vE 9) (cE (.int 0))) (consA (opE ixG (vE 9) (cE (.int 1))) nilA))) nilA))))) (testE (opE (eqG true) (calE reprD (consA (lstE .z (consA (vE 7) (consA (vE 8) nilA))) nilA)) (vE 10)))) (retS (cE (.bool false))) nilS)
  (seqS (exprS (metE "list" appendD (opE ixG (vE 12) (cE (.int 0))) (consA (cE .none) nilA)))
  (exprS (metE "list" clearL (opE ixG (vE 12) (cE (.int 1))) nilA)))))
noncomputable def lb_law_2 : FS := (seqS (asgS (opE ixG (vE 2) (vE 4)) (tupG 3 (consG (nameG 5) (consG (nameG 6) (consG (nameG 7) nilG)))))
  (seqS (parS 8 9 (consA (opE ixG (vE 3) (vE 4)) (consA (callE den__law_store (consA (opE ixG (opE ixG (vE 2) (vE 4)) (cE (.int 2))) (consA (opE ixG (vE 3) (vE 4)) nilA))) nilA)))
  (seqS (setS 10 (calE reprD (consA (lstE .z (consA (vE 7) (consA (vE 8) nilA))) nilA)))
  (forE (rng1I (consA (cE (.int 3)) nilA)) (nameG 11) lb_law_1))))
noncomputable def st_law_1 : FS := (forE (walkI (tupE (consA (cE (.int 0)) (consA (cE (.int 1)) (consA (cE (.int 0)) nilA))))) (nameG 4) lb_law_2)
noncomputable def body_law : FS := (seqS (setS 1 (callE den__law_bag (consA (vE 0) nilA)))
  (seqS (setS 2 (lcE .z [13] (rng1I (consA (cE (.int 2)) nilA)) (oneG 13) yesT ce_law_1))
  (seqS (setS 3 (lcE .z [14] (walkI (vE 2)) (oneG 14) yesT ce_law_2))
  (seqS st_law_1
  (retS (cE (.bool true)))))))
noncomputable def den_law : Den := fnD 15 body_law
theorem eq_law (x0 : D) (g : List Cell) : den_law [x0] g = fin (body_law [some x0, none, none, none, none, none, none, none, none, none, none, none, none, none, none] ⟨g, []⟩) := rfl
end K90
namespace K90
open PySem PySem.Spec PyProof.Rows L2 L2.Dn
def topS (i : Nat) : Stmt := PySem.Challenge.pw_plancalls_k90_answers_that_are_kept.main.body.getD i (.Pass ⟨0, 0, 0, 0⟩)
def clsS (i j : Nat) : Stmt := match topS i with
  | .ClassDef (body := b) .. => b.getD j (.Pass ⟨0, 0, 0, 0⟩)
  | s => s
abbrev s_is_integer : Stmt := topS 5
theorem sc_is_integer : FnScope ["thing"] ["thing"] (defScope s_is_integer) := ⟨rfl, rfl, rfl, by decide +kernel, rfl, by decide +kernel, by decide +kernel⟩
abbrev s_is_name : Stmt := topS 6
theorem sc_is_name : FnScope ["thing", "sign"] ["thing"] (defScope s_is_name) := ⟨rfl, rfl, rfl, by decide +kernel, rfl, by decide +kernel, by decide +kernel⟩
abbrev s_is_kind : Stmt := topS 7
theorem sc_is_kind : FnScope ["thing"] ["thing"] (defScope s_is_kind) := ⟨rfl, rfl, rfl, by decide +kernel, rfl, by decide +kernel, by decide +kernel⟩
abbrev s_is_reference : Stmt := topS 29
theorem sc_is_reference : FnScope ["thing", "one"] ["thing"] (defScope s_is_reference) := ⟨rfl, rfl, rfl, by decide +kernel, rfl, by decide +kernel, by decide +kernel⟩
abbrev s_is_made : Stmt := topS 30
theorem sc_is_made : FnScope ["thing", "one"] ["thing"] (defScope s_is_made) := ⟨rfl, rfl, rfl, by decide +kernel, rfl, by decide +kernel, by decide +kernel⟩
abbrev s_is_list_of : Stmt := topS 8
theorem sc_is_list_of : FnScope ["judge", "thing", "one"] ["judge", "thing"] (defScope s_is_list_of) := ⟨rfl, rfl, rfl, by decide +kernel, rfl, by decide +kernel, by decide +kernel⟩
abbrev s_are_columns : Stmt := topS 25
theorem sc_are_columns : FnScope ["thing"] ["thing"] (defScope s_are_columns) := ⟨rfl, rfl, rfl, by decide +kernel, rfl, by decide +kernel, by decide +kernel⟩
abbrev s_is_shape : Stmt := topS 26
theorem sc_is_shape : FnScope ["thing"] ["thing"] (defScope s_is_shape) := ⟨rfl, rfl, rfl, by decide +kernel, rfl, by decide +kernel, by decide +kernel⟩
abbrev s_is_dict_of : Stmt := topS 27
theorem sc_is_dict_of : FnScope ["judge", "thing", "name", "one"] ["judge", "thing"] (defScope s_is_dict_of) := ⟨rfl, rfl, rfl, by decide +kernel, rfl, by decide +kernel, by decide +kernel⟩
abbrev s_is_dict_of_names : Stmt := topS 28
theorem sc_is_dict_of_names : FnScope ["thing", "name", "one"] ["thing"] (defScope s_is_dict_of_names) := ⟨rfl, rfl, rfl, by decide +kernel, rfl, by decide +kernel, by decide +kernel⟩
abbrev s_Schema_made_of : Stmt := clsS 31 14
theorem sc_Schema_made_of : FnScope ["self", "table", "column", "one", "other", "function", "columns"] ["self", "table", "column"] (defScope s_Schema_made_of) := ⟨rfl, rfl, rfl, by decide +kernel, rfl, by decide +kernel, by decide +kernel⟩
abbrev s_Schema_check_keys : Stmt := clsS 31 1
theorem sc_Schema_check_keys : FnScope ["self", "table"] ["self"] (defScope s_Schema_check_keys) := ⟨rfl, rfl, rfl, by decide +kernel, rfl, by decide +kernel, by decide +kernel⟩
abbrev s_Schema_checked_references : Stmt := clsS 31 2
theorem sc_Schema_checked_references : FnScope ["self", "references", "at", "table", "column", "target"] ["self", "references"] (defScope s_Schema_checked_references) := ⟨rfl, rfl, rfl, by decide +kernel, rfl, by decide +kernel, by decide +kernel⟩
abbrev s_Schema_checked_made : Stmt := clsS 31 3
theorem sc_Schema_checked_made : FnScope ["self", "made", "known", "bound", "at", "table", "column", "function", "columns", "there", "target", "one"] ["self", "made"] (defScope s_Schema_checked_made) := ⟨rfl, rfl, rfl, by decide +kernel, rfl, by decide +kernel, by decide +kernel⟩
abbrev s_Schema_check_rings : Stmt := clsS 31 4
theorem sc_Schema_check_rings : FnScope ["self", "table", "column", "function", "columns", "row", "at", "found", "one"] ["self"] (defScope s_Schema_check_rings) := ⟨rfl, rfl, rfl, by decide +kernel, rfl, by decide +kernel, by decide +kernel⟩
abbrev s_Schema___init__ : Stmt := clsS 31 0
theorem sc_Schema___init__ : FnScope ["self", "tables", "functions", "keys", "references", "made", "table", "columns"] ["self", "tables", "functions", "keys", "references", "made"] (defScope s_Schema___init__) := ⟨rfl, rfl, rfl, by decide +kernel, rfl, by decide +kernel, by decide +kernel⟩
abbrev s_earlier : Stmt := topS 10
theorem sc_earlier : FnScope ["keepings", "history", "at", "ask", "found", "span", "before", "one"] ["keepings", "history", "at"] (defScope s_earlier) := ⟨rfl, rfl, rfl, by decide +kernel, rfl, by decide +kernel, by decide +kernel⟩
abbrev s_told : Stmt := topS 11
theorem sc_told : FnScope ["schema", "keepings", "history", "found", "at", "ask", "before"] ["schema", "keepings", "history"] (defScope s_told) := ⟨rfl, rfl, rfl, by decide +kernel, rfl, by decide +kernel, by decide +kernel⟩
abbrev s_asked : Stmt := topS 12
theorem sc_asked : FnScope ["schema", "keepings", "history", "at"] ["schema", "keepings", "history"] (defScope s_asked) := ⟨rfl, rfl, rfl, by decide +kernel, rfl, by decide +kernel, by decide +kernel⟩
abbrev s__law_bag : Stmt := topS 33
theorem sc__law_bag : FnScope ["_law_script", "_law_cell"] ["_law_script"] (defScope s__law_bag) := ⟨rfl, rfl, rfl, by decide +kernel, rfl, by decide +kernel, by decide +kernel⟩
abbrev s__law_take : Stmt := topS 34
theorem sc__law_take : FnScope ["_law_bag_here", "_law_many", "_law_cell", "_law_mixed", "_law_value", "_law_begin", "_law_second"] ["_law_bag_here", "_law_many"] (defScope s__law_take) := ⟨rfl, rfl, rfl, by decide +kernel, rfl, by decide +kernel, by decide +kernel⟩
abbrev s__law_alike : Stmt := topS 35
theorem sc__law_alike : FnScope ["_law_found", "_law_due"] ["_law_found", "_law_due"] (defScope s__law_alike) := ⟨rfl, rfl, rfl, by decide +kernel, rfl, by decide +kernel, by decide +kernel⟩
abbrev s__law_draw_labels : Stmt := topS 36
theorem sc__law_draw_labels : FnScope ["_law_bag_here", "_law_many", "_law_letters", "_law_words", "_law_way", "_law_turn", "_law_base", "_law_k"] ["_law_bag_here", "_law_many"] (defScope s__law_draw_labels) := ⟨rfl, rfl, rfl, by decide +kernel, rfl, by decide +kernel, by decide +kernel⟩
abbrev s__law_asks : Stmt := topS 37
theorem sc__law_asks : FnScope ["_law_bag_here", "_law_functions", "_law_many", "_law_names", "_law_found", "_law_now", "_law_k", "_law_name", "_law_arguments", "_law_one"] ["_law_bag_here", "_law_functions", "_law_many"] (defScope s__law_asks) := ⟨rfl, rfl, rfl, by decide +kernel, rfl, by decide +kernel, by decide +kernel⟩
abbrev s__law_drawn : Stmt := topS 38
theorem sc__law_drawn : FnScope ["_law_bag_here", "_law_names", "_law_kinds", "_law_functions", "_law_keepings", "_law_name", "_law_span"] ["_law_bag_here"] (defScope s__law_drawn) := ⟨rfl, rfl, rfl, by decide +kernel, rfl, by decide +kernel, by decide +kernel⟩
abbrev s__law_store : Stmt := topS 39
theorem sc__law_store : FnScope ["_law_keepings", "_law_history", "_law_values", "_law_called", "_law_known", "_law_at", "_law_statement", "_law_name", "_law_arguments", "_law_value", "_law_span", "_law_sign"] ["_law_keepings", "_law_history"] (defScope s__law_store) := ⟨rfl, rfl, rfl, by decide +kernel, rfl, by decide +kernel, by decide +kernel⟩
abbrev s_law : Stmt := topS 40
theorem sc_law : FnScope ["_law_script", "_law_bag_here", "_law_several", "_law_histories", "_law_at", "_law_functions", "_law_schema", "_law_keepings", "_law_history", "_law_due", "_law_shown", "_law_again", "_law_found", "_law_k", "_law_one"] ["_law_script"] (defScope s_law) := ⟨rfl, rfl, rfl, by decide +kernel, rfl, by decide +kernel, by decide +kernel⟩
abbrev sx_BadKey : Stmt := clsS 16 0
theorem sxc_BadKey : FnScope ["self", "table"] ["self", "table"] (defScope sx_BadKey) := ⟨rfl, rfl, rfl, by decide +kernel, rfl, by decide +kernel, by decide +kernel⟩
abbrev sx_BadMade : Stmt := clsS 18 0
theorem sxc_BadMade : FnScope ["self", "at"] ["self", "at"] (defScope sx_BadMade) := ⟨rfl, rfl, rfl, by decide +kernel, rfl, by decide +kernel, by decide +kernel⟩
abbrev sx_BadReference : Stmt := clsS 17 0
theorem sxc_BadReference : FnScope ["self", "at"] ["self", "at"] (defScope sx_BadReference) := ⟨rfl, rfl, rfl, by decide +kernel, rfl, by decide +kernel, by decide +kernel⟩
abbrev sx_Ringed : Stmt := clsS 19 0
theorem sxc_Ringed : FnScope ["self", "table", "column"] ["self", "table", "column"] (defScope sx_Ringed) := ⟨rfl, rfl, rfl, by decide +kernel, rfl, by decide +kernel, by decide +kernel⟩
abbrev sx_Wrong : Stmt := clsS 15 0
theorem sxc_Wrong : FnScope ["self", "place"] ["self", "place"] (defScope sx_Wrong) := ⟨rfl, rfl, rfl, by decide +kernel, rfl, by decide +kernel, by decide +kernel⟩
/-- where the defs, classes and constants stand -/
structure Ad where
  a_is_integer : Addr
  fd_is_integer : FuncData
  a_is_name : Addr
  fd_is_name : FuncData
  a_is_kind : Addr
  fd_is_kind : FuncData
  a_is_reference : Addr
  fd_is_reference : FuncData
  a_is_made : Addr
  fd_is_made : FuncData
  a_is_list_of : Addr
  fd_is_list_of : FuncData
  a_are_columns : Addr
  fd_are_columns : FuncData
  a_is_shape : Addr
  fd_is_shape : FuncData
  a_is_dict_of : Addr
  fd_is_dict_of : FuncData
  a_is_dict_of_names : Addr
  fd_is_dict_of_names : FuncData
  a_Schema_made_of : Addr
  fd_Schema_made_of : FuncData
  a_Schema_check_keys : Addr
  fd_Schema_check_keys : FuncData
  a_Schema_checked_references : Addr
  fd_Schema_checked_references : FuncData
  a_Schema_checked_made : Addr
  fd_Schema_checked_made : FuncData
  a_Schema_check_rings : Addr
  fd_Schema_check_rings : FuncData
  a_Schema___init__ : Addr
  fd_Schema___init__ : FuncData
  a_earlier : Addr
  fd_earlier : FuncData
  a_told : Addr
  fd_told : FuncData
  a_asked : Addr
  fd_asked : FuncData
  a__law_bag : Addr
  fd__law_bag : FuncData
  a__law_take : Addr
  fd__law_take : FuncData
  a__law_alike : Addr
  fd__law_alike : FuncData
  a__law_draw_labels : Addr
  fd__law_draw_labels : FuncData
  a__law_asks : Addr
  fd__law_asks : FuncData
  a__law_drawn : Addr
  fd__law_drawn : FuncData
  a__law_store : Addr
  fd__law_store : FuncData
  a_law : Addr
  fd_law : FuncData
  c_PlanError : Addr
  c_Wrong : Addr
  c_BadKey : Addr
  c_BadReference : Addr
  c_BadMade : Addr
  c_Ringed : Addr
  c_Schema : Addr
  xf_BadKey : Addr
  xd_BadKey : FuncData
  xf_BadMade : Addr
  xd_BadMade : FuncData
  xf_BadReference : Addr
  xd_BadReference : FuncData
  xf_Ringed : Addr
  xd_Ringed : FuncData
  xf_Wrong : Addr
  xd_Wrong : FuncData
  t_KINDS : Addr
  i_KINDS : Array Value
  n_KINDS : Nat
  l_KINDS : Array (Option Value)
  e_references : Addr
  e_made : Addr
def gv_Schema_2_ (A : Ad) (us ws : List V) : List V := ga_Schema_2_ us [] [V.non, V.ref A.e_references, V.ref A.e_made] ws
structure Txt (K : PySem.W.Frag) (mg : Str → Option Value) (A : Ad) : Prop where
  e_references : ETup K A.e_references
  e_made : ETup K A.e_made
  F_is_integer : Fun K "is_integer" "is_integer" s_is_integer A.a_is_integer A.fd_is_integer
  g_is_integer : mg "is_integer" = some (.ref A.a_is_integer)
  b_is_integer : Binds K A.fd_is_integer ["thing"] []
  F_is_name : Fun K "is_name" "is_name" s_is_name A.a_is_name A.fd_is_name
  g_is_name : mg "is_name" = some (.ref A.a_is_name)
  b_is_name : Binds K A.fd_is_name ["thing"] []
  F_is_kind : Fun K "is_kind" "is_kind" s_is_kind A.a_is_kind A.fd_is_kind
  g_is_kind : mg "is_kind" = some (.ref A.a_is_kind)
  b_is_kind : Binds K A.fd_is_kind ["thing"] []
  F_is_reference : Fun K "is_reference" "is_reference" s_is_reference A.a_is_reference A.fd_is_reference
  g_is_reference : mg "is_reference" = some (.ref A.a_is_reference)
  b_is_reference : Binds K A.fd_is_reference ["thing"] []
  F_is_made : Fun K "is_made" "is_made" s_is_made A.a_is_made A.fd_is_made
  g_is_made : mg "is_made" = some (.ref A.a_is_made)
  b_is_made : Binds K A.fd_is_made ["thing"] []
  F_is_list_of : Fun K "is_list_of" "is_list_of" s_is_list_of A.a_is_list_of A.fd_is_list_of
  g_is_list_of : mg "is_list_of" = some (.ref A.a_is_list_of)
  b_is_list_of : Binds K A.fd_is_list_of ["judge", "thing"] []
  F_are_columns : Fun K "are_columns" "are_columns" s_are_columns A.a_are_columns A.fd_are_columns
  g_are_columns : mg "are_columns" = some (.ref A.a_are_columns)
  b_are_columns : Binds K A.fd_are_columns ["thing"] []
  F_is_shape : Fun K "is_shape" "is_shape" s_is_shape A.a_is_shape A.fd_is_shape
  g_is_shape : mg "is_shape" = some (.ref A.a_is_shape)
  b_is_shape : Binds K A.fd_is_shape ["thing"] []
  F_is_dict_of : Fun K "is_dict_of" "is_dict_of" s_is_dict_of A.a_is_dict_of A.fd_is_dict_of
  g_is_dict_of : mg "is_dict_of" = some (.ref A.a_is_dict_of)
  b_is_dict_of : Binds K A.fd_is_dict_of ["judge", "thing"] []
  F_is_dict_of_names : Fun K "is_dict_of_names" "is_dict_of_names" s_is_dict_of_names A.a_is_dict_of_names A.fd_is_dict_of_names
  g_is_dict_of_names : mg "is_dict_of_names" = some (.ref A.a_is_dict_of_names)
  b_is_dict_of_names : Binds K A.fd_is_dict_of_names ["thing"] []
  F_Schema_made_of : Fun K "made_of" "Schema.made_of" s_Schema_made_of A.a_Schema_made_of A.fd_Schema_made_of
  b_Schema_made_of : Binds K A.fd_Schema_made_of ["self", "table", "column"] []
  me_Schema_made_of : Meth K A.c_Schema "made_of" A.a_Schema_made_of
  F_Schema_check_keys : Fun K "check_keys" "Schema.check_keys" s_Schema_check_keys A.a_Schema_check_keys A.fd_Schema_check_keys
  b_Schema_check_keys : Binds K A.fd_Schema_check_keys ["self"] []
  me_Schema_check_keys : Meth K A.c_Schema "check_keys" A.a_Schema_check_keys
  F_Schema_checked_references : Fun K "checked_references" "Schema.checked_references" s_Schema_checked_references A.a_Schema_checked_references A.fd_Schema_checked_references
  b_Schema_checked_references : Binds K A.fd_Schema_checked_references ["self", "references"] []
  me_Schema_checked_references : Meth K A.c_Schema "checked_references" A.a_Schema_checked_references
  F_Schema_checked_made : Fun K "checked_made" "Schema.checked_made" s_Schema_checked_made A.a_Schema_checked_made A.fd_Schema_checked_made
  b_Schema_checked_made : Binds K A.fd_Schema_checked_made ["self", "made"] []
  me_Schema_checked_made : Meth K A.c_Schema "checked_made" A.a_Schema_checked_made
  F_Schema_check_rings : Fun K "check_rings" "Schema.check_rings" s_Schema_check_rings A.a_Schema_check_rings A.fd_Schema_check_rings
  b_Schema_check_rings : Binds K A.fd_Schema_check_rings ["self"] []
  me_Schema_check_rings : Meth K A.c_Schema "check_rings" A.a_Schema_check_rings
  F_Schema___init__ : FunD K "__init__" "Schema.__init__" (defArgs s_Schema___init__) (defBody s_Schema___init__) (defScope s_Schema___init__) [] [("keys", V.non), ("references", V.ref A.e_references), ("made", V.ref A.e_made)] A.a_Schema___init__ A.fd_Schema___init__
  F_earlier : Fun K "earlier" "earlier" s_earlier A.a_earlier A.fd_earlier
  g_earlier : mg "earlier" = some (.ref A.a_earlier)
  b_earlier : Binds K A.fd_earlier ["keepings", "history", "at"] []
  F_told : Fun K "told" "told" s_told A.a_told A.fd_told
  g_told : mg "told" = some (.ref A.a_told)
  b_told : Binds K A.fd_told ["schema", "keepings", "history"] []
  F_asked : Fun K "asked" "asked" s_asked A.a_asked A.fd_asked
  g_asked : mg "asked" = some (.ref A.a_asked)
  b_asked : Binds K A.fd_asked ["schema", "keepings", "history"] []
  F__law_bag : Fun K "_law_bag" "_law_bag" s__law_bag A.a__law_bag A.fd__law_bag
  g__law_bag : mg "_law_bag" = some (.ref A.a__law_bag)
  b__law_bag : Binds K A.fd__law_bag ["_law_script"] []
  F__law_take : Fun K "_law_take" "_law_take" s__law_take A.a__law_take A.fd__law_take
  g__law_take : mg "_law_take" = some (.ref A.a__law_take)
  b__law_take : Binds K A.fd__law_take ["_law_bag_here", "_law_many"] []
  F__law_alike : Fun K "_law_alike" "_law_alike" s__law_alike A.a__law_alike A.fd__law_alike
  g__law_alike : mg "_law_alike" = some (.ref A.a__law_alike)
  b__law_alike : Binds K A.fd__law_alike ["_law_found", "_law_due"] []
  F__law_draw_labels : Fun K "_law_draw_labels" "_law_draw_labels" s__law_draw_labels A.a__law_draw_labels A.fd__law_draw_labels
  g__law_draw_labels : mg "_law_draw_labels" = some (.ref A.a__law_draw_labels)
  b__law_draw_labels : Binds K A.fd__law_draw_labels ["_law_bag_here", "_law_many"] []
  F__law_asks : Fun K "_law_asks" "_law_asks" s__law_asks A.a__law_asks A.fd__law_asks
  g__law_asks : mg "_law_asks" = some (.ref A.a__law_asks)
  b__law_asks : Binds K A.fd__law_asks ["_law_bag_here", "_law_functions", "_law_many"] []
  F__law_drawn : Fun K "_law_drawn" "_law_drawn" s__law_drawn A.a__law_drawn A.fd__law_drawn
  g__law_drawn : mg "_law_drawn" = some (.ref A.a__law_drawn)
  b__law_drawn : Binds K A.fd__law_drawn ["_law_bag_here"] []
  F__law_store : Fun K "_law_store" "_law_store" s__law_store A.a__law_store A.fd__law_store
  g__law_store : mg "_law_store" = some (.ref A.a__law_store)
  b__law_store : Binds K A.fd__law_store ["_law_keepings", "_law_history"] []
  F_law : Fun K "law" "law" s_law A.a_law A.fd_law
  g_law : mg "law" = some (.ref A.a_law)
  b_law : Binds K A.fd_law ["_law_script"] []
  g_PlanError : mg "PlanError" = some (.ref A.c_PlanError)
  g_Wrong : mg "Wrong" = some (.ref A.c_Wrong)
  g_BadKey : mg "BadKey" = some (.ref A.c_BadKey)
  g_BadReference : mg "BadReference" = some (.ref A.c_BadReference)
  g_BadMade : mg "BadMade" = some (.ref A.c_BadMade)
  g_Ringed : mg "Ringed" = some (.ref A.c_Ringed)
  g_Schema : mg "Schema" = some (.ref A.c_Schema)
  xc_Wrong : XcT K A.c_Wrong
  xc_BadKey : XcT K A.c_BadKey
  xc_BadReference : XcT K A.c_BadReference
  xc_BadMade : XcT K A.c_BadMade
  xc_Ringed : XcT K A.c_Ringed
  xi_BadKey : PySem.W.findIn K (.ref A.c_BadKey) "__init__" = some (some (.ref A.xf_BadKey))
  xt_BadKey : PySem.W.typeIn K (.ref A.xf_BadKey) = some (.type "function")
  xF_BadKey : Fun K "__init__" "BadKey.__init__" sx_BadKey A.xf_BadKey A.xd_BadKey
  xb_BadKey : Binds K A.xd_BadKey ["self", "table"] []
  xn_BadKey_table : PySem.W.findIn K (.ref A.c_BadKey) "table" = some none
  xi_BadMade : PySem.W.findIn K (.ref A.c_BadMade) "__init__" = some (some (.ref A.xf_BadMade))
  xt_BadMade : PySem.W.typeIn K (.ref A.xf_BadMade) = some (.type "function")
  xF_BadMade : Fun K "__init__" "BadMade.__init__" sx_BadMade A.xf_BadMade A.xd_BadMade
  xb_BadMade : Binds K A.xd_BadMade ["self", "at"] []
  xn_BadMade_at : PySem.W.findIn K (.ref A.c_BadMade) "at" = some none
  xi_BadReference : PySem.W.findIn K (.ref A.c_BadReference) "__init__" = some (some (.ref A.xf_BadReference))
  xt_BadReference : PySem.W.typeIn K (.ref A.xf_BadReference) = some (.type "function")
  xF_BadReference : Fun K "__init__" "BadReference.__init__" sx_BadReference A.xf_BadReference A.xd_BadReference
  xb_BadReference : Binds K A.xd_BadReference ["self", "at"] []
  xn_BadReference_at : PySem.W.findIn K (.ref A.c_BadReference) "at" = some none
  xi_Ringed : PySem.W.findIn K (.ref A.c_Ringed) "__init__" = some (some (.ref A.xf_Ringed))
  xt_Ringed : PySem.W.typeIn K (.ref A.xf_Ringed) = some (.type "function")
  xF_Ringed : Fun K "__init__" "Ringed.__init__" sx_Ringed A.xf_Ringed A.xd_Ringed
  xb_Ringed : Binds K A.xd_Ringed ["self", "table", "column"] []
  xn_Ringed_table : PySem.W.findIn K (.ref A.c_Ringed) "table" = some none
  xn_Ringed_column : PySem.W.findIn K (.ref A.c_Ringed) "column" = some none
  xi_Wrong : PySem.W.findIn K (.ref A.c_Wrong) "__init__" = some (some (.ref A.xf_Wrong))
  xt_Wrong : PySem.W.typeIn K (.ref A.xf_Wrong) = some (.type "function")
  xF_Wrong : Fun K "__init__" "Wrong.__init__" sx_Wrong A.xf_Wrong A.xd_Wrong
  xb_Wrong : Binds K A.xd_Wrong ["self", "place"] []
  xn_Wrong_place : PySem.W.findIn K (.ref A.c_Wrong) "place" = some none
  ba_PlanError : PySem.W.specialIn K (.ref A.c_PlanError) "__getattribute__" = some (some (.builtin "type.__getattribute__"))
  bb_PlanError : PySem.W.readsIn K A.c_PlanError (.type "type") = true
  bc_PlanError : PySem.W.findCls K (.ref A.c_PlanError) (.type "type") "__init__" = some (.val (.builtin "ValueError.__init__"))
  ic_Schema : ClT K A.c_Schema
  mk_Schema : Mk K A.c_Schema A.a_Schema___init__
  kb_Schema_2_ : ∃ g, KBn K A.fd_Schema___init__ ["self", "tables", "functions", "keys", "references", "made"] 3 [] g (gv_Schema_2_ A)
  fx_its_columns : ∀ C ∈ ([] : List Str), ∃ Ca, mg C = some (.ref Ca) ∧ FldX K Ca "its_columns"
  fi_its_columns : ∀ C ∈ (["Schema"] : List Str), ∃ Ca, mg C = some (.ref Ca) ∧ FldI K Ca "its_columns"
  fx_its_keys : ∀ C ∈ ([] : List Str), ∃ Ca, mg C = some (.ref Ca) ∧ FldX K Ca "its_keys"
  fi_its_keys : ∀ C ∈ (["Schema"] : List Str), ∃ Ca, mg C = some (.ref Ca) ∧ FldI K Ca "its_keys"
  fx_its_made : ∀ C ∈ ([] : List Str), ∃ Ca, mg C = some (.ref Ca) ∧ FldX K Ca "its_made"
  fi_its_made : ∀ C ∈ (["Schema"] : List Str), ∃ Ca, mg C = some (.ref Ca) ∧ FldI K Ca "its_made"
  fx_its_references : ∀ C ∈ ([] : List Str), ∃ Ca, mg C = some (.ref Ca) ∧ FldX K Ca "its_references"
  fi_its_references : ∀ C ∈ (["Schema"] : List Str), ∃ Ca, mg C = some (.ref Ca) ∧ FldI K Ca "its_references"
  fx_its_shapes : ∀ C ∈ ([] : List Str), ∃ Ca, mg C = some (.ref Ca) ∧ FldX K Ca "its_shapes"
  fi_its_shapes : ∀ C ∈ (["Schema"] : List Str), ∃ Ca, mg C = some (.ref Ca) ∧ FldI K Ca "its_shapes"
  m_abs : mg "abs" = none
  m_all : mg "all" = none
  m_bool : mg "bool" = none
  m_dict : mg "dict" = none
  m_enumerate : mg "enumerate" = none
  m_int : mg "int" = none
  m_isinstance : mg "isinstance" = none
  m_len : mg "len" = none
  m_list : mg "list" = none
  m_range : mg "range" = none
  m_repr : mg "repr" = none
  m_set : mg "set" = none
  m_sorted : mg "sorted" = none
  m_str : mg "str" = none
  m_tuple : mg "tuple" = none
  c_MOST_ARGUMENTS : ∃ t, mg "MOST_ARGUMENTS" = some (.int 3 t)
  c_MOST_NAMES : ∃ t, mg "MOST_NAMES" = some (.int 6 t)
  c_MOST_COLUMNS : ∃ t, mg "MOST_COLUMNS" = some (.int 5 t)
  c_LONGEST_NAME : ∃ t, mg "LONGEST_NAME" = some (.int 8 t)
  c_LETTERS : ∃ t, mg "LETTERS" = some (.str (Str.ofString "abcdefghijklmnopqrstuvwxyz") t)
  c_KINDS : KTup K mg "KINDS" k_KINDS A.t_KINDS A.i_KINDS A.n_KINDS A.l_KINDS
theorem np_Schema_2_ (ds es : List D) (h1 : ds.length = 3) (h2 : es.length = 0) : (gd_Schema_2_ ds es).length = 6 :=
  match ds, es, h1, h2 with
  | [_, _, _], [], _, _ => rfl
theorem rel_Schema_2_ {vs ds mz zs : List V} {us its mv ws : List Value} (h1 : Vals vs us) (h2 : Vals ds its) (h3 : Vals mz mv) (h4 : Vals zs ws) : Vals (ga_Schema_2_ vs ds mz zs) (ga_Schema_2_ us its mv ws) := by
  rcases h1 with _ | ⟨r0, _ | ⟨r1, _ | ⟨r2, _ | ⟨_, _⟩⟩⟩⟩ <;> rcases h2 with _ | ⟨_, _⟩ <;> rcases h3 with _ | ⟨m0, _ | ⟨m1, _ | ⟨m2, _ | ⟨_, _⟩⟩⟩⟩ <;> rcases h4 with _ | ⟨_, _⟩ <;> first | exact PySem.Paired.nil | exact .cons r0 (.cons r1 (.cons r2 (.cons m0 (.cons m1 (.cons m2 (.nil))))))
theorem arr_Schema_2_ {K0 : PySem.W.Frag} {mg : Str → Option Value} {A : Ad} (T : Txt K0 mg A) : Arr K0 3 0 (gv_Schema_2_ A) gd_Schema_2_ := ⟨fun {K H c vs zs ds es} hK h k l1 l2 => by
  match ds, es, l1, l2 with
  | [_, _, _], [], _, _ =>
    unfold VDs at h; obtain ⟨v0, r0, rfl, h0, h⟩ := h
    unfold VDs at h; obtain ⟨v1, r1, rfl, h1, h⟩ := h
    unfold VDs at h; obtain ⟨v2, r2, rfl, h2, h⟩ := h
    unfold VDs at h; subst h
    unfold VDs at k; subst k
    show VDs _ _ _ [_, _, _, _, _, _] [_, _, _, _, _, _]
    exact (by unfold VDs; exact ⟨_, _, rfl, h0, by unfold VDs; exact ⟨_, _, rfl, h1, by unfold VDs; exact ⟨_, _, rfl, h2, by unfold VDs; exact ⟨_, _, rfl, VD.non.mpr rfl, by unfold VDs; exact ⟨_, _, rfl, T.e_references.vd hK, by unfold VDs; exact ⟨_, _, rfl, T.e_made.vd hK, by unfold VDs; rfl⟩⟩⟩⟩⟩⟩)⟩
section
variable {P : Program} {w : World} {K : PySem.W.Frag} {mg : Str → Option Value} {base : Heap} {A : Ad}
theorem in_BadKey (T : Txt K mg A) : FnOk P w K mg base CX0 1 A.xf_BadKey A.xd_BadKey ["self", "table"] (spX A.c_BadKey ["table"]) := by
  refine T.xF_BadKey.ok sxc_BadKey spX_len fun cdv A' outer s H vs Q E hr h => ⟨_, pss_cons (ps_expr (pe_ceinit (by rfl) T.g_PlanError T.ba_PlanError T.bb_PlanError T.bc_PlanError (pa_cons (pv 0) (pa_cons pe_str pa_nil)))) (pss_one (ps_ost (pv 0) (pv 1))), ?_⟩
  obtain ⟨a, ws, rfl, hl, ha, k⟩ := h
  match ws, hl, k with
  | [v0], _, k =>
    refine ⟨.ref a, rfl, a, A.c_BadKey, [_], rfl, by simp, T.xc_BadKey.oex, ha, ?_⟩
    refine ⟨v0, rfl, .ref a, rfl, a, A.c_BadKey, rfl, T.xc_BadKey.oex, T.xn_BadKey_table, .inl ⟨ha, fun d hd hne => ?_⟩⟩
    exact k d _ hd hne upd_same (by rw [upd_ne hne, upd_same]; rfl) fun b h1 h2 => by rw [upd_ne h1, upd_ne h2]
theorem in_BadMade (T : Txt K mg A) : FnOk P w K mg base CX0 1 A.xf_BadMade A.xd_BadMade ["self", "at"] (spX A.c_BadMade ["at"]) := by
  refine T.xF_BadMade.ok sxc_BadMade spX_len fun cdv A' outer s H vs Q E hr h => ⟨_, pss_cons (ps_expr (pe_ceinit (by rfl) T.g_PlanError T.ba_PlanError T.bb_PlanError T.bc_PlanError (pa_cons (pv 0) (pa_cons pe_str pa_nil)))) (pss_one (ps_ost (pv 0) (pv 1))), ?_⟩
  obtain ⟨a, ws, rfl, hl, ha, k⟩ := h
  match ws, hl, k with
  | [v0], _, k =>
    refine ⟨.ref a, rfl, a, A.c_BadMade, [_], rfl, by simp, T.xc_BadMade.oex, ha, ?_⟩
    refine ⟨v0, rfl, .ref a, rfl, a, A.c_BadMade, rfl, T.xc_BadMade.oex, T.xn_BadMade_at, .inl ⟨ha, fun d hd hne => ?_⟩⟩
    exact k d _ hd hne upd_same (by rw [upd_ne hne, upd_same]; rfl) fun b h1 h2 => by rw [upd_ne h1, upd_ne h2]
theorem in_BadReference (T : Txt K mg A) : FnOk P w K mg base CX0 1 A.xf_BadReference A.xd_BadReference ["self", "at"] (spX A.c_BadReference ["at"]) := by
  refine T.xF_BadReference.ok sxc_BadReference spX_len fun cdv A' outer s H vs Q E hr h => ⟨_, pss_cons (ps_expr (pe_ceinit (by rfl) T.g_PlanError T.ba_PlanError T.bb_PlanError T.bc_PlanError (pa_cons (pv 0) (pa_cons pe_str pa_nil)))) (pss_one (ps_ost (pv 0) (pv 1))), ?_⟩
  obtain ⟨a, ws, rfl, hl, ha, k⟩ := h
  match ws, hl, k with
  | [v0], _, k =>
    refine ⟨.ref a, rfl, a, A.c_BadReference, [_], rfl, by simp, T.xc_BadReference.oex, ha, ?_⟩
    refine ⟨v0, rfl, .ref a, rfl, a, A.c_BadReference, rfl, T.xc_BadReference.oex, T.xn_BadReference_at, .inl ⟨ha, fun d hd hne => ?_⟩⟩
    exact k d _ hd hne upd_same (by rw [upd_ne hne, upd_same]; rfl) fun b h1 h2 => by rw [upd_ne h1, upd_ne h2]
theorem in_Ringed (T : Txt K mg A) : FnOk P w K mg base CX0 1 A.xf_Ringed A.xd_Ringed ["self", "table", "column"] (spX A.c_Ringed ["table", "column"]) := by
  refine T.xF_Ringed.ok sxc_Ringed spX_len fun cdv A' outer s H vs Q E hr h => ⟨_, pss_cons (ps_expr (pe_ceinit (by rfl) T.g_PlanError T.ba_PlanError T.bb_PlanError T.bc_PlanError (pa_cons (pv 0) (pa_cons pe_str pa_nil)))) (pss_cons (ps_ost (pv 0) (pv 1)) (pss_one (ps_ost (pv 0) (pv 2)))), ?_⟩
  obtain ⟨a, ws, rfl, hl, ha, k⟩ := h
  match ws, hl, k with
  | [v0, v1], _, k =>
    refine ⟨.ref a, rfl, a, A.c_Ringed, [_], rfl, by simp, T.xc_Ringed.oex, ha, ?_⟩
    refine ⟨v0, rfl, .ref a, rfl, a, A.c_Ringed, rfl, T.xc_Ringed.oex, T.xn_Ringed_table, .inl ⟨ha, fun d hd hne => ?_⟩⟩
    refine ⟨v1, rfl, .ref a, rfl, a, A.c_Ringed, rfl, T.xc_Ringed.oex, T.xn_Ringed_column, .inr ⟨d, _, upd_same, by rw [upd_ne hne, upd_same], by simp, ?_⟩⟩
    exact k d _ hd hne (by rw [upd_ne (Ne.symm hne), upd_same]) (by rw [upd_same]; rfl) fun b h1 h2 => by rw [upd_ne h2, upd_ne h1, upd_ne h2]
theorem in_Wrong (T : Txt K mg A) : FnOk P w K mg base CX0 1 A.xf_Wrong A.xd_Wrong ["self", "place"] (spX A.c_Wrong ["place"]) := by
  refine T.xF_Wrong.ok sxc_Wrong spX_len fun cdv A' outer s H vs Q E hr h => ⟨_, pss_cons (ps_expr (pe_ceinit (by rfl) T.g_PlanError T.ba_PlanError T.bb_PlanError T.bc_PlanError (pa_cons (pv 0) (pa_cons pe_str pa_nil)))) (pss_one (ps_ost (pv 0) (pv 1))), ?_⟩
  obtain ⟨a, ws, rfl, hl, ha, k⟩ := h
  match ws, hl, k with
  | [v0], _, k =>
    refine ⟨.ref a, rfl, a, A.c_Wrong, [_], rfl, by simp, T.xc_Wrong.oex, ha, ?_⟩
    refine ⟨v0, rfl, .ref a, rfl, a, A.c_Wrong, rfl, T.xc_Wrong.oex, T.xn_Wrong_place, .inl ⟨ha, fun d hd hne => ?_⟩⟩
    exact k d _ hd hne upd_same (by rw [upd_ne hne, upd_same]; rfl) fun b h1 h2 => by rw [upd_ne h1, upd_ne h2]
theorem ok_is_integer (T : Txt K mg A) : FnG P w K mg base 1 A.a_is_integer A.fd_is_integer ["thing"] (spD ⟨K, w, mg, none⟩ 1 den_is_integer) := by
  refine fn_denG (body := body_is_integer) T.F_is_integer sc_is_integer rfl rfl (by decide) fun cdv A' outer s H E hG hr => ?_
  exact (dss_one (ds_ret (de_andG (de_callB call_isiD (by rfl) T.m_isinstance (by decide +kernel) (da_consN (de_var 0) (da_consN (de_ty (by rfl) T.m_int (by decide +kernel)) da_nil))) (de_one (de_not (de_callB call_isiD (by rfl) T.m_isinstance (by decide +kernel) (da_consN (de_var 0) (da_consN (de_ty (by rfl) T.m_bool (by decide +kernel)) da_nil))))))))
theorem ok_is_name (T : Txt K mg A) : FnG P w K mg base 1 A.a_is_name A.fd_is_name ["thing"] (spD ⟨K, w, mg, none⟩ 1 den_is_name) := by
  refine fn_denG (body := body_is_name) T.F_is_name sc_is_name rfl rfl (by decide) fun cdv A' outer s H E hG hr => ?_
  exact (dss_cons (ds_if (DW.dt (dw_or (dt_not (dt_tv (de_callB call_isiD (by rfl) T.m_isinstance (by decide +kernel) (da_consN (de_var 0) (da_consN (de_ty (by rfl) T.m_str (by decide +kernel)) da_nil))))) (dw_or1 (dt_not (dt_chain op_leI op_leI de_int (de_callB call_lenG (by rfl) T.m_len (by decide +kernel) (da_consN (de_var 0) da_nil)) (de_gInt T.c_LONGEST_NAME)))))) (dss_one (ds_ret de_bl)) dss_nil)
      (dss_one (ds_ret (de_callB (call_allD rfl) (by rfl) T.m_all (by decide +kernel) (da_consN (de_lc .z [("sign", 1)] sc_is_name.nd (di_val (de_var 0)) (blk_by (N := ["thing", "sign"]) (sc := defScope s_is_name) (by decide +kernel)) (fun _ _ _ _ _ => (dl_one 1 sc_is_name.nd)) (fun _ _ _ _ _ => dts_nil) (fun _ _ _ _ _ => (de_cmp (op_inG (u65 hr)) (de_var 1) (de_gStr T.c_LETTERS)))) da_nil)))))
theorem ok_is_kind (T : Txt K mg A) : FnG P w K mg base 1 A.a_is_kind A.fd_is_kind ["thing"] (spD ⟨K, w, mg, none⟩ 1 den_is_kind) := by
  refine fn_denG (body := body_is_kind) T.F_is_kind sc_is_kind rfl rfl (by decide) fun cdv A' outer s H E hG hr => ?_
  exact (dss_one (ds_ret (de_andG (de_callB call_isiD (by rfl) T.m_isinstance (by decide +kernel) (da_consN (de_var 0) (da_consN (de_ty (by rfl) T.m_str (by decide +kernel)) da_nil))) (de_one (de_cmp (op_inG (u65 hr)) (de_var 0) (de_gTup T.c_KINDS))))))
theorem ok_is_reference (T : Txt K mg A) : FnG P w K mg base 2 A.a_is_reference A.fd_is_reference ["thing"] (spD ⟨K, w, mg, none⟩ 1 den_is_reference) := by
  have G_is_name := ok_is_name (P := P) (w := w) (base := base) T
  refine fn_denG (body := body_is_reference) T.F_is_reference sc_is_reference rfl rfl (by decide) fun cdv A' outer s H E hG hr => ?_
  exact (dss_one (ds_ret (de_andG (de_callB call_isiD (by rfl) T.m_isinstance (by decide +kernel) (da_consN (de_var 0) (da_consN (de_ty (by rfl) T.m_tuple (by decide +kernel)) da_nil))) (de_andG (de_cmp (op_eqG' (u64 hr)) (de_callB call_lenG (by rfl) T.m_len (by decide +kernel) (da_consN (de_var 0) da_nil)) de_int) (de_one (de_callB (call_allD rfl) (by rfl) T.m_all (by decide +kernel) (da_consN (de_lc .z [("one", 1)] sc_is_reference.nd (di_val (de_var 0)) (blk_by (N := ["thing", "one"]) (sc := defScope s_is_reference) (by decide +kernel)) (fun _ _ _ _ _ => (dl_one 1 sc_is_reference.nd)) (fun _ _ _ _ _ => dts_nil) (fun _ _ _ _ _ => (de_callG G_is_name hG (hr.mono (by decide)) T.g_is_name T.F_is_name.kp T.b_is_name takes0 (da_consN (de_var 1) da_nil) (lenA_cons lenA_nil)))) da_nil)))))))
theorem ok_is_made (T : Txt K mg A) : FnG P w K mg base 2 A.a_is_made A.fd_is_made ["thing"] (spD ⟨K, w, mg, none⟩ 1 den_is_made) := by
  have G_is_name := ok_is_name (P := P) (w := w) (base := base) T
  refine fn_denG (body := body_is_made) T.F_is_made sc_is_made rfl rfl (by decide) fun cdv A' outer s H E hG hr => ?_
  exact (dss_cons (ds_if (DW.dt (dw_or (dt_not (dt_tv (de_callB call_isiD (by rfl) T.m_isinstance (by decide +kernel) (da_consN (de_var 0) (da_consN (de_ty (by rfl) T.m_tuple (by decide +kernel)) da_nil))))) (dw_or (dt_cmp (op_neG' (u64 hr)) (de_callB call_lenG (by rfl) T.m_len (by decide +kernel) (da_consN (de_var 0) da_nil)) de_int) (dw_or1 (dt_not (dt_tv (de_callB call_isiD (by rfl) T.m_isinstance (by decide +kernel) (da_consN (de_ix (ix_G (u65 hr)) (de_var 0) de_int) (da_consN (de_ty (by rfl) T.m_tuple (by decide +kernel)) da_nil))))))))) (dss_one (ds_ret de_bl)) dss_nil)
      (dss_one (ds_ret (de_andG (de_cmp op_leI (de_callB call_lenG (by rfl) T.m_len (by decide +kernel) (da_consN (de_ix (ix_G (u65 hr)) (de_var 0) de_int) da_nil)) (de_gInt T.c_MOST_ARGUMENTS)) (de_one (de_callB (call_allD rfl) (by rfl) T.m_all (by decide +kernel) (da_consN (de_lc .z [("one", 1)] sc_is_made.nd (di_val (de_op (op_addD .z) (de_slice (sl_D .z) (de_var 0) do_none (do_some de_int)) (de_ix (ix_G (u65 hr)) (de_var 0) de_int))) (blk_by (N := ["thing", "one"]) (sc := defScope s_is_made) (by decide +kernel)) (fun _ _ _ _ _ => (dl_one 1 sc_is_made.nd)) (fun _ _ _ _ _ => dts_nil) (fun _ _ _ _ _ => (de_callG G_is_name hG (hr.mono (by decide)) T.g_is_name T.F_is_name.kp T.b_is_name takes0 (da_consN (de_var 1) da_nil) (lenA_cons lenA_nil)))) da_nil)))))))
theorem ok_is_list_of (T : Txt K mg A) : FnG P w K mg base 3 A.a_is_list_of A.fd_is_list_of ["judge", "thing"] (spD ⟨K, w, mg, none⟩ 2 den_is_list_of) := by
  have G_is_made := ok_is_made (P := P) (w := w) (base := base) T
  have G_is_name := ok_is_name (P := P) (w := w) (base := base) T
  have G_is_reference := ok_is_reference (P := P) (w := w) (base := base) T
  refine fn_denG (body := body_is_list_of) T.F_is_list_of sc_is_list_of rfl rfl (by decide) fun cdv A' outer s H E hG hr => ?_
  exact (dss_one (ds_ret (de_andG (de_callB call_isiD (by rfl) T.m_isinstance (by decide +kernel) (da_consN (de_var 1) (da_consN (de_tup (da_consN (de_ty (by rfl) T.m_list (by decide +kernel)) (da_consN (de_ty (by rfl) T.m_tuple (by decide +kernel)) da_nil))) da_nil))) (de_one (de_callB (call_allD rfl) (by rfl) T.m_all (by decide +kernel) (da_consN (de_lc .z [("one", 2)] sc_is_list_of.nd (di_val (de_var 1)) (blk_by (N := ["judge", "thing", "one"]) (sc := defScope s_is_list_of) (by decide +kernel)) (fun _ _ _ _ _ => (dl_one 2 sc_is_list_of.nd)) (fun _ _ _ _ _ => dts_nil) (fun _ _ _ _ _ => (de_callV hG (fcons ⟨_, _, _, _, T.g_is_name, T.F_is_name.kp, G_is_name, (hr.mono (by decide)), T.b_is_name⟩ (fcons ⟨_, _, _, _, T.g_is_reference, T.F_is_reference.kp, G_is_reference, (hr.mono (by decide)), T.b_is_reference⟩ (fcons ⟨_, _, _, _, T.g_is_made, T.F_is_made.kp, G_is_made, (hr.mono (by decide)), T.b_is_made⟩ (fun q hq => (by cases hq))))) takes0 (de_var 0) (da_consN (de_var 2) da_nil) (lenA_cons lenA_nil)))) da_nil))))))
theorem ok_are_columns (T : Txt K mg A) : FnG P w K mg base 4 A.a_are_columns A.fd_are_columns ["thing"] (spD ⟨K, w, mg, none⟩ 1 den_are_columns) := by
  have G_is_list_of := ok_is_list_of (P := P) (w := w) (base := base) T
  refine fn_denG (body := body_are_columns) T.F_are_columns sc_are_columns rfl rfl (by decide) fun cdv A' outer s H E hG hr => ?_
  exact (dss_cons (ds_if (dt_not (dt_tv (de_callG G_is_list_of hG (hr.mono (by decide)) T.g_is_list_of T.F_is_list_of.kp T.b_is_list_of (takes_of rfl rfl rfl rfl) (da_consN (de_fn T.g_is_name) (da_consN (de_var 0) da_nil)) (lenA_cons (lenA_cons lenA_nil))))) (dss_one (ds_ret de_bl)) dss_nil)
      (dss_one (ds_ret (de_andG (de_chain op_leI op_leI de_int (de_callB call_lenG (by rfl) T.m_len (by decide +kernel) (da_consN (de_var 0) da_nil)) (de_gInt T.c_MOST_COLUMNS)) (de_one (de_cmp (op_eqG' (u64 hr)) (de_callB call_lenG (by rfl) T.m_len (by decide +kernel) (da_consN de_stuck da_nil)) (de_callB call_lenG (by rfl) T.m_len (by decide +kernel) (da_consN (de_var 0) da_nil))))))))
theorem ok_is_shape (T : Txt K mg A) : FnG P w K mg base 2 A.a_is_shape A.fd_is_shape ["thing"] (spD ⟨K, w, mg, none⟩ 1 den_is_shape) := by
  have G_is_integer := ok_is_integer (P := P) (w := w) (base := base) T
  have G_is_kind := ok_is_kind (P := P) (w := w) (base := base) T
  refine fn_denG (body := body_is_shape) T.F_is_shape sc_is_shape rfl rfl (by decide) fun cdv A' outer s H E hG hr => ?_
  exact (dss_cons (ds_if (DW.dt (dw_or (dt_not (dt_tv (de_callB call_isiD (by rfl) T.m_isinstance (by decide +kernel) (da_consN (de_var 0) (da_consN (de_ty (by rfl) T.m_tuple (by decide +kernel)) da_nil))))) (dw_or (dt_cmp (op_neG' (u64 hr)) (de_callB call_lenG (by rfl) T.m_len (by decide +kernel) (da_consN (de_var 0) da_nil)) de_int) (dw_or1 (dt_not (dt_tv (de_callG G_is_integer hG (hr.mono (by decide)) T.g_is_integer T.F_is_integer.kp T.b_is_integer (takes_of rfl rfl rfl rfl) (da_consN (de_ix (ix_G (u65 hr)) (de_var 0) de_int) da_nil) (lenA_cons lenA_nil)))))))) (dss_one (ds_ret de_bl)) dss_nil)
      (dss_one (ds_ret (de_andG (de_chain op_leI op_leI de_int (de_ix (ix_G (u65 hr)) (de_var 0) de_int) (de_gInt T.c_MOST_ARGUMENTS)) (de_one (de_callG G_is_kind hG (hr.mono (by decide)) T.g_is_kind T.F_is_kind.kp T.b_is_kind (takes_of rfl rfl rfl rfl) (da_consN (de_ix (ix_G (u65 hr)) (de_var 0) de_int) da_nil) (lenA_cons lenA_nil)))))))
theorem ok_is_dict_of (T : Txt K mg A) : FnG P w K mg base 5 A.a_is_dict_of A.fd_is_dict_of ["judge", "thing"] (spD ⟨K, w, mg, none⟩ 2 den_is_dict_of) := by
  have G_are_columns := ok_are_columns (P := P) (w := w) (base := base) T
  have G_is_name := ok_is_name (P := P) (w := w) (base := base) T
  have G_is_shape := ok_is_shape (P := P) (w := w) (base := base) T
  refine fn_denG (body := body_is_dict_of) T.F_is_dict_of sc_is_dict_of rfl rfl (by decide) fun cdv A' outer s H E hG hr => ?_
  exact (dss_cons (ds_if (DW.dt (dw_or (dt_not (dt_tv (de_callB call_isiD (by rfl) T.m_isinstance (by decide +kernel) (da_consN (de_var 1) (da_consN (de_ty (by rfl) T.m_dict (by decide +kernel)) da_nil))))) (dw_or1 (dt_cmp op_gtI (de_callB call_lenG (by rfl) T.m_len (by decide +kernel) (da_consN (de_var 1) da_nil)) (de_gInt T.c_MOST_NAMES))))) (dss_one (ds_ret de_bl)) dss_nil)
      (dss_one (ds_ret (de_callB (call_allD rfl) (by rfl) T.m_all (by decide +kernel) (da_consN (de_lc .z [("name", 2), ("one", 3)] sc_is_dict_of.nd (di_itms (de_var 1)) (blk_by (N := ["judge", "thing", "name", "one"]) (sc := defScope s_is_dict_of) (by decide +kernel)) (fun _ _ _ _ _ => (dl_many (dls_cons 2 (dls_cons 3 dls_nil sc_is_dict_of.nd) sc_is_dict_of.nd))) (fun _ _ _ _ _ => dts_nil) (fun _ _ _ _ _ => (de_andG (de_callG G_is_name hG (hr.mono (by decide)) T.g_is_name T.F_is_name.kp T.b_is_name takes0 (da_consN (de_var 2) da_nil) (lenA_cons lenA_nil)) (de_one (de_callV hG (fcons ⟨_, _, _, _, T.g_are_columns, T.F_are_columns.kp, G_are_columns, (hr.mono (by decide)), T.b_are_columns⟩ (fcons ⟨_, _, _, _, T.g_is_shape, T.F_is_shape.kp, G_is_shape, (hr.mono (by decide)), T.b_is_shape⟩ (fun q hq => (by cases hq)))) takes0 (de_var 0) (da_consN (de_var 3) da_nil) (lenA_cons lenA_nil)))))) da_nil)))))
theorem ok_is_dict_of_names (T : Txt K mg A) : FnG P w K mg base 2 A.a_is_dict_of_names A.fd_is_dict_of_names ["thing"] (spD ⟨K, w, mg, none⟩ 1 den_is_dict_of_names) := by
  have G_is_name := ok_is_name (P := P) (w := w) (base := base) T
  refine fn_denG (body := body_is_dict_of_names) T.F_is_dict_of_names sc_is_dict_of_names rfl rfl (by decide) fun cdv A' outer s H E hG hr => ?_
  exact (dss_one (ds_ret (de_andG (de_callB call_isiD (by rfl) T.m_isinstance (by decide +kernel) (da_consN (de_var 0) (da_consN (de_ty (by rfl) T.m_dict (by decide +kernel)) da_nil))) (de_one (de_callB (call_allD rfl) (by rfl) T.m_all (by decide +kernel) (da_consN (de_lc .z [("name", 1), ("one", 2)] sc_is_dict_of_names.nd (di_itms (de_var 0)) (blk_by (N := ["thing", "name", "one"]) (sc := defScope s_is_dict_of_names) (by decide +kernel)) (fun _ _ _ _ _ => (dl_many (dls_cons 1 (dls_cons 2 dls_nil sc_is_dict_of_names.nd) sc_is_dict_of_names.nd))) (fun _ _ _ _ _ => dts_nil) (fun _ _ _ _ _ => (de_andG (de_callG G_is_name hG (hr.mono (by decide)) T.g_is_name T.F_is_name.kp T.b_is_name takes0 (da_consN (de_var 1) da_nil) (lenA_cons lenA_nil)) (de_one (de_callG G_is_name hG (hr.mono (by decide)) T.g_is_name T.F_is_name.kp T.b_is_name takes0 (da_consN (de_var 2) da_nil) (lenA_cons lenA_nil)))))) da_nil))))))
theorem ok_Schema_made_of (T : Txt K mg A) : FnG P w K mg base 1 A.a_Schema_made_of A.fd_Schema_made_of ["self", "table", "column"] (spD ⟨K, w, mg, none⟩ 3 den_Schema_made_of) := by
  refine fn_denG (body := body_Schema_made_of) T.F_Schema_made_of sc_Schema_made_of rfl rfl (by decide) fun cdv A' outer s H E hG hr => ?_
  exact (dss_cons (ds_for (passes_of rfl) (di_val (de_fld T.fx_its_made T.fi_its_made (de_var 0))) (dg_tup (dgs_cons (dg_name 3 sc_Schema_made_of.nd) (dgs_cons (dg_name 4 sc_Schema_made_of.nd) (dgs_cons (dg_name 5 sc_Schema_made_of.nd) (dgs_cons (dg_name 6 sc_Schema_made_of.nd) dgs_nil))))) (dss_one (ds_if (dt_cmp (op_eqG' (u64 hr)) (de_tup (da_consN (de_var 3) (da_consN (de_var 4) da_nil))) (de_tup (da_consN (de_var 1) (da_consN (de_var 2) da_nil)))) (dss_one (ds_ret (de_tup (da_consN (de_var 5) (da_consN (de_var 6) da_nil))))) dss_nil)))
      (dss_one (ds_ret de_non)))
theorem ok_Schema_check_keys (T : Txt K mg A) : FnG P w K mg base 3 A.a_Schema_check_keys A.fd_Schema_check_keys ["self"] (spD ⟨K, w, mg, none⟩ 1 den_Schema_check_keys) := by
  have I_BadKey := in_BadKey (P := P) (w := w) (base := base) T
  refine fn_denG (body := body_Schema_check_keys) T.F_Schema_check_keys sc_Schema_check_keys rfl rfl (by decide) fun cdv A' outer s H E hG hr => ?_
  exact (dss_one (ds_for (passes_of rfl) (di_val (de_callB (call_sortedG .z rfl (u65 hr)) (by rfl) T.m_sorted (by decide +kernel) (da_consN (de_fld T.fx_its_keys T.fi_its_keys (de_var 0)) da_nil))) (dg_name 1 sc_Schema_check_keys.nd) (dss_one (ds_if (DW.dt (dw_or (dt_cmp (op_notInG (u65 hr)) (de_var 1) (de_fld T.fx_its_columns T.fi_its_columns (de_var 0))) (dw_or1 (dt_cmp (op_notInG (u65 hr)) (de_ix (ix_G (u65 hr)) (de_fld T.fx_its_keys T.fi_its_keys (de_var 0)) (de_var 1)) (de_ix (ix_G (u65 hr)) (de_fld T.fx_its_columns T.fi_its_columns (de_var 0)) (de_var 1)))))) (dss_one (ds_raise T.xc_BadKey T.g_BadKey T.xi_BadKey T.xt_BadKey I_BadKey (hr.mono (by decide)) T.xb_BadKey (takes_of rfl rfl rfl rfl) (da_consN (de_var 1) da_nil))) dss_nil))))
theorem ok_Schema_checked_references (T : Txt K mg A) : FnG P w K mg base 3 A.a_Schema_checked_references A.fd_Schema_checked_references ["self", "references"] (spD ⟨K, w, mg, none⟩ 2 den_Schema_checked_references) := by
  have I_BadReference := in_BadReference (P := P) (w := w) (base := base) T
  refine fn_denG (body := body_Schema_checked_references) T.F_Schema_checked_references sc_Schema_checked_references rfl rfl (by decide) fun cdv A' outer s H E hG hr => ?_
  exact (dss_cons (ds_for (passes_of rfl) (di_enum (by rfl) T.m_enumerate (da_consN (de_var 1) da_nil)) (dg_tup (dgs_cons (dg_name 2 sc_Schema_checked_references.nd) (dgs_cons (dg_tup (dgs_cons (dg_name 3 sc_Schema_checked_references.nd) (dgs_cons (dg_name 4 sc_Schema_checked_references.nd) (dgs_cons (dg_name 5 sc_Schema_checked_references.nd) dgs_nil)))) dgs_nil))) (dss_one (ds_if (DW.dt (dw_or (dt_cmp (op_notInG (u65 hr)) (de_var 4) (de_dm F.slot_dict_get F.type_dict_get (mt_getD (u65 hr)) (de_fld T.fx_its_columns T.fi_its_columns (de_var 0)) (da_consN (de_var 3) (da_consN (de_lst .z da_nil) da_nil)))) (dw_or1 (dt_cmp (op_notInG (u65 hr)) (de_var 5) (de_fld T.fx_its_keys T.fi_its_keys (de_var 0)))))) (dss_one (ds_raise T.xc_BadReference T.g_BadReference T.xi_BadReference T.xt_BadReference I_BadReference (hr.mono (by decide)) T.xb_BadReference (takes_of rfl rfl rfl rfl) (da_consN (de_var 2) da_nil))) dss_nil)))
      (dss_one (ds_ret (de_ss0 .z rfl (u65 hr) (by rfl) T.m_sorted (by rfl) T.m_set (de_var 1)))))
theorem ok_Schema_checked_made (T : Txt K mg A) : FnG P w K mg base 3 A.a_Schema_checked_made A.fd_Schema_checked_made ["self", "made"] (spD ⟨K, w, mg, none⟩ 2 den_Schema_checked_made) := by
  have I_BadMade := in_BadMade (P := P) (w := w) (base := base) T
  refine fn_denG (body := body_Schema_checked_made) T.F_Schema_checked_made sc_Schema_checked_made rfl rfl (by decide) fun cdv A' outer s H E hG hr => ?_
  exact (dss_cons (ds_set 2 sc_Schema_checked_made.nd (de_dict0 .l))
      (dss_cons (ds_setSc0 3 [("table", 5), ("column", 6), ("target", 10)] sc_Schema_checked_made.nd (di_val (de_fld T.fx_its_references T.fi_its_references (de_var 0))) (blk_by (N := ["self", "made", "known", "bound", "at", "table", "column", "function", "columns", "there", "target", "one"]) (sc := defScope s_Schema_checked_made) (by decide +kernel)) (sw_set rfl rfl rfl (by decide +kernel)))
      (dss_cons (ds_for (passes_of rfl) (di_enum (by rfl) T.m_enumerate (da_consN (de_var 1) da_nil)) (dg_tup (dgs_cons (dg_name 4 sc_Schema_checked_made.nd) (dgs_cons (dg_tup (dgs_cons (dg_name 5 sc_Schema_checked_made.nd) (dgs_cons (dg_name 6 sc_Schema_checked_made.nd) (dgs_cons (dg_name 7 sc_Schema_checked_made.nd) (dgs_cons (dg_name 8 sc_Schema_checked_made.nd) dgs_nil))))) dgs_nil))) (dss_cons (ds_set 9 sc_Schema_checked_made.nd (de_dm F.slot_dict_get F.type_dict_get (mt_getD (u65 hr)) (de_fld T.fx_its_columns T.fi_its_columns (de_var 0)) (da_consN (de_var 5) (da_consN (de_lst .z da_nil) da_nil))))
      (dss_cons (ds_if (DW.dt (dw_or (dt_not (dt_tv (de_callB (call_allD rfl) (by rfl) T.m_all (by decide +kernel) (da_consN (de_lc .z [("one", 11)] sc_Schema_checked_made.nd (di_val (de_op (op_addD .z) (de_tup (da_consN (de_var 6) da_nil)) (de_var 8))) (blk_by (N := ["self", "made", "known", "bound", "at", "table", "column", "function", "columns", "there", "target", "one"]) (sc := defScope s_Schema_checked_made) (by decide +kernel)) (fun _ _ _ _ _ => (dl_one 11 sc_Schema_checked_made.nd)) (fun _ _ _ _ _ => dts_nil) (fun _ _ _ _ _ => (de_cmp (op_inG (u65 hr)) (de_var 11) (de_var 9)))) da_nil)))) (dw_or1 (dt_cmp (op_eqG' (u64 hr)) (de_dm F.slot_dict_get F.type_dict_get (mt_getD (u65 hr)) (de_fld T.fx_its_keys T.fi_its_keys (de_var 0)) (da_consN (de_var 5) da_nil)) (de_var 6))))) (dss_one (ds_raise T.xc_BadMade T.g_BadMade T.xi_BadMade T.xt_BadMade I_BadMade (hr.mono (by decide)) T.xb_BadMade (takes_of rfl rfl rfl rfl) (da_consN (de_var 4) da_nil))) dss_nil)
      (dss_cons (ds_if (DW.dt (dw_or (dt_cmp (op_neG' (u64 hr)) (de_dm F.slot_dict_get F.type_dict_get (mt_getD (u65 hr)) (de_fld T.fx_its_shapes T.fi_its_shapes (de_var 0)) (da_consN (de_var 7) da_nil)) (de_tup (da_consN (de_callB call_lenG (by rfl) T.m_len (by decide +kernel) (da_consN (de_var 8) da_nil)) (da_consN de_str da_nil)))) (dw_or1 (dt_cmp (op_inG (u65 hr)) (de_tup (da_consN (de_var 5) (da_consN (de_var 6) da_nil))) (de_var 3))))) (dss_one (ds_raise T.xc_BadMade T.g_BadMade T.xi_BadMade T.xt_BadMade I_BadMade (hr.mono (by decide)) T.xb_BadMade (takes_of rfl rfl rfl rfl) (da_consN (de_var 4) da_nil))) dss_nil)
      (dss_cons (ds_if (dt_cmp (op_neG' (u64 hr)) (de_dm F.slot_dict_get F.type_dict_get (mt_getD (u65 hr)) (de_var 2) (da_consN (de_tup (da_consN (de_var 5) (da_consN (de_var 6) da_nil))) (da_consN (de_tup (da_consN (de_var 7) (da_consN (de_var 8) da_nil))) da_nil))) (de_tup (da_consN (de_var 7) (da_consN (de_var 8) da_nil)))) (dss_one (ds_raise T.xc_BadMade T.g_BadMade T.xi_BadMade T.xt_BadMade I_BadMade (hr.mono (by decide)) T.xb_BadMade (takes_of rfl rfl rfl rfl) (da_consN (de_var 4) da_nil))) dss_nil)
      (dss_one (ds_asg (de_tup (da_consN (de_var 7) (da_consN (de_var 8) da_nil))) (dg_sub (set_G (u65 hr)) (de_var 2) (de_tup (da_consN (de_var 5) (da_consN (de_var 6) da_nil)))))))))))
      (dss_one (ds_ret (de_ss0 .z rfl (u65 hr) (by rfl) T.m_sorted (by rfl) T.m_set (de_var 1)))))))
theorem ok_Schema_check_rings (T : Txt K mg A) : FnG P w K mg base 3 A.a_Schema_check_rings A.fd_Schema_check_rings ["self"] (spD ⟨K, w, mg, none⟩ 1 den_Schema_check_rings) := by
  have G_Schema_made_of := ok_Schema_made_of (P := P) (w := w) (base := base) T
  have I_Ringed := in_Ringed (P := P) (w := w) (base := base) T
  refine fn_denG (body := body_Schema_check_rings) T.F_Schema_check_rings sc_Schema_check_rings rfl rfl (by decide) fun cdv A' outer s H E hG hr => ?_
  exact (dss_one (ds_for (passes_of rfl) (di_val (de_fld T.fx_its_made T.fi_its_made (de_var 0))) (dg_tup (dgs_cons (dg_name 1 sc_Schema_check_rings.nd) (dgs_cons (dg_name 2 sc_Schema_check_rings.nd) (dgs_cons (dg_name 3 sc_Schema_check_rings.nd) (dgs_cons (dg_name 4 sc_Schema_check_rings.nd) dgs_nil))))) (dss_cons (ds_set 5 sc_Schema_check_rings.nd (de_callTy (call_listG .z rfl) (by rfl) T.m_list (by decide +kernel) (da_consN (de_var 4) da_nil)))
      (dss_cons (ds_set 6 sc_Schema_check_rings.nd de_int)
      (dss_cons (ds_while 100 (passes_of rfl) (dt_cmp op_ltI (de_var 6) (de_callB call_lenG (by rfl) T.m_len (by decide +kernel) (da_consN (de_var 5) da_nil))) (dss_cons (ds_set 7 sc_Schema_check_rings.nd (de_meth hG (fcons ⟨_, _, _, _, _, T.g_Schema, T.ic_Schema.cl, T.me_Schema_made_of, G_Schema_made_of, (hr.mono (by decide)), T.b_Schema_made_of⟩ (fun q hq => (by cases hq))) (takes_of rfl rfl rfl rfl) (de_var 0) (da_consN (de_var 1) (da_consN (de_ix (ix_G (u65 hr)) (de_var 5) (de_var 6)) da_nil)) (lenA_cons (lenA_cons lenA_nil))))
      (dss_cons (ds_if (dt_cmp op_isNotG (de_var 7) de_non) (dss_one (ds_expr de_stuck)) dss_nil)
      (dss_one (ds_aug 6 sc_Schema_check_rings.nd ip_addI de_int)))))
      (dss_one (ds_if (dt_cmp (op_inG (u65 hr)) (de_var 2) (de_var 5)) (dss_one (ds_raise T.xc_Ringed T.g_Ringed T.xi_Ringed T.xt_Ringed I_Ringed (hr.mono (by decide)) T.xb_Ringed (takes_of rfl rfl rfl rfl) (da_consN (de_var 1) (da_consN (de_var 2) da_nil)))) dss_nil)))))))
theorem ok_Schema___init__ (T : Txt K mg A) : FnG P w K mg base 6 A.a_Schema___init__ A.fd_Schema___init__ ["self", "tables", "functions", "keys", "references", "made"] (spD ⟨K, w, mg, none⟩ 6 den_Schema___init__) := by
  have G_Schema_check_keys := ok_Schema_check_keys (P := P) (w := w) (base := base) T
  have G_Schema_check_rings := ok_Schema_check_rings (P := P) (w := w) (base := base) T
  have G_Schema_checked_made := ok_Schema_checked_made (P := P) (w := w) (base := base) T
  have G_Schema_checked_references := ok_Schema_checked_references (P := P) (w := w) (base := base) T
  have G_is_dict_of := ok_is_dict_of (P := P) (w := w) (base := base) T
  have G_is_dict_of_names := ok_is_dict_of_names (P := P) (w := w) (base := base) T
  have G_is_list_of := ok_is_list_of (P := P) (w := w) (base := base) T
  have I_Wrong := in_Wrong (P := P) (w := w) (base := base) T
  refine fn_denD (body := body_Schema___init__) T.F_Schema___init__ sc_Schema___init__ rfl rfl (by decide) fun cdv A' outer s H E hG hr => ?_
  exact (dss_cons (ds_if (dt_not (dt_tv (de_callG G_is_dict_of hG (hr.mono (by decide)) T.g_is_dict_of T.F_is_dict_of.kp T.b_is_dict_of (takes_of rfl rfl rfl rfl) (da_consN (de_fn T.g_are_columns) (da_consN (de_var 1) da_nil)) (lenA_cons (lenA_cons lenA_nil))))) (dss_one (ds_raise T.xc_Wrong T.g_Wrong T.xi_Wrong T.xt_Wrong I_Wrong (hr.mono (by decide)) T.xb_Wrong (takes_of rfl rfl rfl rfl) (da_consN de_int da_nil))) dss_nil)
      (dss_cons (ds_if (dt_not (dt_tv (de_callG G_is_dict_of hG (hr.mono (by decide)) T.g_is_dict_of T.F_is_dict_of.kp T.b_is_dict_of (takes_of rfl rfl rfl rfl) (da_consN (de_fn T.g_is_shape) (da_consN (de_var 2) da_nil)) (lenA_cons (lenA_cons lenA_nil))))) (dss_one (ds_raise T.xc_Wrong T.g_Wrong T.xi_Wrong T.xt_Wrong I_Wrong (hr.mono (by decide)) T.xb_Wrong (takes_of rfl rfl rfl rfl) (da_consN de_int da_nil))) dss_nil)
      (dss_cons (ds_if (DW.dt (dw_and (dt_cmp op_isNotG (de_var 3) de_non) (dw_and1 (dt_not (dt_tv (de_callG G_is_dict_of_names hG (hr.mono (by decide)) T.g_is_dict_of_names T.F_is_dict_of_names.kp T.b_is_dict_of_names (takes_of rfl rfl rfl rfl) (da_consN (de_var 3) da_nil) (lenA_cons lenA_nil))))))) (dss_one (ds_raise T.xc_Wrong T.g_Wrong T.xi_Wrong T.xt_Wrong I_Wrong (hr.mono (by decide)) T.xb_Wrong (takes_of rfl rfl rfl rfl) (da_consN de_int da_nil))) dss_nil)
      (dss_cons (ds_if (dt_not (dt_tv (de_callG G_is_list_of hG (hr.mono (by decide)) T.g_is_list_of T.F_is_list_of.kp T.b_is_list_of (takes_of rfl rfl rfl rfl) (da_consN (de_fn T.g_is_reference) (da_consN (de_var 4) da_nil)) (lenA_cons (lenA_cons lenA_nil))))) (dss_one (ds_raise T.xc_Wrong T.g_Wrong T.xi_Wrong T.xt_Wrong I_Wrong (hr.mono (by decide)) T.xb_Wrong (takes_of rfl rfl rfl rfl) (da_consN de_int da_nil))) dss_nil)
      (dss_cons (ds_if (dt_not (dt_tv (de_callG G_is_list_of hG (hr.mono (by decide)) T.g_is_list_of T.F_is_list_of.kp T.b_is_list_of (takes_of rfl rfl rfl rfl) (da_consN (de_fn T.g_is_made) (da_consN (de_var 5) da_nil)) (lenA_cons (lenA_cons lenA_nil))))) (dss_one (ds_raise T.xc_Wrong T.g_Wrong T.xi_Wrong T.xt_Wrong I_Wrong (hr.mono (by decide)) T.xb_Wrong (takes_of rfl rfl rfl rfl) (da_consN de_int da_nil))) dss_nil)
      (dss_cons (ds_setF T.fi_its_columns (de_var 0) (de_dc .z [("table", 6), ("columns", 7)] sc_Schema___init__.nd (di_itms (de_var 1)) (blk_by (N := ["self", "tables", "functions", "keys", "references", "made", "table", "columns"]) (sc := defScope s_Schema___init__) (by decide +kernel)) (fun _ _ _ _ _ => (dl_many (dls_cons 6 (dls_cons 7 dls_nil sc_Schema___init__.nd) sc_Schema___init__.nd))) (fun _ _ _ _ _ => dts_nil) (fun _ _ _ _ _ => (de_var 6)) (fun _ _ _ _ _ => (de_callTy (call_listG .z rfl) (by rfl) T.m_list (by decide +kernel) (da_consN (de_var 7) da_nil)))))
      (dss_cons (ds_setF T.fi_its_shapes (de_var 0) (de_callTy (call_dictD .z (u65 hr)) (by rfl) T.m_dict (by decide +kernel) (da_consN (de_var 2) da_nil)))
      (dss_cons (ds_setF T.fi_its_keys (de_var 0) (de_callTy (call_dictD .z (u65 hr)) (by rfl) T.m_dict (by decide +kernel) (da_consN (de_orG (de_var 3) (de_one (de_dict0 .z))) da_nil)))
      (dss_cons (ds_expr (de_meth0 hG (fcons ⟨_, _, _, _, _, T.g_Schema, T.ic_Schema.cl, T.me_Schema_check_keys, G_Schema_check_keys, (hr.mono (by decide)), T.b_Schema_check_keys⟩ (fun q hq => (by cases hq))) (takes_of rfl rfl rfl rfl) (de_var 0)))
      (dss_cons (ds_setF T.fi_its_references (de_var 0) (de_meth hG (fcons ⟨_, _, _, _, _, T.g_Schema, T.ic_Schema.cl, T.me_Schema_checked_references, G_Schema_checked_references, (hr.mono (by decide)), T.b_Schema_checked_references⟩ (fun q hq => (by cases hq))) (takes_of rfl rfl rfl rfl) (de_var 0) (da_consN (de_callTy (call_listG .z rfl) (by rfl) T.m_list (by decide +kernel) (da_consN (de_var 4) da_nil)) da_nil) (lenA_cons lenA_nil)))
      (dss_cons (ds_setF T.fi_its_made (de_var 0) (de_meth hG (fcons ⟨_, _, _, _, _, T.g_Schema, T.ic_Schema.cl, T.me_Schema_checked_made, G_Schema_checked_made, (hr.mono (by decide)), T.b_Schema_checked_made⟩ (fun q hq => (by cases hq))) (takes_of rfl rfl rfl rfl) (de_var 0) (da_consN (de_callTy (call_listG .z rfl) (by rfl) T.m_list (by decide +kernel) (da_consN (de_var 5) da_nil)) da_nil) (lenA_cons lenA_nil)))
      (dss_one (ds_expr (de_meth0 hG (fcons ⟨_, _, _, _, _, T.g_Schema, T.ic_Schema.cl, T.me_Schema_check_rings, G_Schema_check_rings, (hr.mono (by decide)), T.b_Schema_check_rings⟩ (fun q hq => (by cases hq))) (takes_of rfl rfl rfl rfl) (de_var 0)))))))))))))))
theorem ok_earlier (T : Txt K mg A) : FnG P w K mg base 1 A.a_earlier A.fd_earlier ["keepings", "history", "at"] (spD ⟨K, w, mg, none⟩ 3 den_earlier) := by
  refine fn_denG (body := body_earlier) T.F_earlier sc_earlier rfl rfl (by decide) fun cdv A' outer s H E hG hr => ?_
  exact (dss_cons (ds_par 3 4 sc_earlier.nd (da_consN (de_ix (ix_G (u65 hr)) (de_var 1) (de_var 2)) (da_consN de_non da_nil)))
      (dss_cons (ds_set 5 sc_earlier.nd (de_dm F.slot_dict_get F.type_dict_get (mt_getD (u65 hr)) (de_var 0) (da_consN (de_ix (ix_G (u65 hr)) (de_var 3) de_int) (da_consN de_str da_nil))))
      (dss_cons (ds_for (passes_of rfl) (di_enum (by rfl) T.m_enumerate (da_consN (de_slice (sl_D .z) (de_var 1) do_none (do_some (de_var 2))) da_nil)) (dg_tup (dgs_cons (dg_name 6 sc_earlier.nd) (dgs_cons (dg_name 7 sc_earlier.nd) dgs_nil))) (dss_one (ds_if (DW.dt (dw_and (dt_cmp (op_eqG' (u64 hr)) (de_slice (sl_D .z) (de_var 7) (do_some de_int) (do_some de_int)) (de_slice (sl_D .z) (de_var 3) (do_some de_int) (do_some de_int))) (dw_and1 (DW.dt (dw_or (dt_cmp (op_eqG' (u64 hr)) (de_var 5) de_str) (dw_or1 (DW.dt (dw_and (dt_cmp (op_eqG' (u64 hr)) (de_var 5) de_str) (dw_and1 (dt_cmp (op_eqG' (u64 hr)) (de_ix (ix_G (u65 hr)) (de_var 7) de_int) (de_ix (ix_G (u65 hr)) (de_var 3) de_int))))))))))) (dss_one (ds_set 4 sc_earlier.nd (de_var 6))) dss_nil)))
      (dss_one (ds_ret (de_var 4))))))
theorem ok_told (T : Txt K mg A) : FnG P w K mg base 2 A.a_told A.fd_told ["schema", "keepings", "history"] (spD ⟨K, w, mg, none⟩ 3 den_told) := by
  have G_earlier := ok_earlier (P := P) (w := w) (base := base) T
  refine fn_denG (body := body_told) T.F_told sc_told rfl rfl (by decide) fun cdv A' outer s H E hG hr => ?_
  exact (dss_cons (ds_set 3 sc_told.nd (de_lst .g da_nil))
      (dss_cons (ds_for (passes_of rfl) (di_enum (by rfl) T.m_enumerate (da_consN (de_var 2) da_nil)) (dg_tup (dgs_cons (dg_name 4 sc_told.nd) (dgs_cons (dg_name 5 sc_told.nd) dgs_nil))) (dss_cons (ds_set 6 sc_told.nd (de_callG G_earlier hG (hr.mono (by decide)) T.g_earlier T.F_earlier.kp T.b_earlier (takes_of rfl rfl rfl rfl) (da_consN (de_var 1) (da_consN (de_var 2) (da_consN (de_var 4) da_nil))) (lenA_cons (lenA_cons (lenA_cons lenA_nil)))))
      (dss_one (ds_expr (de_bm PySem.F.plainAttrs_list PySem.F.slot_list_append PySem.F.type_list_append mt_appendD (de_var 3) (da_consN (de_if (dt_cmp op_isG (de_var 6) de_non) (de_ix (ix_G (u65 hr)) (de_var 5) de_int) (de_ix (ix_G (u65 hr)) (de_var 3) (de_var 6))) da_nil))))))
      (dss_one (ds_ret (de_var 3)))))
theorem ok_asked (T : Txt K mg A) : FnG P w K mg base 2 A.a_asked A.fd_asked ["schema", "keepings", "history"] (spD ⟨K, w, mg, none⟩ 3 den_asked) := by
  have G_earlier := ok_earlier (P := P) (w := w) (base := base) T
  refine fn_denG (body := body_asked) T.F_asked sc_asked rfl rfl (by decide) fun cdv A' outer s H E hG hr => ?_
  exact (dss_one (ds_ret (de_lc .g [("at", 3)] sc_asked.nd (di_range1 (by rfl) T.m_range (da_consN (de_callB call_lenG (by rfl) T.m_len (by decide +kernel) (da_consN (de_var 2) da_nil)) da_nil)) (blk_by (N := ["schema", "keepings", "history", "at"]) (sc := defScope s_asked) (by decide +kernel)) (fun _ _ _ _ _ => (dl_one 3 sc_asked.nd)) (fun _ _ _ _ _ => (dts_one (dt_cmp op_isG (de_callG G_earlier hG (hr.mono (by decide)) T.g_earlier T.F_earlier.kp T.b_earlier takes0 (da_consN (de_var 1) (da_consN (de_var 2) (da_consN (de_var 3) da_nil))) (lenA_cons (lenA_cons (lenA_cons lenA_nil)))) de_non))) (fun _ _ _ _ _ => (de_var 3)))))
theorem ok__law_bag (T : Txt K mg A) : FnG P w K mg base 1 A.a__law_bag A.fd__law_bag ["_law_script"] (spD ⟨K, w, mg, none⟩ 1 den__law_bag) := by
  refine fn_denG (body := body__law_bag) T.F__law_bag sc__law_bag rfl rfl (by decide) fun cdv A' outer s H E hG hr => ?_
  exact (dss_one (ds_ret (de_lst .g (da_consN de_int (da_consN de_int (da_consN de_int (da_consN (de_lc .z [("_law_cell", 1)] sc__law_bag.nd (di_val (de_slice (sl_D .z) (de_var 0) do_none (do_some de_int))) (blk_by (N := ["_law_script", "_law_cell"]) (sc := defScope s__law_bag) (by decide +kernel)) (fun _ _ _ _ _ => (dl_one 1 sc__law_bag.nd)) (fun _ _ _ _ _ => dts_nil) (fun _ _ _ _ _ => (de_callB call_absD (by rfl) T.m_abs (by decide +kernel) (da_consN (de_var 1) da_nil)))) da_nil)))))))
theorem ok__law_take (T : Txt K mg A) : FnG P w K mg base 1 A.a__law_take A.fd__law_take ["_law_bag_here", "_law_many"] (spD ⟨K, w, mg, none⟩ 2 den__law_take) := by
  refine fn_denG (body := body__law_take) T.F__law_take sc__law_take rfl rfl (by decide) fun cdv A' outer s H E hG hr => ?_
  exact (dss_cons (ds_if (dt_cmp (op_eqG' (u64 hr)) (de_ix (ix_G (u65 hr)) (de_var 0) de_int) de_int) (dss_cons (ds_set 2 sc__law_take.nd de_int)
      (dss_cons (ds_if (dt_cmp op_ltI (de_ix (ix_G (u65 hr)) (de_var 0) de_int) (de_callB call_lenG (by rfl) T.m_len (by decide +kernel) (da_consN (de_ix (ix_G (u65 hr)) (de_var 0) de_int) da_nil))) (dss_one (ds_set 2 sc__law_take.nd (de_ix (ix_G (u65 hr)) (de_ix (ix_G (u65 hr)) (de_var 0) de_int) (de_ix (ix_G (u65 hr)) (de_var 0) de_int)))) dss_nil)
      (dss_cons (ds_augI ip_addI (de_var 0) de_int de_int)
      (dss_cons (ds_if (dt_cmp op_geI (de_var 2) de_int) (dss_one (ds_asg (de_var 2) (dg_sub (set_G (u65 hr)) (de_var 0) de_int))) dss_nil)
      (dss_cons (ds_set 3 sc__law_take.nd (de_op (op_addD .z) (de_op (op_addD .z) (de_op (op_mulG .z) (de_ix (ix_G (u65 hr)) (de_var 0) de_int) de_int) (de_op op_modI (de_callTy call_intD (by rfl) T.m_int (by decide +kernel) (da_consN (de_var 2) da_nil)) de_int)) (de_op (op_mulG .z) de_int (de_ix (ix_G (u65 hr)) (de_var 0) de_int))))
      (dss_one (ds_asg (de_op op_modI (de_callTy call_intD (by rfl) T.m_int (by decide +kernel) (da_consN (de_var 3) da_nil)) de_int) (dg_sub (set_G (u65 hr)) (de_var 0) de_int)))))))) dss_nil)
      (dss_cons (ds_if (dt_cmp op_gtI (de_ix (ix_G (u65 hr)) (de_var 0) de_int) de_int) (dss_cons (ds_set 4 sc__law_take.nd (de_op op_modI (de_callTy call_intD (by rfl) T.m_int (by decide +kernel) (da_consN (de_ix (ix_G (u65 hr)) (de_var 0) de_int) da_nil)) (de_var 1)))
      (dss_cons (ds_asg (de_op op_fdivI (de_ix (ix_G (u65 hr)) (de_var 0) de_int) (de_var 1)) (dg_sub (set_G (u65 hr)) (de_var 0) de_int))
      (dss_one (ds_ret (de_var 4))))) dss_nil)
      (dss_cons (ds_set 5 sc__law_take.nd (de_op op_modI (de_callTy call_intD (by rfl) T.m_int (by decide +kernel) (da_consN (de_op (op_mulG .z) (de_op (op_addD .z) (de_ix (ix_G (u65 hr)) (de_var 0) de_int) de_int) de_int) da_nil)) de_int))
      (dss_cons (ds_set 6 sc__law_take.nd (de_op op_modI (de_callTy call_intD (by rfl) T.m_int (by decide +kernel) (da_consN (de_op (op_mulG .z) (de_op op_modI (de_callTy call_intD (by rfl) T.m_int (by decide +kernel) (da_consN (de_op (op_mulG .z) (de_var 5) (de_var 5)) da_nil)) de_int) de_int) da_nil)) de_int))
      (dss_cons (ds_if (dt_cmp op_gtI (de_var 1) de_int) (dss_one (ds_ret (de_op op_modI (de_callTy call_intD (by rfl) T.m_int (by decide +kernel) (da_consN (de_op (op_addD .z) (de_op (op_mulG .z) (de_var 6) de_int) (de_var 5)) da_nil)) (de_var 1)))) dss_nil)
      (dss_one (ds_ret (de_op op_modI (de_callTy call_intD (by rfl) T.m_int (by decide +kernel) (da_consN (de_op op_fdivI (de_var 6) de_int) da_nil)) (de_var 1)))))))))
theorem ok__law_alike (T : Txt K mg A) : FnG P w K mg base 1 A.a__law_alike A.fd__law_alike ["_law_found", "_law_due"] (spD ⟨K, w, mg, none⟩ 2 den__law_alike) := by
  refine fn_denG (body := body__law_alike) T.F__law_alike sc__law_alike rfl rfl (by decide) fun cdv A' outer s H E hG hr => ?_
  exact (dss_one (ds_ret (de_andG (de_cmp (op_eqG' (u64 hr)) (de_var 0) (de_var 1)) (de_one (de_cmp (op_eqG' (u64 hr)) (de_callB (call_repr hG (u64 hr)) (by rfl) T.m_repr (by decide +kernel) (da_consN (de_var 0) da_nil)) (de_callB (call_repr hG (u64 hr)) (by rfl) T.m_repr (by decide +kernel) (da_consN (de_var 1) da_nil)))))))
theorem ok__law_draw_labels (T : Txt K mg A) : FnG P w K mg base 2 A.a__law_draw_labels A.fd__law_draw_labels ["_law_bag_here", "_law_many"] (spD ⟨K, w, mg, none⟩ 2 den__law_draw_labels) := by
  have G__law_take := ok__law_take (P := P) (w := w) (base := base) T
  refine fn_denG (body := body__law_draw_labels) T.F__law_draw_labels sc__law_draw_labels rfl rfl (by decide) fun cdv A' outer s H E hG hr => ?_
  exact (dss_cons (ds_set 2 sc__law_draw_labels.nd de_str)
      (dss_cons (ds_set 3 sc__law_draw_labels.nd de_str)
      (dss_cons (ds_asg (de_tup (da_consN (de_callG G__law_take hG (hr.mono (by decide)) T.g__law_take T.F__law_take.kp T.b__law_take (takes_of rfl rfl rfl rfl) (da_consN (de_var 0) (da_consN de_int da_nil)) (lenA_cons (lenA_cons lenA_nil))) (da_consN (de_callG G__law_take hG (hr.mono (by decide)) T.g__law_take T.F__law_take.kp T.b__law_take (takes_of rfl rfl rfl rfl) (da_consN (de_var 0) (da_consN de_int da_nil)) (lenA_cons (lenA_cons lenA_nil))) (da_consN (de_bm PySem.F.plainAttrs_str PySem.F.slot_str_split PySem.F.type_str_split (mt_splitD .z) (de_var 3) (da_consN de_str da_nil)) da_nil)))) (dg_tup (dgs_cons (dg_name 4 sc__law_draw_labels.nd) (dgs_cons (dg_name 5 sc__law_draw_labels.nd) (dgs_cons (dg_name 3 sc__law_draw_labels.nd) dgs_nil)))))
      (dss_cons (ds_set 6 sc__law_draw_labels.nd (de_bm PySem.F.plainAttrs_str PySem.F.slot_str_join PySem.F.type_str_join mt_joinD de_str (da_consN (de_lc .z [("_law_k", 7)] sc__law_draw_labels.nd (di_range1 (by rfl) T.m_range (da_consN (de_callG G__law_take hG (hr.mono (by decide)) T.g__law_take T.F__law_take.kp T.b__law_take (takes_of rfl rfl rfl rfl) (da_consN (de_var 0) (da_consN de_int da_nil)) (lenA_cons (lenA_cons lenA_nil))) da_nil)) (blk_by (N := ["_law_bag_here", "_law_many", "_law_letters", "_law_words", "_law_way", "_law_turn", "_law_base", "_law_k"]) (sc := defScope s__law_draw_labels) (by decide +kernel)) (fun _ _ _ _ _ => (dl_one 7 sc__law_draw_labels.nd)) (fun _ _ _ _ _ => dts_nil) (fun _ _ _ _ _ => (de_ix (ix_G (u65 hr)) (de_var 2) (de_callG G__law_take hG (hr.mono (by decide)) T.g__law_take T.F__law_take.kp T.b__law_take takes0 (da_consN (de_var 0) (da_consN de_int da_nil)) (lenA_cons (lenA_cons lenA_nil)))))) da_nil)))
      (dss_cons (ds_if (dt_cmp (op_eqG' (u64 hr)) (de_var 4) de_int) (dss_one (ds_ret (de_slice (sl_D .z) (de_op (op_addD .z) (de_slice (sl_D .z) (de_var 3) (do_some (de_var 5)) do_none) (de_slice (sl_D .z) (de_var 3) do_none (do_some (de_var 5)))) do_none (do_some (de_var 1))))) dss_nil)
      (dss_one (ds_ret (de_lc .z [("_law_k", 7)] sc__law_draw_labels.nd (di_range1 (by rfl) T.m_range (da_consN (de_var 1) da_nil)) (blk_by (N := ["_law_bag_here", "_law_many", "_law_letters", "_law_words", "_law_way", "_law_turn", "_law_base", "_law_k"]) (sc := defScope s__law_draw_labels) (by decide +kernel)) (fun _ _ _ _ _ => (dl_one 7 sc__law_draw_labels.nd)) (fun _ _ _ _ _ => dts_nil) (fun _ _ _ _ _ => (de_op (op_addD .z) (de_var 6) (de_ix (ix_G (u65 hr)) (de_var 2) (de_op op_modI (de_callTy call_intD (by rfl) T.m_int (by decide +kernel) (da_consN (de_op (op_addD .z) (de_var 5) (de_op (op_mulG .z) de_int (de_var 7))) da_nil)) de_int))))))))))))
theorem ok__law_asks (T : Txt K mg A) : FnG P w K mg base 2 A.a__law_asks A.fd__law_asks ["_law_bag_here", "_law_functions", "_law_many"] (spD ⟨K, w, mg, none⟩ 3 den__law_asks) := by
  have G__law_take := ok__law_take (P := P) (w := w) (base := base) T
  refine fn_denG (body := body__law_asks) T.F__law_asks sc__law_asks rfl rfl (by decide) fun cdv A' outer s H E hG hr => ?_
  exact (dss_cons (ds_par3 3 4 5 sc__law_asks.nd (da_consN (de_callB (call_sortedG .z rfl (u65 hr)) (by rfl) T.m_sorted (by decide +kernel) (da_consN (de_var 1) da_nil)) (da_consN (de_lst .l da_nil) (da_consN (de_callG G__law_take hG (hr.mono (by decide)) T.g__law_take T.F__law_take.kp T.b__law_take (takes_of rfl rfl rfl rfl) (da_consN (de_var 0) (da_consN de_int da_nil)) (lenA_cons (lenA_cons lenA_nil))) da_nil))))
      (dss_cons (ds_for (passes_of rfl) (di_range1 (by rfl) T.m_range (da_consN (de_op (op_addD .z) de_int (de_callG G__law_take hG (hr.mono (by decide)) T.g__law_take T.F__law_take.kp T.b__law_take (takes_of rfl rfl rfl rfl) (da_consN (de_var 0) (da_consN (de_var 2) da_nil)) (lenA_cons (lenA_cons lenA_nil)))) da_nil)) (dg_name 6 sc__law_asks.nd) (dss_cons (ds_set 7 sc__law_asks.nd (de_ix (ix_G (u65 hr)) (de_var 3) (de_callG G__law_take hG (hr.mono (by decide)) T.g__law_take T.F__law_take.kp T.b__law_take (takes_of rfl rfl rfl rfl) (da_consN (de_var 0) (da_consN (de_callB call_lenG (by rfl) T.m_len (by decide +kernel) (da_consN (de_var 3) da_nil)) da_nil)) (lenA_cons (lenA_cons lenA_nil)))))
      (dss_cons (ds_set 8 sc__law_asks.nd (de_callTy call_tupleD (by rfl) T.m_tuple (by decide +kernel) (da_consN (de_lc .z [("_law_one", 9)] sc__law_asks.nd (di_range1 (by rfl) T.m_range (da_consN (de_ix (ix_G (u65 hr)) (de_ix (ix_G (u65 hr)) (de_var 1) (de_var 7)) de_int) da_nil)) (blk_by (N := ["_law_bag_here", "_law_functions", "_law_many", "_law_names", "_law_found", "_law_now", "_law_k", "_law_name", "_law_arguments", "_law_one"]) (sc := defScope s__law_asks) (by decide +kernel)) (fun _ _ _ _ _ => (dl_one 9 sc__law_asks.nd)) (fun _ _ _ _ _ => dts_nil) (fun _ _ _ _ _ => (de_ix (ix_G (u65 hr)) (de_lst .z (da_consN de_int (da_consN de_int (da_consN de_int (da_consN de_int (da_consN de_int (da_consN (de_un un_negI de_int) da_nil))))))) (de_callG G__law_take hG (hr.mono (by decide)) T.g__law_take T.F__law_take.kp T.b__law_take takes0 (da_consN (de_var 0) (da_consN de_int da_nil)) (lenA_cons (lenA_cons lenA_nil)))))) da_nil)))
      (dss_cons (ds_expr (de_bm PySem.F.plainAttrs_list PySem.F.slot_list_append PySem.F.type_list_append mt_appendD (de_var 4) (da_consN (de_tup (da_consN (de_var 5) (da_consN (de_var 7) (da_consN (de_var 8) (da_consN (de_ix (ix_G (u65 hr)) (de_lst .z (da_consN (de_callG G__law_take hG (hr.mono (by decide)) T.g__law_take T.F__law_take.kp T.b__law_take (takes_of rfl rfl rfl rfl) (da_consN (de_var 0) (da_consN de_int da_nil)) (lenA_cons (lenA_cons lenA_nil))) (da_consN (de_op op_powI de_int de_int) (da_consN (de_un un_negI de_int) da_nil)))) (de_op op_fdivI (de_callG G__law_take hG (hr.mono (by decide)) T.g__law_take T.F__law_take.kp T.b__law_take (takes_of rfl rfl rfl rfl) (da_consN (de_var 0) (da_consN de_int da_nil)) (lenA_cons (lenA_cons lenA_nil))) de_int)) da_nil))))) da_nil)))
      (dss_one (ds_set 5 sc__law_asks.nd (de_op (op_addD .z) (de_var 5) (de_op (op_mulG .z) (de_op op_fdivI (de_callG G__law_take hG (hr.mono (by decide)) T.g__law_take T.F__law_take.kp T.b__law_take (takes_of rfl rfl rfl rfl) (da_consN (de_var 0) (da_consN de_int da_nil)) (lenA_cons (lenA_cons lenA_nil))) de_int) (de_op (op_addD .z) de_int (de_callG G__law_take hG (hr.mono (by decide)) T.g__law_take T.F__law_take.kp T.b__law_take (takes_of rfl rfl rfl rfl) (da_consN (de_var 0) (da_consN de_int da_nil)) (lenA_cons (lenA_cons lenA_nil))))))))))))
      (dss_one (ds_frzV 4 (ds_ret (de_var 4))))))
theorem ok__law_drawn (T : Txt K mg A) : FnG P w K mg base 8 A.a__law_drawn A.fd__law_drawn ["_law_bag_here"] (spD ⟨K, w, mg, none⟩ 1 den__law_drawn) := by
  have G_Schema___init__ := ok_Schema___init__ (P := P) (w := w) (base := base) T
  have G__law_draw_labels := ok__law_draw_labels (P := P) (w := w) (base := base) T
  have G__law_take := ok__law_take (P := P) (w := w) (base := base) T
  refine fn_denG (body := body__law_drawn) T.F__law_drawn sc__law_drawn rfl rfl (by decide) fun cdv A' outer s H E hG hr => ?_
  obtain ⟨gk_Schema_2_, hk_Schema_2_⟩ := T.kb_Schema_2_
  exact (dss_cons (ds_asg (de_tup (da_consN (de_callG G__law_draw_labels hG (hr.mono (by decide)) T.g__law_draw_labels T.F__law_draw_labels.kp T.b__law_draw_labels (takes_of rfl rfl rfl rfl) (da_consN (de_var 0) (da_consN de_int da_nil)) (lenA_cons (lenA_cons lenA_nil))) (da_consN (de_lst .z (da_consN de_str (da_consN de_str (da_consN de_str (da_consN de_str da_nil))))) (da_consN (de_dict0 .l) (da_consN (de_dict0 .l) da_nil))))) (dg_tup (dgs_cons (dg_name 1 sc__law_drawn.nd) (dgs_cons (dg_name 2 sc__law_drawn.nd) (dgs_cons (dg_name 3 sc__law_drawn.nd) (dgs_cons (dg_name 4 sc__law_drawn.nd) dgs_nil))))))
      (dss_cons (ds_for (passes_of rfl) (di_val (de_slice (sl_D .z) (de_var 1) do_none (do_some (de_op (op_addD .z) de_int (de_callG G__law_take hG (hr.mono (by decide)) T.g__law_take T.F__law_take.kp T.b__law_take (takes_of rfl rfl rfl rfl) (da_consN (de_var 0) (da_consN de_int da_nil)) (lenA_cons (lenA_cons lenA_nil))))))) (dg_name 5 sc__law_drawn.nd) (dss_cons (ds_asg (de_tup (da_consN (de_callG G__law_take hG (hr.mono (by decide)) T.g__law_take T.F__law_take.kp T.b__law_take (takes_of rfl rfl rfl rfl) (da_consN (de_var 0) (da_consN de_int da_nil)) (lenA_cons (lenA_cons lenA_nil))) (da_consN (de_ix (ix_G (u65 hr)) (de_var 2) (de_callG G__law_take hG (hr.mono (by decide)) T.g__law_take T.F__law_take.kp T.b__law_take (takes_of rfl rfl rfl rfl) (da_consN (de_var 0) (da_consN de_int da_nil)) (lenA_cons (lenA_cons lenA_nil)))) da_nil))) (dg_sub (set_G (u65 hr)) (de_var 3) (de_var 5)))
      (dss_cons (ds_set 6 sc__law_drawn.nd (de_ix (ix_G (u65 hr)) (de_lst .z (da_consN de_str (da_consN de_str (da_consN de_str (da_consN de_non da_nil))))) (de_callG G__law_take hG (hr.mono (by decide)) T.g__law_take T.F__law_take.kp T.b__law_take (takes_of rfl rfl rfl rfl) (da_consN (de_var 0) (da_consN de_int da_nil)) (lenA_cons (lenA_cons lenA_nil)))))
      (dss_one (ds_if (dt_cmp op_isNotG (de_var 6) de_non) (dss_one (ds_asg (de_var 6) (dg_sub (set_G (u65 hr)) (de_var 4) (de_var 5)))) dss_nil)))))
      (dss_one (ds_frzV 4 (ds_frzV 3 (ds_ret (de_tup (da_consN (de_var 3) (da_consN (de_make (ks := []) T.mk_Schema G_Schema___init__ hG (hr.mono (by decide)) T.g_Schema hk_Schema_2_ (arr_Schema_2_ T) np_Schema_2_ (takes_of rfl rfl rfl rfl) (da_consN (de_dict0 .z) (da_consN (de_var 3) da_nil)) dk_nil) (da_consN (de_var 4) da_nil))))))))))
theorem ok__law_store (T : Txt K mg A) : FnG P w K mg base 1 A.a__law_store A.fd__law_store ["_law_keepings", "_law_history"] (spD ⟨K, w, mg, none⟩ 2 den__law_store) := by
  refine fn_denG (body := body__law_store) T.F__law_store sc__law_store rfl rfl (by decide) fun cdv A' outer s H E hG hr => ?_
  exact (dss_cons (ds_par3 2 3 4 sc__law_store.nd (da_consN (de_lst .l da_nil) (da_consN (de_lst .l da_nil) (da_consN (de_dict0 .l) da_nil))))
      (dss_cons (ds_for (passes_of rfl) (di_range1 (by rfl) T.m_range (da_consN (de_callB call_lenG (by rfl) T.m_len (by decide +kernel) (da_consN (de_var 1) da_nil)) da_nil)) (dg_name 5 sc__law_store.nd) (dss_cons (ds_asg (de_ix (ix_G (u65 hr)) (de_var 1) (de_var 5)) (dg_tup (dgs_cons (dg_name 6 sc__law_store.nd) (dgs_cons (dg_name 7 sc__law_store.nd) (dgs_cons (dg_name 8 sc__law_store.nd) (dgs_cons (dg_name 9 sc__law_store.nd) dgs_nil))))))
      (dss_cons (ds_set 10 sc__law_store.nd (de_dm F.slot_dict_get F.type_dict_get (mt_getD (u65 hr)) (de_var 0) (da_consN (de_var 7) (da_consN de_str da_nil))))
      (dss_cons (ds_set 11 sc__law_store.nd (de_tup (da_consN (de_var 7) (da_consN (de_var 8) (da_consN (de_if (dt_cmp (op_eqG' (u64 hr)) (de_var 10) de_str) (de_var 6) de_non) da_nil)))))
      (dss_one (ds_if (DW.dt (dw_or (dt_cmp (op_eqG' (u64 hr)) (de_var 10) de_str) (dw_or1 (dt_cmp (op_notInG (u65 hr)) (de_var 11) (de_var 4))))) (dss_cons (ds_expr (de_bm PySem.F.plainAttrs_list PySem.F.slot_list_append PySem.F.type_list_append mt_appendD (de_var 3) (da_consN (de_var 5) da_nil)))
      (dss_cons (ds_asg (de_var 9) (dg_sub (set_G (u65 hr)) (de_var 4) (de_var 11)))
      (dss_one (ds_expr (de_bm PySem.F.plainAttrs_list PySem.F.slot_list_append PySem.F.type_list_append mt_appendD (de_var 2) (da_consN (de_var 9) da_nil)))))) (dss_one (ds_expr (de_bm PySem.F.plainAttrs_list PySem.F.slot_list_append PySem.F.type_list_append mt_appendD (de_var 2) (da_consN (de_ix (ix_G (u65 hr)) (de_var 4) (de_var 11)) da_nil))))))))))
      (dss_one (ds_frzV 3 (ds_frzV 2 (ds_ret (de_tup (da_consN (de_var 2) (da_consN (de_var 3) da_nil)))))))))
theorem ok_law (T : Txt K mg A) : FnG P w K mg base 9 A.a_law A.fd_law ["_law_script"] (spD ⟨K, w, mg, none⟩ 1 den_law) := by
  have G__law_alike := ok__law_alike (P := P) (w := w) (base := base) T
  have G__law_asks := ok__law_asks (P := P) (w := w) (base := base) T
  have G__law_bag := ok__law_bag (P := P) (w := w) (base := base) T
  have G__law_drawn := ok__law_drawn (P := P) (w := w) (base := base) T
  have G__law_store := ok__law_store (P := P) (w := w) (base := base) T
  have G_asked := ok_asked (P := P) (w := w) (base := base) T
  have G_told := ok_told (P := P) (w := w) (base := base) T
  refine fn_denG (body := body_law) T.F_law sc_law rfl rfl (by decide) fun cdv A' outer s H E hG hr => ?_
  exact (dss_cons (ds_set 1 sc_law.nd (de_callG G__law_bag hG (hr.mono (by decide)) T.g__law_bag T.F__law_bag.kp T.b__law_bag (takes_of rfl rfl rfl rfl) (da_consN (de_var 0) da_nil) (lenA_cons lenA_nil)))
      (dss_cons (ds_setLc .z 2 [("_law_k", 13)] sc_law.nd (di_range1 (by rfl) T.m_range (da_consN de_int da_nil)) (blk_by (N := ["_law_script", "_law_bag_here", "_law_several", "_law_histories", "_law_at", "_law_functions", "_law_schema", "_law_keepings", "_law_history", "_law_due", "_law_shown", "_law_again", "_law_found", "_law_k", "_law_one"]) (sc := defScope s_law) (by decide +kernel)) (fun _ _ _ _ _ => (dl_one 13 sc_law.nd)) (fun _ _ _ _ _ => dts_nil) (fun _ _ _ _ _ => (de_callG G__law_drawn hG (hr.mono (by decide)) T.g__law_drawn T.F__law_drawn.kp T.b__law_drawn takes0 (da_consN (de_var 1) da_nil) (lenA_cons lenA_nil))) (sw_true rfl rfl rfl (by decide +kernel)))
      (dss_cons (ds_setLc .z 3 [("_law_one", 14)] sc_law.nd (di_val (de_var 2)) (blk_by (N := ["_law_script", "_law_bag_here", "_law_several", "_law_histories", "_law_at", "_law_functions", "_law_schema", "_law_keepings", "_law_history", "_law_due", "_law_shown", "_law_again", "_law_found", "_law_k", "_law_one"]) (sc := defScope s_law) (by decide +kernel)) (fun _ _ _ _ _ => (dl_one 14 sc_law.nd)) (fun _ _ _ _ _ => dts_nil) (fun _ _ _ _ _ => (de_callG G__law_asks hG (hr.mono (by decide)) T.g__law_asks T.F__law_asks.kp T.b__law_asks takes0 (da_consN (de_var 1) (da_consN (de_ix (ix_G (u65 hr)) (de_var 14) de_int) (da_consN de_int da_nil))) (lenA_cons (lenA_cons (lenA_cons lenA_nil))))) (sw_true rfl rfl rfl (by decide +kernel)))
      (dss_cons (ds_for (passes_of rfl) (di_val (de_tup (da_consN de_int (da_consN de_int (da_consN de_int da_nil))))) (dg_name 4 sc_law.nd) (dss_cons (ds_asg (de_ix (ix_G (u65 hr)) (de_var 2) (de_var 4)) (dg_tup (dgs_cons (dg_name 5 sc_law.nd) (dgs_cons (dg_name 6 sc_law.nd) (dgs_cons (dg_name 7 sc_law.nd) dgs_nil)))))
      (dss_cons (ds_par 8 9 sc_law.nd (da_consN (de_ix (ix_G (u65 hr)) (de_var 3) (de_var 4)) (da_consN (de_callG G__law_store hG (hr.mono (by decide)) T.g__law_store T.F__law_store.kp T.b__law_store (takes_of rfl rfl rfl rfl) (da_consN (de_ix (ix_G (u65 hr)) (de_ix (ix_G (u65 hr)) (de_var 2) (de_var 4)) de_int) (da_consN (de_ix (ix_G (u65 hr)) (de_var 3) (de_var 4)) da_nil)) (lenA_cons (lenA_cons lenA_nil))) da_nil)))
      (dss_cons (ds_set 10 sc_law.nd (de_callB (call_repr hG (u64 hr)) (by rfl) T.m_repr (by decide +kernel) (da_consN (de_lst .z (da_consN (de_var 7) (da_consN (de_var 8) da_nil))) da_nil)))
      (dss_one (ds_for (passes_of rfl) (di_range1 (by rfl) T.m_range (da_consN de_int da_nil)) (dg_name 11 sc_law.nd) (dss_cons (ds_set 12 sc_law.nd (de_lst .z (da_consN (de_callG G_told hG (hr.mono (by decide)) T.g_told T.F_told.kp T.b_told (takes_of rfl rfl rfl rfl) (da_consN (de_var 6) (da_consN (de_var 7) (da_consN (de_var 8) da_nil))) (lenA_cons (lenA_cons (lenA_cons lenA_nil)))) (da_consN (de_callG G_asked hG (hr.mono (by decide)) T.g_asked T.F_asked.kp T.b_asked (takes_of rfl rfl rfl rfl) (da_consN (de_var 6) (da_consN (de_var 7) (da_consN (de_var 8) da_nil))) (lenA_cons (lenA_cons (lenA_cons lenA_nil)))) da_nil))))
      (dss_cons (ds_if (DW.dt (dw_or (dt_not (dt_tv (de_callG G__law_alike hG (hr.mono (by decide)) T.g__law_alike T.F__law_alike.kp T.b__law_alike (takes_of rfl rfl rfl rfl) (da_consN (de_var 12) (da_consN (de_lst .z (da_consN (de_ix (ix_G (u65 hr)) (de_var 9) de_int) (da_consN (de_ix (ix_G (u65 hr)) (de_var 9) de_int) da_nil))) da_nil)) (lenA_cons (lenA_cons lenA_nil))))) (dw_or1 (dt_cmp (op_neG' (u64 hr)) (de_callB (call_repr hG (u64 hr)) (by rfl) T.m_repr (by decide +kernel) (da_consN (de_lst .z (da_consN (de_var 7) (da_consN (de_var 8) da_nil))) da_nil)) (de_var 10))))) (dss_one (ds_ret de_bl)) dss_nil)
      (dss_cons (ds_expr (de_bm PySem.F.plainAttrs_list PySem.F.slot_list_append PySem.F.type_list_append mt_appendD (de_ix (ix_G (u65 hr)) (de_var 12) de_int) (da_consN de_non da_nil)))
      (dss_one (ds_expr (de_bm0 PySem.F.plainAttrs_list PySem.F.slot_list_clear PySem.F.type_list_clear mt_clearL (de_ix (ix_G (u65 hr)) (de_var 12) de_int)))))))))))))
      (dss_one (ds_ret de_bl))))))
end
theorem all_mk {l : PySem.W.OpenLaw} {w : World} {K : PySem.W.Frag} {h : Heap} {mg : Str → Option Value} {fa : Addr} (X : K.In h) (G : h.Ns mainGlobals mg) (hfa : mg "law" = some (.ref fa))
    {f_is_integer : Addr} {od_is_integer an_is_integer : Option Addr} {sl_is_integer : Array (Option Value)} {oc_is_integer kV_is_integer dc_is_integer pm_is_integer cd_is_integer ct_is_integer : Value}
    {f_is_name : Addr} {od_is_name an_is_name : Option Addr} {sl_is_name : Array (Option Value)} {oc_is_name kV_is_name dc_is_name pm_is_name cd_is_name ct_is_name : Value}
    {f_is_kind : Addr} {od_is_kind an_is_kind : Option Addr} {sl_is_kind : Array (Option Value)} {oc_is_kind kV_is_kind dc_is_kind pm_is_kind cd_is_kind ct_is_kind : Value}
    {f_is_reference : Addr} {od_is_reference an_is_reference : Option Addr} {sl_is_reference : Array (Option Value)} {oc_is_reference kV_is_reference dc_is_reference pm_is_reference cd_is_reference ct_is_reference : Value}
    {f_is_made : Addr} {od_is_made an_is_made : Option Addr} {sl_is_made : Array (Option Value)} {oc_is_made kV_is_made dc_is_made pm_is_made cd_is_made ct_is_made : Value}
    {f_is_list_of : Addr} {od_is_list_of an_is_list_of : Option Addr} {sl_is_list_of : Array (Option Value)} {oc_is_list_of kV_is_list_of dc_is_list_of pm_is_list_of cd_is_list_of ct_is_list_of : Value}
    {f_are_columns : Addr} {od_are_columns an_are_columns : Option Addr} {sl_are_columns : Array (Option Value)} {oc_are_columns kV_are_columns dc_are_columns pm_are_columns cd_are_columns ct_are_columns : Value}
    {f_is_shape : Addr} {od_is_shape an_is_shape : Option Addr} {sl_is_shape : Array (Option Value)} {oc_is_shape kV_is_shape dc_is_shape pm_is_shape cd_is_shape ct_is_shape : Value}
    {f_is_dict_of : Addr} {od_is_dict_of an_is_dict_of : Option Addr} {sl_is_dict_of : Array (Option Value)} {oc_is_dict_of kV_is_dict_of dc_is_dict_of pm_is_dict_of cd_is_dict_of ct_is_dict_of : Value}
    {f_is_dict_of_names : Addr} {od_is_dict_of_names an_is_dict_of_names : Option Addr} {sl_is_dict_of_names : Array (Option Value)} {oc_is_dict_of_names kV_is_dict_of_names dc_is_dict_of_names pm_is_dict_of_names cd_is_dict_of_names ct_is_dict_of_names : Value}
    {f_Schema_made_of : Addr} {od_Schema_made_of an_Schema_made_of : Option Addr} {sl_Schema_made_of : Array (Option Value)} {oc_Schema_made_of kV_Schema_made_of dc_Schema_made_of pm_Schema_made_of cd_Schema_made_of ct_Schema_made_of : Value}
    {f_Schema_check_keys : Addr} {od_Schema_check_keys an_Schema_check_keys : Option Addr} {sl_Schema_check_keys : Array (Option Value)} {oc_Schema_check_keys kV_Schema_check_keys dc_Schema_check_keys pm_Schema_check_keys cd_Schema_check_keys ct_Schema_check_keys : Value}
    {f_Schema_checked_references : Addr} {od_Schema_checked_references an_Schema_checked_references : Option Addr} {sl_Schema_checked_references : Array (Option Value)} {oc_Schema_checked_references kV_Schema_checked_references dc_Schema_checked_references pm_Schema_checked_references cd_Schema_checked_references ct_Schema_checked_references : Value}
    {f_Schema_checked_made : Addr} {od_Schema_checked_made an_Schema_checked_made : Option Addr} {sl_Schema_checked_made : Array (Option Value)} {oc_Schema_checked_made kV_Schema_checked_made dc_Schema_checked_made pm_Schema_checked_made cd_Schema_checked_made ct_Schema_checked_made : Value}
    {f_Schema_check_rings : Addr} {od_Schema_check_rings an_Schema_check_rings : Option Addr} {sl_Schema_check_rings : Array (Option Value)} {oc_Schema_check_rings kV_Schema_check_rings dc_Schema_check_rings pm_Schema_check_rings cd_Schema_check_rings ct_Schema_check_rings : Value}
    {f_Schema___init__ : Addr} {od_Schema___init__ an_Schema___init__ : Option Addr} {sl_Schema___init__ : Array (Option Value)} {oc_Schema___init__ kV_Schema___init__ dc_Schema___init__ pm_Schema___init__ cd_Schema___init__ ct_Schema___init__ : Value}
    {kD_Schema___init__ : Addr} {ku_Schema___init___keys : Value} {ku_Schema___init___references : Value} {ku_Schema___init___made : Value}
    {f_earlier : Addr} {od_earlier an_earlier : Option Addr} {sl_earlier : Array (Option Value)} {oc_earlier kV_earlier dc_earlier pm_earlier cd_earlier ct_earlier : Value}
    {f_told : Addr} {od_told an_told : Option Addr} {sl_told : Array (Option Value)} {oc_told kV_told dc_told pm_told cd_told ct_told : Value}
    {f_asked : Addr} {od_asked an_asked : Option Addr} {sl_asked : Array (Option Value)} {oc_asked kV_asked dc_asked pm_asked cd_asked ct_asked : Value}
    {f__law_bag : Addr} {od__law_bag an__law_bag : Option Addr} {sl__law_bag : Array (Option Value)} {oc__law_bag kV__law_bag dc__law_bag pm__law_bag cd__law_bag ct__law_bag : Value}
    {f__law_take : Addr} {od__law_take an__law_take : Option Addr} {sl__law_take : Array (Option Value)} {oc__law_take kV__law_take dc__law_take pm__law_take cd__law_take ct__law_take : Value}
    {f__law_alike : Addr} {od__law_alike an__law_alike : Option Addr} {sl__law_alike : Array (Option Value)} {oc__law_alike kV__law_alike dc__law_alike pm__law_alike cd__law_alike ct__law_alike : Value}
    {f__law_draw_labels : Addr} {od__law_draw_labels an__law_draw_labels : Option Addr} {sl__law_draw_labels : Array (Option Value)} {oc__law_draw_labels kV__law_draw_labels dc__law_draw_labels pm__law_draw_labels cd__law_draw_labels ct__law_draw_labels : Value}
    {f__law_asks : Addr} {od__law_asks an__law_asks : Option Addr} {sl__law_asks : Array (Option Value)} {oc__law_asks kV__law_asks dc__law_asks pm__law_asks cd__law_asks ct__law_asks : Value}
    {f__law_drawn : Addr} {od__law_drawn an__law_drawn : Option Addr} {sl__law_drawn : Array (Option Value)} {oc__law_drawn kV__law_drawn dc__law_drawn pm__law_drawn cd__law_drawn ct__law_drawn : Value}
    {f__law_store : Addr} {od__law_store an__law_store : Option Addr} {sl__law_store : Array (Option Value)} {oc__law_store kV__law_store dc__law_store pm__law_store cd__law_store ct__law_store : Value}
    {f_law : Addr} {od_law an_law : Option Addr} {sl_law : Array (Option Value)} {oc_law kV_law dc_law pm_law cd_law ct_law : Value}
    {e_references : Addr} {ne_references : Nat} {le_references : Array (Option Value)}
    {e_made : Addr} {ne_made : Nat} {le_made : Array (Option Value)}
    {c_PlanError : Addr}
    {c_Wrong : Addr}
    {c_BadKey : Addr}
    {c_BadReference : Addr}
    {c_BadMade : Addr}
    {c_Ringed : Addr}
    {c_Schema : Addr}
    {nm_Wrong q_Wrong : Str} {N_Wrong : Addr} {bs_Wrong bm_Wrong : List Value} {sn_Wrong : List Str} {sub_Wrong : List Value} {ab_Wrong : Bool} {col_Wrong : Option Bool} {dd_Wrong : Option Addr} {m0_Wrong m1_Wrong m2_Wrong m3_Wrong m5_Wrong : Option Value}
    {nm_BadKey q_BadKey : Str} {N_BadKey : Addr} {bs_BadKey bm_BadKey : List Value} {sn_BadKey : List Str} {sub_BadKey : List Value} {ab_BadKey : Bool} {col_BadKey : Option Bool} {dd_BadKey : Option Addr} {m0_BadKey m1_BadKey m2_BadKey m3_BadKey m5_BadKey : Option Value}
    {nm_BadReference q_BadReference : Str} {N_BadReference : Addr} {bs_BadReference bm_BadReference : List Value} {sn_BadReference : List Str} {sub_BadReference : List Value} {ab_BadReference : Bool} {col_BadReference : Option Bool} {dd_BadReference : Option Addr} {m0_BadReference m1_BadReference m2_BadReference m3_BadReference m5_BadReference : Option Value}
    {nm_BadMade q_BadMade : Str} {N_BadMade : Addr} {bs_BadMade bm_BadMade : List Value} {sn_BadMade : List Str} {sub_BadMade : List Value} {ab_BadMade : Bool} {col_BadMade : Option Bool} {dd_BadMade : Option Addr} {m0_BadMade m1_BadMade m2_BadMade m3_BadMade m5_BadMade : Option Value}
    {nm_Ringed q_Ringed : Str} {N_Ringed : Addr} {bs_Ringed bm_Ringed : List Value} {sn_Ringed : List Str} {sub_Ringed : List Value} {ab_Ringed : Bool} {col_Ringed : Option Bool} {dd_Ringed : Option Addr} {m0_Ringed m1_Ringed m2_Ringed m3_Ringed m5_Ringed : Option Value}
    {xf_BadKey : Addr} {xo_BadKey xa_BadKey : Option Addr} {xs_BadKey : Array (Option Value)} {xv_BadKey xk_BadKey xdc_BadKey xp_BadKey xcd_BadKey xct_BadKey : Value}
    {xf_BadMade : Addr} {xo_BadMade xa_BadMade : Option Addr} {xs_BadMade : Array (Option Value)} {xv_BadMade xk_BadMade xdc_BadMade xp_BadMade xcd_BadMade xct_BadMade : Value}
    {xf_BadReference : Addr} {xo_BadReference xa_BadReference : Option Addr} {xs_BadReference : Array (Option Value)} {xv_BadReference xk_BadReference xdc_BadReference xp_BadReference xcd_BadReference xct_BadReference : Value}
    {xf_Ringed : Addr} {xo_Ringed xa_Ringed : Option Addr} {xs_Ringed : Array (Option Value)} {xv_Ringed xk_Ringed xdc_Ringed xp_Ringed xcd_Ringed xct_Ringed : Value}
    {xf_Wrong : Addr} {xo_Wrong xa_Wrong : Option Addr} {xs_Wrong : Array (Option Value)} {xv_Wrong xk_Wrong xdc_Wrong xp_Wrong xcd_Wrong xct_Wrong : Value}
    {tk_MOST_ARGUMENTS : Tok}
    {tk_MOST_NAMES : Tok}
    {tk_MOST_COLUMNS : Tok}
    {tk_LONGEST_NAME : Tok}
    {tk_LETTERS : Tok}
    {t_KINDS : Addr} {i_KINDS : Array Value} {n_KINDS : Nat} {l_KINDS : Array (Option Value)}
    (p1_is_integer : PySem.W.nsIn K mainGlobals "is_integer" = some (some (.ref f_is_integer)))
    (p2_is_integer : K.lookup f_is_integer = some ⟨oc_is_integer, od_is_integer, .func (PySem.W.fnOf "is_integer" "is_integer" (defArgs s_is_integer) (defBody s_is_integer) (defScope s_is_integer) .none kV_is_integer dc_is_integer pm_is_integer an_is_integer cd_is_integer ct_is_integer), sl_is_integer⟩)
    (p3_is_integer : PySem.W.codeIn K cd_is_integer "is_integer" = true)
    (p4_is_integer : PySem.W.keepIn K (.ref f_is_integer) = true)
    (p1_is_name : PySem.W.nsIn K mainGlobals "is_name" = some (some (.ref f_is_name)))
    (p2_is_name : K.lookup f_is_name = some ⟨oc_is_name, od_is_name, .func (PySem.W.fnOf "is_name" "is_name" (defArgs s_is_name) (defBody s_is_name) (defScope s_is_name) .none kV_is_name dc_is_name pm_is_name an_is_name cd_is_name ct_is_name), sl_is_name⟩)
    (p3_is_name : PySem.W.codeIn K cd_is_name "is_name" = true)
    (p4_is_name : PySem.W.keepIn K (.ref f_is_name) = true)
    (p1_is_kind : PySem.W.nsIn K mainGlobals "is_kind" = some (some (.ref f_is_kind)))
    (p2_is_kind : K.lookup f_is_kind = some ⟨oc_is_kind, od_is_kind, .func (PySem.W.fnOf "is_kind" "is_kind" (defArgs s_is_kind) (defBody s_is_kind) (defScope s_is_kind) .none kV_is_kind dc_is_kind pm_is_kind an_is_kind cd_is_kind ct_is_kind), sl_is_kind⟩)
    (p3_is_kind : PySem.W.codeIn K cd_is_kind "is_kind" = true)
    (p4_is_kind : PySem.W.keepIn K (.ref f_is_kind) = true)
    (p1_is_reference : PySem.W.nsIn K mainGlobals "is_reference" = some (some (.ref f_is_reference)))
    (p2_is_reference : K.lookup f_is_reference = some ⟨oc_is_reference, od_is_reference, .func (PySem.W.fnOf "is_reference" "is_reference" (defArgs s_is_reference) (defBody s_is_reference) (defScope s_is_reference) .none kV_is_reference dc_is_reference pm_is_reference an_is_reference cd_is_reference ct_is_reference), sl_is_reference⟩)
    (p3_is_reference : PySem.W.codeIn K cd_is_reference "is_reference" = true)
    (p4_is_reference : PySem.W.keepIn K (.ref f_is_reference) = true)
    (p1_is_made : PySem.W.nsIn K mainGlobals "is_made" = some (some (.ref f_is_made)))
    (p2_is_made : K.lookup f_is_made = some ⟨oc_is_made, od_is_made, .func (PySem.W.fnOf "is_made" "is_made" (defArgs s_is_made) (defBody s_is_made) (defScope s_is_made) .none kV_is_made dc_is_made pm_is_made an_is_made cd_is_made ct_is_made), sl_is_made⟩)
    (p3_is_made : PySem.W.codeIn K cd_is_made "is_made" = true)
    (p4_is_made : PySem.W.keepIn K (.ref f_is_made) = true)
    (p1_is_list_of : PySem.W.nsIn K mainGlobals "is_list_of" = some (some (.ref f_is_list_of)))
    (p2_is_list_of : K.lookup f_is_list_of = some ⟨oc_is_list_of, od_is_list_of, .func (PySem.W.fnOf "is_list_of" "is_list_of" (defArgs s_is_list_of) (defBody s_is_list_of) (defScope s_is_list_of) .none kV_is_list_of dc_is_list_of pm_is_list_of an_is_list_of cd_is_list_of ct_is_list_of), sl_is_list_of⟩)
    (p3_is_list_of : PySem.W.codeIn K cd_is_list_of "is_list_of" = true)
    (p4_is_list_of : PySem.W.keepIn K (.ref f_is_list_of) = true)
    (p1_are_columns : PySem.W.nsIn K mainGlobals "are_columns" = some (some (.ref f_are_columns)))
    (p2_are_columns : K.lookup f_are_columns = some ⟨oc_are_columns, od_are_columns, .func (PySem.W.fnOf "are_columns" "are_columns" (defArgs s_are_columns) (defBody s_are_columns) (defScope s_are_columns) .none kV_are_columns dc_are_columns pm_are_columns an_are_columns cd_are_columns ct_are_columns), sl_are_columns⟩)
    (p3_are_columns : PySem.W.codeIn K cd_are_columns "are_columns" = true)
    (p4_are_columns : PySem.W.keepIn K (.ref f_are_columns) = true)
    (p1_is_shape : PySem.W.nsIn K mainGlobals "is_shape" = some (some (.ref f_is_shape)))
    (p2_is_shape : K.lookup f_is_shape = some ⟨oc_is_shape, od_is_shape, .func (PySem.W.fnOf "is_shape" "is_shape" (defArgs s_is_shape) (defBody s_is_shape) (defScope s_is_shape) .none kV_is_shape dc_is_shape pm_is_shape an_is_shape cd_is_shape ct_is_shape), sl_is_shape⟩)
    (p3_is_shape : PySem.W.codeIn K cd_is_shape "is_shape" = true)
    (p4_is_shape : PySem.W.keepIn K (.ref f_is_shape) = true)
    (p1_is_dict_of : PySem.W.nsIn K mainGlobals "is_dict_of" = some (some (.ref f_is_dict_of)))
    (p2_is_dict_of : K.lookup f_is_dict_of = some ⟨oc_is_dict_of, od_is_dict_of, .func (PySem.W.fnOf "is_dict_of" "is_dict_of" (defArgs s_is_dict_of) (defBody s_is_dict_of) (defScope s_is_dict_of) .none kV_is_dict_of dc_is_dict_of pm_is_dict_of an_is_dict_of cd_is_dict_of ct_is_dict_of), sl_is_dict_of⟩)
    (p3_is_dict_of : PySem.W.codeIn K cd_is_dict_of "is_dict_of" = true)
    (p4_is_dict_of : PySem.W.keepIn K (.ref f_is_dict_of) = true)
    (p1_is_dict_of_names : PySem.W.nsIn K mainGlobals "is_dict_of_names" = some (some (.ref f_is_dict_of_names)))
    (p2_is_dict_of_names : K.lookup f_is_dict_of_names = some ⟨oc_is_dict_of_names, od_is_dict_of_names, .func (PySem.W.fnOf "is_dict_of_names" "is_dict_of_names" (defArgs s_is_dict_of_names) (defBody s_is_dict_of_names) (defScope s_is_dict_of_names) .none kV_is_dict_of_names dc_is_dict_of_names pm_is_dict_of_names an_is_dict_of_names cd_is_dict_of_names ct_is_dict_of_names), sl_is_dict_of_names⟩)
    (p3_is_dict_of_names : PySem.W.codeIn K cd_is_dict_of_names "is_dict_of_names" = true)
    (p4_is_dict_of_names : PySem.W.keepIn K (.ref f_is_dict_of_names) = true)
    (p1_Schema_made_of : PySem.W.findIn K (.ref c_Schema) "made_of" = some (some (.ref f_Schema_made_of)))
    (mi_Schema_made_of : PySem.W.isFn K (.ref f_Schema_made_of) = true)
    (p2_Schema_made_of : K.lookup f_Schema_made_of = some ⟨oc_Schema_made_of, od_Schema_made_of, .func (PySem.W.fnOf "made_of" "Schema.made_of" (defArgs s_Schema_made_of) (defBody s_Schema_made_of) (defScope s_Schema_made_of) .none kV_Schema_made_of dc_Schema_made_of pm_Schema_made_of an_Schema_made_of cd_Schema_made_of ct_Schema_made_of), sl_Schema_made_of⟩)
    (p3_Schema_made_of : PySem.W.codeIn K cd_Schema_made_of "Schema.made_of" = true)
    (p4_Schema_made_of : PySem.W.keepIn K (.ref f_Schema_made_of) = true)
    (p1_Schema_check_keys : PySem.W.findIn K (.ref c_Schema) "check_keys" = some (some (.ref f_Schema_check_keys)))
    (mi_Schema_check_keys : PySem.W.isFn K (.ref f_Schema_check_keys) = true)
    (p2_Schema_check_keys : K.lookup f_Schema_check_keys = some ⟨oc_Schema_check_keys, od_Schema_check_keys, .func (PySem.W.fnOf "check_keys" "Schema.check_keys" (defArgs s_Schema_check_keys) (defBody s_Schema_check_keys) (defScope s_Schema_check_keys) .none kV_Schema_check_keys dc_Schema_check_keys pm_Schema_check_keys an_Schema_check_keys cd_Schema_check_keys ct_Schema_check_keys), sl_Schema_check_keys⟩)
    (p3_Schema_check_keys : PySem.W.codeIn K cd_Schema_check_keys "Schema.check_keys" = true)
    (p4_Schema_check_keys : PySem.W.keepIn K (.ref f_Schema_check_keys) = true)
    (p1_Schema_checked_references : PySem.W.findIn K (.ref c_Schema) "checked_references" = some (some (.ref f_Schema_checked_references)))
    (mi_Schema_checked_references : PySem.W.isFn K (.ref f_Schema_checked_references) = true)
    (p2_Schema_checked_references : K.lookup f_Schema_checked_references = some ⟨oc_Schema_checked_references, od_Schema_checked_references, .func (PySem.W.fnOf "checked_references" "Schema.checked_references" (defArgs s_Schema_checked_references) (defBody s_Schema_checked_references) (defScope s_Schema_checked_references) .none kV_Schema_checked_references dc_Schema_checked_references pm_Schema_checked_references an_Schema_checked_references cd_Schema_checked_references ct_Schema_checked_references), sl_Schema_checked_references⟩)
    (p3_Schema_checked_references : PySem.W.codeIn K cd_Schema_checked_references "Schema.checked_references" = true)
    (p4_Schema_checked_references : PySem.W.keepIn K (.ref f_Schema_checked_references) = true)
    (p1_Schema_checked_made : PySem.W.findIn K (.ref c_Schema) "checked_made" = some (some (.ref f_Schema_checked_made)))
    (mi_Schema_checked_made : PySem.W.isFn K (.ref f_Schema_checked_made) = true)
    (p2_Schema_checked_made : K.lookup f_Schema_checked_made = some ⟨oc_Schema_checked_made, od_Schema_checked_made, .func (PySem.W.fnOf "checked_made" "Schema.checked_made" (defArgs s_Schema_checked_made) (defBody s_Schema_checked_made) (defScope s_Schema_checked_made) .none kV_Schema_checked_made dc_Schema_checked_made pm_Schema_checked_made an_Schema_checked_made cd_Schema_checked_made ct_Schema_checked_made), sl_Schema_checked_made⟩)
    (p3_Schema_checked_made : PySem.W.codeIn K cd_Schema_checked_made "Schema.checked_made" = true)
    (p4_Schema_checked_made : PySem.W.keepIn K (.ref f_Schema_checked_made) = true)
    (p1_Schema_check_rings : PySem.W.findIn K (.ref c_Schema) "check_rings" = some (some (.ref f_Schema_check_rings)))
    (mi_Schema_check_rings : PySem.W.isFn K (.ref f_Schema_check_rings) = true)
    (p2_Schema_check_rings : K.lookup f_Schema_check_rings = some ⟨oc_Schema_check_rings, od_Schema_check_rings, .func (PySem.W.fnOf "check_rings" "Schema.check_rings" (defArgs s_Schema_check_rings) (defBody s_Schema_check_rings) (defScope s_Schema_check_rings) .none kV_Schema_check_rings dc_Schema_check_rings pm_Schema_check_rings an_Schema_check_rings cd_Schema_check_rings ct_Schema_check_rings), sl_Schema_check_rings⟩)
    (p3_Schema_check_rings : PySem.W.codeIn K cd_Schema_check_rings "Schema.check_rings" = true)
    (p4_Schema_check_rings : PySem.W.keepIn K (.ref f_Schema_check_rings) = true)
    (p1_Schema___init__ : PySem.W.findIn K (.ref c_Schema) "__init__" = some (some (.ref f_Schema___init__)))
    (p2_Schema___init__ : K.lookup f_Schema___init__ = some ⟨oc_Schema___init__, od_Schema___init__, .func (PySem.W.fnOf "__init__" "Schema.__init__" (defArgs s_Schema___init__) (defBody s_Schema___init__) (defScope s_Schema___init__) .none (.ref kD_Schema___init__) dc_Schema___init__ pm_Schema___init__ an_Schema___init__ cd_Schema___init__ ct_Schema___init__), sl_Schema___init__⟩)
    (p3_Schema___init__ : PySem.W.codeIn K cd_Schema___init__ "Schema.__init__" = true)
    (p4_Schema___init__ : PySem.W.keepIn K (.ref f_Schema___init__) = true)
    (k1_Schema___init___keys : PySem.W.nsIn K kD_Schema___init__ "keys" = some (some ku_Schema___init___keys))
    (k2_Schema___init___keys : L2.RelV (V.non) ku_Schema___init___keys)
    (k1_Schema___init___references : PySem.W.nsIn K kD_Schema___init__ "references" = some (some ku_Schema___init___references))
    (k2_Schema___init___references : L2.RelV (V.ref e_references) ku_Schema___init___references)
    (k1_Schema___init___made : PySem.W.nsIn K kD_Schema___init__ "made" = some (some ku_Schema___init___made))
    (k2_Schema___init___made : L2.RelV (V.ref e_made) ku_Schema___init___made)
    (p1_earlier : PySem.W.nsIn K mainGlobals "earlier" = some (some (.ref f_earlier)))
    (p2_earlier : K.lookup f_earlier = some ⟨oc_earlier, od_earlier, .func (PySem.W.fnOf "earlier" "earlier" (defArgs s_earlier) (defBody s_earlier) (defScope s_earlier) .none kV_earlier dc_earlier pm_earlier an_earlier cd_earlier ct_earlier), sl_earlier⟩)
    (p3_earlier : PySem.W.codeIn K cd_earlier "earlier" = true)
    (p4_earlier : PySem.W.keepIn K (.ref f_earlier) = true)
    (p1_told : PySem.W.nsIn K mainGlobals "told" = some (some (.ref f_told)))
    (p2_told : K.lookup f_told = some ⟨oc_told, od_told, .func (PySem.W.fnOf "told" "told" (defArgs s_told) (defBody s_told) (defScope s_told) .none kV_told dc_told pm_told an_told cd_told ct_told), sl_told⟩)
    (p3_told : PySem.W.codeIn K cd_told "told" = true)
    (p4_told : PySem.W.keepIn K (.ref f_told) = true)
    (p1_asked : PySem.W.nsIn K mainGlobals "asked" = some (some (.ref f_asked)))
    (p2_asked : K.lookup f_asked = some ⟨oc_asked, od_asked, .func (PySem.W.fnOf "asked" "asked" (defArgs s_asked) (defBody s_asked) (defScope s_asked) .none kV_asked dc_asked pm_asked an_asked cd_asked ct_asked), sl_asked⟩)
    (p3_asked : PySem.W.codeIn K cd_asked "asked" = true)
    (p4_asked : PySem.W.keepIn K (.ref f_asked) = true)
    (p1__law_bag : PySem.W.nsIn K mainGlobals "_law_bag" = some (some (.ref f__law_bag)))
    (p2__law_bag : K.lookup f__law_bag = some ⟨oc__law_bag, od__law_bag, .func (PySem.W.fnOf "_law_bag" "_law_bag" (defArgs s__law_bag) (defBody s__law_bag) (defScope s__law_bag) .none kV__law_bag dc__law_bag pm__law_bag an__law_bag cd__law_bag ct__law_bag), sl__law_bag⟩)
    (p3__law_bag : PySem.W.codeIn K cd__law_bag "_law_bag" = true)
    (p4__law_bag : PySem.W.keepIn K (.ref f__law_bag) = true)
    (p1__law_take : PySem.W.nsIn K mainGlobals "_law_take" = some (some (.ref f__law_take)))
    (p2__law_take : K.lookup f__law_take = some ⟨oc__law_take, od__law_take, .func (PySem.W.fnOf "_law_take" "_law_take" (defArgs s__law_take) (defBody s__law_take) (defScope s__law_take) .none kV__law_take dc__law_take pm__law_take an__law_take cd__law_take ct__law_take), sl__law_take⟩)
    (p3__law_take : PySem.W.codeIn K cd__law_take "_law_take" = true)
    (p4__law_take : PySem.W.keepIn K (.ref f__law_take) = true)
    (p1__law_alike : PySem.W.nsIn K mainGlobals "_law_alike" = some (some (.ref f__law_alike)))
    (p2__law_alike : K.lookup f__law_alike = some ⟨oc__law_alike, od__law_alike, .func (PySem.W.fnOf "_law_alike" "_law_alike" (defArgs s__law_alike) (defBody s__law_alike) (defScope s__law_alike) .none kV__law_alike dc__law_alike pm__law_alike an__law_alike cd__law_alike ct__law_alike), sl__law_alike⟩)
    (p3__law_alike : PySem.W.codeIn K cd__law_alike "_law_alike" = true)
    (p4__law_alike : PySem.W.keepIn K (.ref f__law_alike) = true)
    (p1__law_draw_labels : PySem.W.nsIn K mainGlobals "_law_draw_labels" = some (some (.ref f__law_draw_labels)))
    (p2__law_draw_labels : K.lookup f__law_draw_labels = some ⟨oc__law_draw_labels, od__law_draw_labels, .func (PySem.W.fnOf "_law_draw_labels" "_law_draw_labels" (defArgs s__law_draw_labels) (defBody s__law_draw_labels) (defScope s__law_draw_labels) .none kV__law_draw_labels dc__law_draw_labels pm__law_draw_labels an__law_draw_labels cd__law_draw_labels ct__law_draw_labels), sl__law_draw_labels⟩)
    (p3__law_draw_labels : PySem.W.codeIn K cd__law_draw_labels "_law_draw_labels" = true)
    (p4__law_draw_labels : PySem.W.keepIn K (.ref f__law_draw_labels) = true)
    (p1__law_asks : PySem.W.nsIn K mainGlobals "_law_asks" = some (some (.ref f__law_asks)))
    (p2__law_asks : K.lookup f__law_asks = some ⟨oc__law_asks, od__law_asks, .func (PySem.W.fnOf "_law_asks" "_law_asks" (defArgs s__law_asks) (defBody s__law_asks) (defScope s__law_asks) .none kV__law_asks dc__law_asks pm__law_asks an__law_asks cd__law_asks ct__law_asks), sl__law_asks⟩)
    (p3__law_asks : PySem.W.codeIn K cd__law_asks "_law_asks" = true)
    (p4__law_asks : PySem.W.keepIn K (.ref f__law_asks) = true)
    (p1__law_drawn : PySem.W.nsIn K mainGlobals "_law_drawn" = some (some (.ref f__law_drawn)))
    (p2__law_drawn : K.lookup f__law_drawn = some ⟨oc__law_drawn, od__law_drawn, .func (PySem.W.fnOf "_law_drawn" "_law_drawn" (defArgs s__law_drawn) (defBody s__law_drawn) (defScope s__law_drawn) .none kV__law_drawn dc__law_drawn pm__law_drawn an__law_drawn cd__law_drawn ct__law_drawn), sl__law_drawn⟩)
    (p3__law_drawn : PySem.W.codeIn K cd__law_drawn "_law_drawn" = true)
    (p4__law_drawn : PySem.W.keepIn K (.ref f__law_drawn) = true)
    (p1__law_store : PySem.W.nsIn K mainGlobals "_law_store" = some (some (.ref f__law_store)))
    (p2__law_store : K.lookup f__law_store = some ⟨oc__law_store, od__law_store, .func (PySem.W.fnOf "_law_store" "_law_store" (defArgs s__law_store) (defBody s__law_store) (defScope s__law_store) .none kV__law_store dc__law_store pm__law_store an__law_store cd__law_store ct__law_store), sl__law_store⟩)
    (p3__law_store : PySem.W.codeIn K cd__law_store "_law_store" = true)
    (p4__law_store : PySem.W.keepIn K (.ref f__law_store) = true)
    (p1_law : PySem.W.nsIn K mainGlobals "law" = some (some (.ref f_law)))
    (p2_law : K.lookup f_law = some ⟨oc_law, od_law, .func (PySem.W.fnOf "law" "law" (defArgs s_law) (defBody s_law) (defScope s_law) .none kV_law dc_law pm_law an_law cd_law ct_law), sl_law⟩)
    (p3_law : PySem.W.codeIn K cd_law "law" = true)
    (p4_law : PySem.W.keepIn K (.ref f_law) = true)
    (te_references : K.lookup e_references = some ⟨.type "tuple", none, .seq #[] ne_references, le_references⟩)
    (te_made : K.lookup e_made = some ⟨.type "tuple", none, .seq #[] ne_made, le_made⟩)
    (a_PlanError : PySem.W.nsIn K mainGlobals "PlanError" = some (some (.ref c_PlanError)))
    (a_Wrong : PySem.W.nsIn K mainGlobals "Wrong" = some (some (.ref c_Wrong)))
    (a_BadKey : PySem.W.nsIn K mainGlobals "BadKey" = some (some (.ref c_BadKey)))
    (a_BadReference : PySem.W.nsIn K mainGlobals "BadReference" = some (some (.ref c_BadReference)))
    (a_BadMade : PySem.W.nsIn K mainGlobals "BadMade" = some (some (.ref c_BadMade)))
    (a_Ringed : PySem.W.nsIn K mainGlobals "Ringed" = some (some (.ref c_Ringed)))
    (a_Schema : PySem.W.nsIn K mainGlobals "Schema" = some (some (.ref c_Schema)))
    (xl_Wrong : K.lookup c_Wrong = some (excClassObj nm_Wrong q_Wrong c_Wrong N_Wrong bs_Wrong bm_Wrong true sn_Wrong sub_Wrong ab_Wrong col_Wrong dd_Wrong m0_Wrong m1_Wrong m2_Wrong m3_Wrong m5_Wrong "ValueError.__new__"))
    (xr_Wrong : PySem.HandSPX.refsVE bm_Wrong = true)
    (xsa_Wrong : PySem.W.findIn K (.ref c_Wrong) "__setattr__" = some (some (.builtin "object.__setattr__")))
    (xex_Wrong : PySem.W.subIn K (.ref c_Wrong) (.type "BaseException") = some true)
    (xty_Wrong : PySem.W.typeIn K (.ref c_Wrong) = some (.type "type"))
    (xkp_Wrong : PySem.W.keepIn K (.ref c_Wrong) = true)
    (xga_Wrong : PySem.W.findIn K (.ref c_Wrong) "__getattribute__" = some (some (.builtin "BaseException.__getattribute__")))
    (xgg_Wrong : PySem.W.findIn K (.ref c_Wrong) "__getattr__" = some none)
    (xhd_Wrong : PySem.W.hasDictIn K c_Wrong = true)
    (xcl_Wrong : PySem.W.findIn K (.ref c_Wrong) "__class__" = some (some (.builtin "object.__class__")))
    (xmr_Wrong : PySem.W.mroIn K c_Wrong (.type "object") = some true)
    (xl_BadKey : K.lookup c_BadKey = some (excClassObj nm_BadKey q_BadKey c_BadKey N_BadKey bs_BadKey bm_BadKey true sn_BadKey sub_BadKey ab_BadKey col_BadKey dd_BadKey m0_BadKey m1_BadKey m2_BadKey m3_BadKey m5_BadKey "ValueError.__new__"))
    (xr_BadKey : PySem.HandSPX.refsVE bm_BadKey = true)
    (xsa_BadKey : PySem.W.findIn K (.ref c_BadKey) "__setattr__" = some (some (.builtin "object.__setattr__")))
    (xex_BadKey : PySem.W.subIn K (.ref c_BadKey) (.type "BaseException") = some true)
    (xty_BadKey : PySem.W.typeIn K (.ref c_BadKey) = some (.type "type"))
    (xkp_BadKey : PySem.W.keepIn K (.ref c_BadKey) = true)
    (xga_BadKey : PySem.W.findIn K (.ref c_BadKey) "__getattribute__" = some (some (.builtin "BaseException.__getattribute__")))
    (xgg_BadKey : PySem.W.findIn K (.ref c_BadKey) "__getattr__" = some none)
    (xhd_BadKey : PySem.W.hasDictIn K c_BadKey = true)
    (xcl_BadKey : PySem.W.findIn K (.ref c_BadKey) "__class__" = some (some (.builtin "object.__class__")))
    (xmr_BadKey : PySem.W.mroIn K c_BadKey (.type "object") = some true)
    (xl_BadReference : K.lookup c_BadReference = some (excClassObj nm_BadReference q_BadReference c_BadReference N_BadReference bs_BadReference bm_BadReference true sn_BadReference sub_BadReference ab_BadReference col_BadReference dd_BadReference m0_BadReference m1_BadReference m2_BadReference m3_BadReference m5_BadReference "ValueError.__new__"))
    (xr_BadReference : PySem.HandSPX.refsVE bm_BadReference = true)
    (xsa_BadReference : PySem.W.findIn K (.ref c_BadReference) "__setattr__" = some (some (.builtin "object.__setattr__")))
    (xex_BadReference : PySem.W.subIn K (.ref c_BadReference) (.type "BaseException") = some true)
    (xty_BadReference : PySem.W.typeIn K (.ref c_BadReference) = some (.type "type"))
    (xkp_BadReference : PySem.W.keepIn K (.ref c_BadReference) = true)
    (xga_BadReference : PySem.W.findIn K (.ref c_BadReference) "__getattribute__" = some (some (.builtin "BaseException.__getattribute__")))
    (xgg_BadReference : PySem.W.findIn K (.ref c_BadReference) "__getattr__" = some none)
    (xhd_BadReference : PySem.W.hasDictIn K c_BadReference = true)
    (xcl_BadReference : PySem.W.findIn K (.ref c_BadReference) "__class__" = some (some (.builtin "object.__class__")))
    (xmr_BadReference : PySem.W.mroIn K c_BadReference (.type "object") = some true)
    (xl_BadMade : K.lookup c_BadMade = some (excClassObj nm_BadMade q_BadMade c_BadMade N_BadMade bs_BadMade bm_BadMade true sn_BadMade sub_BadMade ab_BadMade col_BadMade dd_BadMade m0_BadMade m1_BadMade m2_BadMade m3_BadMade m5_BadMade "ValueError.__new__"))
    (xr_BadMade : PySem.HandSPX.refsVE bm_BadMade = true)
    (xsa_BadMade : PySem.W.findIn K (.ref c_BadMade) "__setattr__" = some (some (.builtin "object.__setattr__")))
    (xex_BadMade : PySem.W.subIn K (.ref c_BadMade) (.type "BaseException") = some true)
    (xty_BadMade : PySem.W.typeIn K (.ref c_BadMade) = some (.type "type"))
    (xkp_BadMade : PySem.W.keepIn K (.ref c_BadMade) = true)
    (xga_BadMade : PySem.W.findIn K (.ref c_BadMade) "__getattribute__" = some (some (.builtin "BaseException.__getattribute__")))
    (xgg_BadMade : PySem.W.findIn K (.ref c_BadMade) "__getattr__" = some none)
    (xhd_BadMade : PySem.W.hasDictIn K c_BadMade = true)
    (xcl_BadMade : PySem.W.findIn K (.ref c_BadMade) "__class__" = some (some (.builtin "object.__class__")))
    (xmr_BadMade : PySem.W.mroIn K c_BadMade (.type "object") = some true)
    (xl_Ringed : K.lookup c_Ringed = some (excClassObj nm_Ringed q_Ringed c_Ringed N_Ringed bs_Ringed bm_Ringed true sn_Ringed sub_Ringed ab_Ringed col_Ringed dd_Ringed m0_Ringed m1_Ringed m2_Ringed m3_Ringed m5_Ringed "ValueError.__new__"))
    (xr_Ringed : PySem.HandSPX.refsVE bm_Ringed = true)
    (xsa_Ringed : PySem.W.findIn K (.ref c_Ringed) "__setattr__" = some (some (.builtin "object.__setattr__")))
    (xex_Ringed : PySem.W.subIn K (.ref c_Ringed) (.type "BaseException") = some true)
    (xty_Ringed : PySem.W.typeIn K (.ref c_Ringed) = some (.type "type"))
    (xkp_Ringed : PySem.W.keepIn K (.ref c_Ringed) = true)
    (xga_Ringed : PySem.W.findIn K (.ref c_Ringed) "__getattribute__" = some (some (.builtin "BaseException.__getattribute__")))
    (xgg_Ringed : PySem.W.findIn K (.ref c_Ringed) "__getattr__" = some none)
    (xhd_Ringed : PySem.W.hasDictIn K c_Ringed = true)
    (xcl_Ringed : PySem.W.findIn K (.ref c_Ringed) "__class__" = some (some (.builtin "object.__class__")))
    (xmr_Ringed : PySem.W.mroIn K c_Ringed (.type "object") = some true)
    (hn_ : PySem.W.specialIn K (.builtin "object.__class__") "__get__" = some (some (.builtin "getset_descriptor.__get__")))
    (ht_ : PySem.W.takesIn K (.builtin "object.__class__") = some true)
    (xi_BadKey : PySem.W.findIn K (.ref c_BadKey) "__init__" = some (some (.ref xf_BadKey)))
    (xt_BadKey : PySem.W.typeIn K (.ref xf_BadKey) = some (.type "function"))
    (xp2_BadKey : K.lookup xf_BadKey = some ⟨xv_BadKey, xo_BadKey, .func (PySem.W.fnOf "__init__" "BadKey.__init__" (defArgs sx_BadKey) (defBody sx_BadKey) (defScope sx_BadKey) .none xk_BadKey xdc_BadKey xp_BadKey xa_BadKey xcd_BadKey xct_BadKey), xs_BadKey⟩)
    (xp3_BadKey : PySem.W.codeIn K xcd_BadKey "BadKey.__init__" = true)
    (xp4_BadKey : PySem.W.keepIn K (.ref xf_BadKey) = true)
    (xn_BadKey_table : PySem.W.findIn K (.ref c_BadKey) "table" = some none)
    (xi_BadMade : PySem.W.findIn K (.ref c_BadMade) "__init__" = some (some (.ref xf_BadMade)))
    (xt_BadMade : PySem.W.typeIn K (.ref xf_BadMade) = some (.type "function"))
    (xp2_BadMade : K.lookup xf_BadMade = some ⟨xv_BadMade, xo_BadMade, .func (PySem.W.fnOf "__init__" "BadMade.__init__" (defArgs sx_BadMade) (defBody sx_BadMade) (defScope sx_BadMade) .none xk_BadMade xdc_BadMade xp_BadMade xa_BadMade xcd_BadMade xct_BadMade), xs_BadMade⟩)
    (xp3_BadMade : PySem.W.codeIn K xcd_BadMade "BadMade.__init__" = true)
    (xp4_BadMade : PySem.W.keepIn K (.ref xf_BadMade) = true)
    (xn_BadMade_at : PySem.W.findIn K (.ref c_BadMade) "at" = some none)
    (xi_BadReference : PySem.W.findIn K (.ref c_BadReference) "__init__" = some (some (.ref xf_BadReference)))
    (xt_BadReference : PySem.W.typeIn K (.ref xf_BadReference) = some (.type "function"))
    (xp2_BadReference : K.lookup xf_BadReference = some ⟨xv_BadReference, xo_BadReference, .func (PySem.W.fnOf "__init__" "BadReference.__init__" (defArgs sx_BadReference) (defBody sx_BadReference) (defScope sx_BadReference) .none xk_BadReference xdc_BadReference xp_BadReference xa_BadReference xcd_BadReference xct_BadReference), xs_BadReference⟩)
    (xp3_BadReference : PySem.W.codeIn K xcd_BadReference "BadReference.__init__" = true)
    (xp4_BadReference : PySem.W.keepIn K (.ref xf_BadReference) = true)
    (xn_BadReference_at : PySem.W.findIn K (.ref c_BadReference) "at" = some none)
    (xi_Ringed : PySem.W.findIn K (.ref c_Ringed) "__init__" = some (some (.ref xf_Ringed)))
    (xt_Ringed : PySem.W.typeIn K (.ref xf_Ringed) = some (.type "function"))
    (xp2_Ringed : K.lookup xf_Ringed = some ⟨xv_Ringed, xo_Ringed, .func (PySem.W.fnOf "__init__" "Ringed.__init__" (defArgs sx_Ringed) (defBody sx_Ringed) (defScope sx_Ringed) .none xk_Ringed xdc_Ringed xp_Ringed xa_Ringed xcd_Ringed xct_Ringed), xs_Ringed⟩)
    (xp3_Ringed : PySem.W.codeIn K xcd_Ringed "Ringed.__init__" = true)
    (xp4_Ringed : PySem.W.keepIn K (.ref xf_Ringed) = true)
    (xn_Ringed_table : PySem.W.findIn K (.ref c_Ringed) "table" = some none)
    (xn_Ringed_column : PySem.W.findIn K (.ref c_Ringed) "column" = some none)
    (xi_Wrong : PySem.W.findIn K (.ref c_Wrong) "__init__" = some (some (.ref xf_Wrong)))
    (xt_Wrong : PySem.W.typeIn K (.ref xf_Wrong) = some (.type "function"))
    (xp2_Wrong : K.lookup xf_Wrong = some ⟨xv_Wrong, xo_Wrong, .func (PySem.W.fnOf "__init__" "Wrong.__init__" (defArgs sx_Wrong) (defBody sx_Wrong) (defScope sx_Wrong) .none xk_Wrong xdc_Wrong xp_Wrong xa_Wrong xcd_Wrong xct_Wrong), xs_Wrong⟩)
    (xp3_Wrong : PySem.W.codeIn K xcd_Wrong "Wrong.__init__" = true)
    (xp4_Wrong : PySem.W.keepIn K (.ref xf_Wrong) = true)
    (xn_Wrong_place : PySem.W.findIn K (.ref c_Wrong) "place" = some none)
    (ba_PlanError : PySem.W.specialIn K (.ref c_PlanError) "__getattribute__" = some (some (.builtin "type.__getattribute__")))
    (bb_PlanError : PySem.W.readsIn K c_PlanError (.type "type") = true)
    (bc_PlanError : PySem.W.findCls K (.ref c_PlanError) (.type "type") "__init__" = some (.val (.builtin "ValueError.__init__")))
    (ipg_Schema : PySem.W.plainGet K c_Schema Str.empty = true)
    (ihd_Schema : PySem.W.hasDictIn K c_Schema = true)
    (ipo_Schema : PySem.W.plainOver K c_Schema = true)
    (isa_Schema : PySem.W.findIn K (.ref c_Schema) "__setattr__" = some (some (.builtin "object.__setattr__")))
    (icl_Schema : PySem.W.findIn K (.ref c_Schema) "__class__" = some (some (.builtin "object.__class__")))
    (imr_Schema : PySem.W.mroIn K c_Schema (.type "object") = some true)
    (mm_Schema : PySem.W.makesIn K c_Schema = true)
    (mf_Schema : PySem.W.isFn K (.ref f_Schema___init__) = true)
    (mp_Schema : PySem.W.keepIn K (.ref c_Schema) = true)
    (fi_its_columns_Schema : PySem.W.findIn K (.ref c_Schema) "its_columns" = some none)
    (fi_its_keys_Schema : PySem.W.findIn K (.ref c_Schema) "its_keys" = some none)
    (fi_its_made_Schema : PySem.W.findIn K (.ref c_Schema) "its_made" = some none)
    (fi_its_references_Schema : PySem.W.findIn K (.ref c_Schema) "its_references" = some none)
    (fi_its_shapes_Schema : PySem.W.findIn K (.ref c_Schema) "its_shapes" = some none)
    (z_abs : PySem.W.nsIn K mainGlobals "abs" = some none)
    (z_all : PySem.W.nsIn K mainGlobals "all" = some none)
    (z_bool : PySem.W.nsIn K mainGlobals "bool" = some none)
    (z_dict : PySem.W.nsIn K mainGlobals "dict" = some none)
    (z_enumerate : PySem.W.nsIn K mainGlobals "enumerate" = some none)
    (z_int : PySem.W.nsIn K mainGlobals "int" = some none)
    (z_isinstance : PySem.W.nsIn K mainGlobals "isinstance" = some none)
    (z_len : PySem.W.nsIn K mainGlobals "len" = some none)
    (z_list : PySem.W.nsIn K mainGlobals "list" = some none)
    (z_range : PySem.W.nsIn K mainGlobals "range" = some none)
    (z_repr : PySem.W.nsIn K mainGlobals "repr" = some none)
    (z_set : PySem.W.nsIn K mainGlobals "set" = some none)
    (z_sorted : PySem.W.nsIn K mainGlobals "sorted" = some none)
    (z_str : PySem.W.nsIn K mainGlobals "str" = some none)
    (z_tuple : PySem.W.nsIn K mainGlobals "tuple" = some none)
    (q1_MOST_ARGUMENTS : PySem.W.nsIn K mainGlobals "MOST_ARGUMENTS" = some (some (.int 3 tk_MOST_ARGUMENTS)))
    (q1_MOST_NAMES : PySem.W.nsIn K mainGlobals "MOST_NAMES" = some (some (.int 6 tk_MOST_NAMES)))
    (q1_MOST_COLUMNS : PySem.W.nsIn K mainGlobals "MOST_COLUMNS" = some (some (.int 5 tk_MOST_COLUMNS)))
    (q1_LONGEST_NAME : PySem.W.nsIn K mainGlobals "LONGEST_NAME" = some (some (.int 8 tk_LONGEST_NAME)))
    (q1_LETTERS : PySem.W.nsIn K mainGlobals "LETTERS" = some (some (.str (Str.ofString "abcdefghijklmnopqrstuvwxyz") tk_LETTERS)))
    (q1_KINDS : PySem.W.nsIn K mainGlobals "KINDS" = some (some (.ref t_KINDS)))
    (q2_KINDS : K.lookup t_KINDS = some ⟨.type "tuple", none, .seq i_KINDS n_KINDS, l_KINDS⟩)
    (q3_KINDS : i_KINDS.size ≤ sizeLine)
    (q4_KINDS : Vals (k_KINDS.map V.str) i_KINDS.toList)
    : ∃ fd : FuncData, (∀ (s : Shared) (v : Value), BindsTo s fd ⟨[v], []⟩ [("_law_script", v)]) ∧ ∀ base : Heap, K.In base → base.Ns mainGlobals mg → FnG l.prog w K mg base 9 fa fd ["_law_script"] (spD ⟨K, w, mg, none⟩ 1 den_law) := by
  have e := hfa.symm.trans (PySem.W.mg_of X G p1_law)
  cases e
  have F_is_integer := fun_mk (st := s_is_integer) p2_is_integer p3_is_integer p4_is_integer
  have b_is_integer := F_is_integer.binds (ps := ["thing"]) fun _ _ _ _ _ _ us hl => match us, hl with | [_], _ => rfl
  have F_is_name := fun_mk (st := s_is_name) p2_is_name p3_is_name p4_is_name
  have b_is_name := F_is_name.binds (ps := ["thing"]) fun _ _ _ _ _ _ us hl => match us, hl with | [_], _ => rfl
  have F_is_kind := fun_mk (st := s_is_kind) p2_is_kind p3_is_kind p4_is_kind
  have b_is_kind := F_is_kind.binds (ps := ["thing"]) fun _ _ _ _ _ _ us hl => match us, hl with | [_], _ => rfl
  have F_is_reference := fun_mk (st := s_is_reference) p2_is_reference p3_is_reference p4_is_reference
  have b_is_reference := F_is_reference.binds (ps := ["thing"]) fun _ _ _ _ _ _ us hl => match us, hl with | [_], _ => rfl
  have F_is_made := fun_mk (st := s_is_made) p2_is_made p3_is_made p4_is_made
  have b_is_made := F_is_made.binds (ps := ["thing"]) fun _ _ _ _ _ _ us hl => match us, hl with | [_], _ => rfl
  have F_is_list_of := fun_mk (st := s_is_list_of) p2_is_list_of p3_is_list_of p4_is_list_of
  have b_is_list_of := F_is_list_of.binds (ps := ["judge", "thing"]) fun _ _ _ _ _ _ us hl => match us, hl with | [_, _], _ => rfl
  have F_are_columns := fun_mk (st := s_are_columns) p2_are_columns p3_are_columns p4_are_columns
  have b_are_columns := F_are_columns.binds (ps := ["thing"]) fun _ _ _ _ _ _ us hl => match us, hl with | [_], _ => rfl
  have F_is_shape := fun_mk (st := s_is_shape) p2_is_shape p3_is_shape p4_is_shape
  have b_is_shape := F_is_shape.binds (ps := ["thing"]) fun _ _ _ _ _ _ us hl => match us, hl with | [_], _ => rfl
  have F_is_dict_of := fun_mk (st := s_is_dict_of) p2_is_dict_of p3_is_dict_of p4_is_dict_of
  have b_is_dict_of := F_is_dict_of.binds (ps := ["judge", "thing"]) fun _ _ _ _ _ _ us hl => match us, hl with | [_, _], _ => rfl
  have F_is_dict_of_names := fun_mk (st := s_is_dict_of_names) p2_is_dict_of_names p3_is_dict_of_names p4_is_dict_of_names
  have b_is_dict_of_names := F_is_dict_of_names.binds (ps := ["thing"]) fun _ _ _ _ _ _ us hl => match us, hl with | [_], _ => rfl
  have F_Schema_made_of := fun_mk (st := s_Schema_made_of) p2_Schema_made_of p3_Schema_made_of p4_Schema_made_of
  have b_Schema_made_of := F_Schema_made_of.binds (ps := ["self", "table", "column"]) fun _ _ _ _ _ _ us hl => match us, hl with | [_, _, _], _ => rfl
  have F_Schema_check_keys := fun_mk (st := s_Schema_check_keys) p2_Schema_check_keys p3_Schema_check_keys p4_Schema_check_keys
  have b_Schema_check_keys := F_Schema_check_keys.binds (ps := ["self"]) fun _ _ _ _ _ _ us hl => match us, hl with | [_], _ => rfl
  have F_Schema_checked_references := fun_mk (st := s_Schema_checked_references) p2_Schema_checked_references p3_Schema_checked_references p4_Schema_checked_references
  have b_Schema_checked_references := F_Schema_checked_references.binds (ps := ["self", "references"]) fun _ _ _ _ _ _ us hl => match us, hl with | [_, _], _ => rfl
  have F_Schema_checked_made := fun_mk (st := s_Schema_checked_made) p2_Schema_checked_made p3_Schema_checked_made p4_Schema_checked_made
  have b_Schema_checked_made := F_Schema_checked_made.binds (ps := ["self", "made"]) fun _ _ _ _ _ _ us hl => match us, hl with | [_, _], _ => rfl
  have F_Schema_check_rings := fun_mk (st := s_Schema_check_rings) p2_Schema_check_rings p3_Schema_check_rings p4_Schema_check_rings
  have b_Schema_check_rings := F_Schema_check_rings.binds (ps := ["self"]) fun _ _ _ _ _ _ us hl => match us, hl with | [_], _ => rfl
  have F_Schema___init__ : FunD K "__init__" "Schema.__init__" (defArgs s_Schema___init__) (defBody s_Schema___init__) (defScope s_Schema___init__) [] [("keys", V.non), ("references", V.ref e_references), ("made", V.ref e_made)] f_Schema___init__ _ := ⟨⟨_, _, _, _, _, _, _, _, _, _, rfl, p2_Schema___init__, p3_Schema___init__, .inl ⟨rfl, rfl⟩, .inr ⟨kD_Schema___init__, rfl, fcons ⟨_, k1_Schema___init___keys, k2_Schema___init___keys⟩ (fcons ⟨_, k1_Schema___init___references, k2_Schema___init___references⟩ (fcons ⟨_, k1_Schema___init___made, k2_Schema___init___made⟩ (fun q hq => (by cases hq))))⟩⟩, p4_Schema___init__⟩
  have F_earlier := fun_mk (st := s_earlier) p2_earlier p3_earlier p4_earlier
  have b_earlier := F_earlier.binds (ps := ["keepings", "history", "at"]) fun _ _ _ _ _ _ us hl => match us, hl with | [_, _, _], _ => rfl
  have F_told := fun_mk (st := s_told) p2_told p3_told p4_told
  have b_told := F_told.binds (ps := ["schema", "keepings", "history"]) fun _ _ _ _ _ _ us hl => match us, hl with | [_, _, _], _ => rfl
  have F_asked := fun_mk (st := s_asked) p2_asked p3_asked p4_asked
  have b_asked := F_asked.binds (ps := ["schema", "keepings", "history"]) fun _ _ _ _ _ _ us hl => match us, hl with | [_, _, _], _ => rfl
  have F__law_bag := fun_mk (st := s__law_bag) p2__law_bag p3__law_bag p4__law_bag
  have b__law_bag := F__law_bag.binds (ps := ["_law_script"]) fun _ _ _ _ _ _ us hl => match us, hl with | [_], _ => rfl
  have F__law_take := fun_mk (st := s__law_take) p2__law_take p3__law_take p4__law_take
  have b__law_take := F__law_take.binds (ps := ["_law_bag_here", "_law_many"]) fun _ _ _ _ _ _ us hl => match us, hl with | [_, _], _ => rfl
  have F__law_alike := fun_mk (st := s__law_alike) p2__law_alike p3__law_alike p4__law_alike
  have b__law_alike := F__law_alike.binds (ps := ["_law_found", "_law_due"]) fun _ _ _ _ _ _ us hl => match us, hl with | [_, _], _ => rfl
  have F__law_draw_labels := fun_mk (st := s__law_draw_labels) p2__law_draw_labels p3__law_draw_labels p4__law_draw_labels
  have b__law_draw_labels := F__law_draw_labels.binds (ps := ["_law_bag_here", "_law_many"]) fun _ _ _ _ _ _ us hl => match us, hl with | [_, _], _ => rfl
  have F__law_asks := fun_mk (st := s__law_asks) p2__law_asks p3__law_asks p4__law_asks
  have b__law_asks := F__law_asks.binds (ps := ["_law_bag_here", "_law_functions", "_law_many"]) fun _ _ _ _ _ _ us hl => match us, hl with | [_, _, _], _ => rfl
  have F__law_drawn := fun_mk (st := s__law_drawn) p2__law_drawn p3__law_drawn p4__law_drawn
  have b__law_drawn := F__law_drawn.binds (ps := ["_law_bag_here"]) fun _ _ _ _ _ _ us hl => match us, hl with | [_], _ => rfl
  have F__law_store := fun_mk (st := s__law_store) p2__law_store p3__law_store p4__law_store
  have b__law_store := F__law_store.binds (ps := ["_law_keepings", "_law_history"]) fun _ _ _ _ _ _ us hl => match us, hl with | [_, _], _ => rfl
  have F_law := fun_mk (st := s_law) p2_law p3_law p4_law
  have b_law := F_law.binds (ps := ["_law_script"]) fun _ _ _ _ _ _ us hl => match us, hl with | [_], _ => rfl
  have xc_Wrong : XcT K c_Wrong := ⟨⟨⟨nm_Wrong, q_Wrong, N_Wrong, bs_Wrong, bm_Wrong, sn_Wrong, sub_Wrong, ab_Wrong, col_Wrong, dd_Wrong, m0_Wrong, m1_Wrong, m2_Wrong, m3_Wrong, m5_Wrong, xl_Wrong, xr_Wrong⟩, xsa_Wrong, xex_Wrong, xty_Wrong, xkp_Wrong⟩, ⟨xga_Wrong, xgg_Wrong, xex_Wrong, xhd_Wrong⟩, ⟨xga_Wrong, xgg_Wrong, xex_Wrong, xhd_Wrong, xcl_Wrong, hn_, ht_, xmr_Wrong⟩⟩
  have xc_BadKey : XcT K c_BadKey := ⟨⟨⟨nm_BadKey, q_BadKey, N_BadKey, bs_BadKey, bm_BadKey, sn_BadKey, sub_BadKey, ab_BadKey, col_BadKey, dd_BadKey, m0_BadKey, m1_BadKey, m2_BadKey, m3_BadKey, m5_BadKey, xl_BadKey, xr_BadKey⟩, xsa_BadKey, xex_BadKey, xty_BadKey, xkp_BadKey⟩, ⟨xga_BadKey, xgg_BadKey, xex_BadKey, xhd_BadKey⟩, ⟨xga_BadKey, xgg_BadKey, xex_BadKey, xhd_BadKey, xcl_BadKey, hn_, ht_, xmr_BadKey⟩⟩
  have xc_BadReference : XcT K c_BadReference := ⟨⟨⟨nm_BadReference, q_BadReference, N_BadReference, bs_BadReference, bm_BadReference, sn_BadReference, sub_BadReference, ab_BadReference, col_BadReference, dd_BadReference, m0_BadReference, m1_BadReference, m2_BadReference, m3_BadReference, m5_BadReference, xl_BadReference, xr_BadReference⟩, xsa_BadReference, xex_BadReference, xty_BadReference, xkp_BadReference⟩, ⟨xga_BadReference, xgg_BadReference, xex_BadReference, xhd_BadReference⟩, ⟨xga_BadReference, xgg_BadReference, xex_BadReference, xhd_BadReference, xcl_BadReference, hn_, ht_, xmr_BadReference⟩⟩
  have xc_BadMade : XcT K c_BadMade := ⟨⟨⟨nm_BadMade, q_BadMade, N_BadMade, bs_BadMade, bm_BadMade, sn_BadMade, sub_BadMade, ab_BadMade, col_BadMade, dd_BadMade, m0_BadMade, m1_BadMade, m2_BadMade, m3_BadMade, m5_BadMade, xl_BadMade, xr_BadMade⟩, xsa_BadMade, xex_BadMade, xty_BadMade, xkp_BadMade⟩, ⟨xga_BadMade, xgg_BadMade, xex_BadMade, xhd_BadMade⟩, ⟨xga_BadMade, xgg_BadMade, xex_BadMade, xhd_BadMade, xcl_BadMade, hn_, ht_, xmr_BadMade⟩⟩
  have xc_Ringed : XcT K c_Ringed := ⟨⟨⟨nm_Ringed, q_Ringed, N_Ringed, bs_Ringed, bm_Ringed, sn_Ringed, sub_Ringed, ab_Ringed, col_Ringed, dd_Ringed, m0_Ringed, m1_Ringed, m2_Ringed, m3_Ringed, m5_Ringed, xl_Ringed, xr_Ringed⟩, xsa_Ringed, xex_Ringed, xty_Ringed, xkp_Ringed⟩, ⟨xga_Ringed, xgg_Ringed, xex_Ringed, xhd_Ringed⟩, ⟨xga_Ringed, xgg_Ringed, xex_Ringed, xhd_Ringed, xcl_Ringed, hn_, ht_, xmr_Ringed⟩⟩
  have xF_BadKey := fun_mk (st := sx_BadKey) xp2_BadKey xp3_BadKey xp4_BadKey
  have xb_BadKey := xF_BadKey.binds (ps := ["self", "table"]) fun _ _ _ _ _ _ us hl => match us, hl with | [_, _], _ => rfl
  have xF_BadMade := fun_mk (st := sx_BadMade) xp2_BadMade xp3_BadMade xp4_BadMade
  have xb_BadMade := xF_BadMade.binds (ps := ["self", "at"]) fun _ _ _ _ _ _ us hl => match us, hl with | [_, _], _ => rfl
  have xF_BadReference := fun_mk (st := sx_BadReference) xp2_BadReference xp3_BadReference xp4_BadReference
  have xb_BadReference := xF_BadReference.binds (ps := ["self", "at"]) fun _ _ _ _ _ _ us hl => match us, hl with | [_, _], _ => rfl
  have xF_Ringed := fun_mk (st := sx_Ringed) xp2_Ringed xp3_Ringed xp4_Ringed
  have xb_Ringed := xF_Ringed.binds (ps := ["self", "table", "column"]) fun _ _ _ _ _ _ us hl => match us, hl with | [_, _, _], _ => rfl
  have xF_Wrong := fun_mk (st := sx_Wrong) xp2_Wrong xp3_Wrong xp4_Wrong
  have xb_Wrong := xF_Wrong.binds (ps := ["self", "place"]) fun _ _ _ _ _ _ us hl => match us, hl with | [_, _], _ => rfl
  have ic_Schema : ClT K c_Schema := ⟨⟨ipg_Schema, ihd_Schema, ipo_Schema, isa_Schema⟩, ipg_Schema, icl_Schema, hn_, ht_, imr_Schema⟩
  have kb_Schema_2_ := F_Schema___init__.kbinds0 (ps := ["self", "tables", "functions", "keys", "references", "made"]) 3 [] [("keys", V.non), ("references", V.ref e_references), ("made", V.ref e_made)] (fun {α} us mv ws => ga_Schema_2_ us [] mv ws) (by simp) (by simp) (fun h1 h3 h4 => rel_Schema_2_ h1 .nil h3 h4) (fun D doc pm an cdv ct us mv ws l1 l3 l4 => match us, mv, ws, l1, l3, l4 with | [_, _, _], [_, _, _], [], _, _, _ => ⟨_, _, _, _, _, _, rfl, rfl, ⟨_, _, _, _, _, _, rfl, rfl, ⟨_, _, _, _, _, _, rfl, rfl, rfl⟩⟩⟩)
  have T : Txt K mg ⟨f_is_integer, _, f_is_name, _, f_is_kind, _, f_is_reference, _, f_is_made, _, f_is_list_of, _, f_are_columns, _, f_is_shape, _, f_is_dict_of, _, f_is_dict_of_names, _, f_Schema_made_of, _, f_Schema_check_keys, _, f_Schema_checked_references, _, f_Schema_checked_made, _, f_Schema_check_rings, _, f_Schema___init__, _, f_earlier, _, f_told, _, f_asked, _, f__law_bag, _, f__law_take, _, f__law_alike, _, f__law_draw_labels, _, f__law_asks, _, f__law_drawn, _, f__law_store, _, fa, _, c_PlanError, c_Wrong, c_BadKey, c_BadReference, c_BadMade, c_Ringed, c_Schema, xf_BadKey, _, xf_BadMade, _, xf_BadReference, _, xf_Ringed, _, xf_Wrong, _, t_KINDS, i_KINDS, n_KINDS, l_KINDS, e_references, e_made⟩ :=
    { F_Schema___init__ := F_Schema___init__,
      F_Schema_check_keys := F_Schema_check_keys,
      F_Schema_check_rings := F_Schema_check_rings,
      F_Schema_checked_made := F_Schema_checked_made,
      F_Schema_checked_references := F_Schema_checked_references,
      F_Schema_made_of := F_Schema_made_of,
      F__law_alike := F__law_alike,
      F__law_asks := F__law_asks,
      F__law_bag := F__law_bag,
      F__law_draw_labels := F__law_draw_labels,
      F__law_drawn := F__law_drawn,
      F__law_store := F__law_store,
      F__law_take := F__law_take,
      F_are_columns := F_are_columns,
      F_asked := F_asked,
      F_earlier := F_earlier,
      F_is_dict_of := F_is_dict_of,
      F_is_dict_of_names := F_is_dict_of_names,
      F_is_integer := F_is_integer,
      F_is_kind := F_is_kind,
      F_is_list_of := F_is_list_of,
      F_is_made := F_is_made,
      F_is_name := F_is_name,
      F_is_reference := F_is_reference,
      F_is_shape := F_is_shape,
      F_law := F_law,
      F_told := F_told,
      b_Schema_check_keys := b_Schema_check_keys,
      b_Schema_check_rings := b_Schema_check_rings,
      b_Schema_checked_made := b_Schema_checked_made,
      b_Schema_checked_references := b_Schema_checked_references,
      b_Schema_made_of := b_Schema_made_of,
      b__law_alike := b__law_alike,
      b__law_asks := b__law_asks,
      b__law_bag := b__law_bag,
      b__law_draw_labels := b__law_draw_labels,
      b__law_drawn := b__law_drawn,
      b__law_store := b__law_store,
      b__law_take := b__law_take,
      b_are_columns := b_are_columns,
      b_asked := b_asked,
      b_earlier := b_earlier,
      b_is_dict_of := b_is_dict_of,
      b_is_dict_of_names := b_is_dict_of_names,
      b_is_integer := b_is_integer,
      b_is_kind := b_is_kind,
      b_is_list_of := b_is_list_of,
      b_is_made := b_is_made,
      b_is_name := b_is_name,
      b_is_reference := b_is_reference,
      b_is_shape := b_is_shape,
      b_law := b_law,
      b_told := b_told,
      ba_PlanError := ba_PlanError,
      bb_PlanError := bb_PlanError,
      bc_PlanError := bc_PlanError,
      c_KINDS := ⟨PySem.W.mg_of X G q1_KINDS, q2_KINDS, q3_KINDS, q4_KINDS⟩,
      c_LETTERS := ⟨_, PySem.W.mg_of X G q1_LETTERS⟩,
      c_LONGEST_NAME := ⟨_, PySem.W.mg_of X G q1_LONGEST_NAME⟩,
      c_MOST_ARGUMENTS := ⟨_, PySem.W.mg_of X G q1_MOST_ARGUMENTS⟩,
      c_MOST_COLUMNS := ⟨_, PySem.W.mg_of X G q1_MOST_COLUMNS⟩,
      c_MOST_NAMES := ⟨_, PySem.W.mg_of X G q1_MOST_NAMES⟩,
      e_made := ⟨_, _, te_made⟩,
      e_references := ⟨_, _, te_references⟩,
      fi_its_columns := fcons ⟨_, PySem.W.mg_of X G a_Schema, ic_Schema, fi_its_columns_Schema⟩ (fun C hC => (by cases hC)),
      fi_its_keys := fcons ⟨_, PySem.W.mg_of X G a_Schema, ic_Schema, fi_its_keys_Schema⟩ (fun C hC => (by cases hC)),
      fi_its_made := fcons ⟨_, PySem.W.mg_of X G a_Schema, ic_Schema, fi_its_made_Schema⟩ (fun C hC => (by cases hC)),
      fi_its_references := fcons ⟨_, PySem.W.mg_of X G a_Schema, ic_Schema, fi_its_references_Schema⟩ (fun C hC => (by cases hC)),
      fi_its_shapes := fcons ⟨_, PySem.W.mg_of X G a_Schema, ic_Schema, fi_its_shapes_Schema⟩ (fun C hC => (by cases hC)),
      fx_its_columns := fun C hC => (by cases hC),
      fx_its_keys := fun C hC => (by cases hC),
      fx_its_made := fun C hC => (by cases hC),
      fx_its_references := fun C hC => (by cases hC),
      fx_its_shapes := fun C hC => (by cases hC),
      g_BadKey := PySem.W.mg_of X G a_BadKey,
      g_BadMade := PySem.W.mg_of X G a_BadMade,
      g_BadReference := PySem.W.mg_of X G a_BadReference,
      g_PlanError := PySem.W.mg_of X G a_PlanError,
      g_Ringed := PySem.W.mg_of X G a_Ringed,
      g_Schema := PySem.W.mg_of X G a_Schema,
      g_Wrong := PySem.W.mg_of X G a_Wrong,
      g__law_alike := PySem.W.mg_of X G p1__law_alike,
      g__law_asks := PySem.W.mg_of X G p1__law_asks,
      g__law_bag := PySem.W.mg_of X G p1__law_bag,
      g__law_draw_labels := PySem.W.mg_of X G p1__law_draw_labels,
      g__law_drawn := PySem.W.mg_of X G p1__law_drawn,
      g__law_store := PySem.W.mg_of X G p1__law_store,
      g__law_take := PySem.W.mg_of X G p1__law_take,
      g_are_columns := PySem.W.mg_of X G p1_are_columns,
      g_asked := PySem.W.mg_of X G p1_asked,
      g_earlier := PySem.W.mg_of X G p1_earlier,
      g_is_dict_of := PySem.W.mg_of X G p1_is_dict_of,
      g_is_dict_of_names := PySem.W.mg_of X G p1_is_dict_of_names,
      g_is_integer := PySem.W.mg_of X G p1_is_integer,
      g_is_kind := PySem.W.mg_of X G p1_is_kind,
      g_is_list_of := PySem.W.mg_of X G p1_is_list_of,
      g_is_made := PySem.W.mg_of X G p1_is_made,
      g_is_name := PySem.W.mg_of X G p1_is_name,
      g_is_reference := PySem.W.mg_of X G p1_is_reference,
      g_is_shape := PySem.W.mg_of X G p1_is_shape,
      g_law := PySem.W.mg_of X G p1_law,
      g_told := PySem.W.mg_of X G p1_told,
      ic_Schema := ic_Schema,
      kb_Schema_2_ := (let ⟨_, h⟩ := kb_Schema_2_; ⟨_, h⟩),
      m_abs := PySem.W.mg_none_of X G z_abs,
      m_all := PySem.W.mg_none_of X G z_all,
      m_bool := PySem.W.mg_none_of X G z_bool,
      m_dict := PySem.W.mg_none_of X G z_dict,
      m_enumerate := PySem.W.mg_none_of X G z_enumerate,
      m_int := PySem.W.mg_none_of X G z_int,
      m_isinstance := PySem.W.mg_none_of X G z_isinstance,
      m_len := PySem.W.mg_none_of X G z_len,
      m_list := PySem.W.mg_none_of X G z_list,
      m_range := PySem.W.mg_none_of X G z_range,
      m_repr := PySem.W.mg_none_of X G z_repr,
      m_set := PySem.W.mg_none_of X G z_set,
      m_sorted := PySem.W.mg_none_of X G z_sorted,
      m_str := PySem.W.mg_none_of X G z_str,
      m_tuple := PySem.W.mg_none_of X G z_tuple,
      me_Schema_check_keys := ⟨p1_Schema_check_keys, mi_Schema_check_keys, p4_Schema_check_keys⟩,
      me_Schema_check_rings := ⟨p1_Schema_check_rings, mi_Schema_check_rings, p4_Schema_check_rings⟩,
      me_Schema_checked_made := ⟨p1_Schema_checked_made, mi_Schema_checked_made, p4_Schema_checked_made⟩,
      me_Schema_checked_references := ⟨p1_Schema_checked_references, mi_Schema_checked_references, p4_Schema_checked_references⟩,
      me_Schema_made_of := ⟨p1_Schema_made_of, mi_Schema_made_of, p4_Schema_made_of⟩,
      mk_Schema := ⟨mm_Schema, p1_Schema___init__, mf_Schema, mp_Schema⟩,
      xF_BadKey := xF_BadKey,
      xF_BadMade := xF_BadMade,
      xF_BadReference := xF_BadReference,
      xF_Ringed := xF_Ringed,
      xF_Wrong := xF_Wrong,
      xb_BadKey := xb_BadKey,
      xb_BadMade := xb_BadMade,
      xb_BadReference := xb_BadReference,
      xb_Ringed := xb_Ringed,
      xb_Wrong := xb_Wrong,
      xc_BadKey := xc_BadKey,
      xc_BadMade := xc_BadMade,
      xc_BadReference := xc_BadReference,
      xc_Ringed := xc_Ringed,
      xc_Wrong := xc_Wrong,
      xi_BadKey := xi_BadKey,
      xi_BadMade := xi_BadMade,
      xi_BadReference := xi_BadReference,
      xi_Ringed := xi_Ringed,
      xi_Wrong := xi_Wrong,
      xn_BadKey_table := xn_BadKey_table,
      xn_BadMade_at := xn_BadMade_at,
      xn_BadReference_at := xn_BadReference_at,
      xn_Ringed_column := xn_Ringed_column,
      xn_Ringed_table := xn_Ringed_table,
      xn_Wrong_place := xn_Wrong_place,
      xt_BadKey := xt_BadKey,
      xt_BadMade := xt_BadMade,
      xt_BadReference := xt_BadReference,
      xt_Ringed := xt_Ringed,
      xt_Wrong := xt_Wrong }
  exact ⟨_, fun s v => .of_eq rfl, fun base _ _ => ok_law T⟩
end K90
namespace K90
open PySem PySem.Spec PyProof.Rows L2 L2.Dn
local macro_rules | `(tactic| walk_at "ev") => `(tactic| try simp only [seqS, ifS, setS, asgS, subG, augI, retS, exprS, nilS, testE, opE_eq, calE, consA, nilA, cE, notT, andT, orT, tvE, ifE, tupE, lstE, callE, metE, dmE, unE, slE, noO, someO, chE, forE, rng1I_eq, rngK_p, walkI, enumI, nameG, tupG, consG, nilG, parS, par3S, lcE, fldE, vE_0, vE_s, bind_ok, bindS_ok, lift_some, testR_ok, seq_nx, seq_rt, List.set_cons_zero, List.set_cons_succ, wipeR, ev_ok, ev_bind, ev_lift, ev_test, isB_p, es_bindS, es_seq, es_nx, es_rt, eg_fin, ev_call, eg_ok, addI_int, L2.Dn.ite_tt, L2.Dn.ite_ff, addD_int, subI_int, ltI_int, leI_int, gtI_int, geI_int, eqG_int, intD_int, negI_int, lenG_list, lenG_tuple, Bool.false_eq_true, if_false, if_true, nls_nil, nls_p, nls_g, nls_fn, nl_p, nl_g, true_and, List.length_cons, List.length_nil, tru_bool, Bool.not_true, Bool.not_false, decide_true, decide_false, and_self, and_true, reduceIte, ne_eq, not_true_eq_false, not_false_eq_true, mk0, mk1, mk2, mk3, mk4, ml0, ml1, ml2, ml3, ml4, ml5, ml6, tupOf_p, tupOf_t, isTy_s, isTy_l, newL_z, Nat.zero_le, sn1, sn2, sn3, sn4, sn5, sn6, sn7, sn8, sn9, sn10, sn11, sn12, sn13, sn14, sn15, sn16, sn17, sn18, sn19, sn20, sn21, sn22, sn23, sn24, dct0_l, dct0_z, new_l, new_g, at_l0, at_l1, at_l2, set_l0, set_l1, set_l2, List.nil_append, List.cons_append, frz_sk, Nat.zero_add, List.map_cons, List.map_nil, Nat.reduceAdd, Nat.reduceEqDiff, ev_exc, es_exc, slD_list, sz1, sz2, sz3, sz4, sz5, sz6, sz7, sz8, sz9, sz10, sz11, sz12, sz13, sz14, sz15, sz16, sz17, sz18, sz19, sz20, sz21, sz22, sz23, sz24])
local macro_rules | `(tactic| walk_at "evs") => `(tactic| try simp only [*, seqS, ifS, setS, asgS, subG, augI, retS, exprS, nilS, testE, opE_eq, calE, consA, nilA, cE, notT, andT, orT, tvE, ifE, tupE, lstE, callE, metE, dmE, unE, slE, noO, someO, chE, forE, rng1I_eq, rngK_p, walkI, enumI, nameG, tupG, consG, nilG, parS, par3S, lcE, fldE, vE_0, vE_s, bind_ok, bindS_ok, lift_some, testR_ok, seq_nx, seq_rt, List.set_cons_zero, List.set_cons_succ, wipeR, ev_ok, ev_bind, ev_lift, ev_test, isB_p, es_bindS, es_seq, es_nx, es_rt, eg_fin, ev_call, eg_ok, addI_int, L2.Dn.ite_tt, L2.Dn.ite_ff, addD_int, subI_int, ltI_int, leI_int, gtI_int, geI_int, eqG_int, intD_int, negI_int, lenG_list, lenG_tuple, Bool.false_eq_true, if_false, if_true, nls_nil, nls_p, nls_g, nls_fn, nl_p, nl_g, true_and, List.length_cons, List.length_nil, tru_bool, Bool.not_true, Bool.not_false, decide_true, decide_false, and_self, and_true, reduceIte, ne_eq, not_true_eq_false, not_false_eq_true, mk0, mk1, mk2, mk3, mk4, ml0, ml1, ml2, ml3, ml4, ml5, ml6, tupOf_p, tupOf_t, isTy_s, isTy_l, newL_z, Nat.zero_le, sn1, sn2, sn3, sn4, sn5, sn6, sn7, sn8, sn9, sn10, sn11, sn12, sn13, sn14, sn15, sn16, sn17, sn18, sn19, sn20, sn21, sn22, sn23, sn24, dct0_l, dct0_z, new_l, new_g, at_l0, at_l1, at_l2, set_l0, set_l1, set_l2, List.nil_append, List.cons_append, frz_sk, Nat.zero_add, List.map_cons, List.map_nil, Nat.reduceAdd, Nat.reduceEqDiff, ev_exc, es_exc, slD_list, sz1, sz2, sz3, sz4, sz5, sz6, sz7, sz8, sz9, sz10, sz11, sz12, sz13, sz14, sz15, sz16, sz17, sz18, sz19, sz20, sz21, sz22, sz23, sz24])
/-! ### draws -/
theorem take_ev {n : Int} {cs : List PyData} {g : List Cell} {C : Cell} {P : D → List Cell → Prop} {Z : Exn → List Cell → Prop} (hC : bagsOk cs C) (h0 : 0 < n) (h1 : n < 2 ^ 64) (k : ∀ r C', 0 ≤ r → r < n → bagsOk cs C' → P (.p (.int r)) (C' :: g)) : Eg (den__law_take [.cell (.g 0), .p (.int n)] (C :: g)) P Z := by
  obtain ⟨r, C', k1, k2, k3, k4⟩ := take_ok_b (g := g) hC h0 h1
  exact Eg.of k4 (k r C' k1 k2 k3)
/-! ### names -/
def letters : Str := Str.ofString "abcdefghijklmnopqrstuvwxyz"
structure NmOk (x : Str) : Prop where
  l1 : 1 ≤ x.length
  l8 : x.length ≤ 8
  ok : ∀ c ∈ x.cps.toList, c ∈ letters.cps.toList
def nmB (x : Str) : Bool := decide (1 ≤ x.length) && decide (x.length ≤ 8) && x.cps.toList.all fun c => decide (c ∈ letters.cps.toList)
theorem nm_of {x : Str} (h : nmB x = true) : NmOk x := by
  simp only [nmB, Bool.and_eq_true, decide_eq_true_eq, List.all_eq_true] at h
  exact ⟨h.1.1, h.1.2, h.2⟩
theorem let_small : ∀ c ∈ letters.cps.toList, c < 0x110000 := by
  have : letters.cps.toList.all (fun c => decide (c < 0x110000)) = true := by decide +kernel
  intro c hc
  exact of_decide_eq_true (List.all_eq_true.mp this c hc)
theorem NmOk.str {x : Str} (h : NmOk x) : PyData.strOk x = true := ok_iff.mpr fun c hc => let_small c (h.ok c hc)
def words : List Str := Txt.split (Str.ofString "each call same unlike use kept show mark cell look ask told int key end item a b ab ba") (Str.ofString " ")
theorem words_ok : (words.all nmB && (words.length == 20)) = true := by decide +kernel
theorem words_nm {x : Str} (h : x ∈ words) : NmOk x := by
  have := words_ok
  simp only [Bool.and_eq_true, List.all_eq_true] at this
  exact nm_of (this.1 x h)
theorem words_len : words.length = 20 := by
  have := words_ok
  simp only [Bool.and_eq_true, beq_iff_eq] at this
  exact this.2
theorem letters_at {k : Int} (h0 : 0 ≤ k) (h1 : k < 26) : ∃ n, n ∈ letters.cps.toList ∧ letters.cps.toList[k.toNat]? = some n := by
  have hl : letters.cps.toList.length = 26 := by decide +kernel
  have hk : k.toNat < letters.cps.toList.length := by omega
  exact ⟨_, List.getElem_mem hk, List.getElem?_eq_getElem hk⟩
theorem ix_letter {k : Int} {m : Store} (h0 : 0 ≤ k) (h1 : k < 26) : ∃ n, n ∈ letters.cps.toList ∧ ixG (.p (.str (Str.ofString "abcdefghijklmnopqrstuvwxyz"))) (.p (.int k)) m = some (.p (.str ⟨#[n]⟩), m) := by
  obtain ⟨n, k1, k2⟩ := letters_at h0 h1
  refine ⟨n, k1, alt_some ?_⟩
  rw [ixD_str (lsz (by decide)) h0, show Str.ofString "abcdefghijklmnopqrstuvwxyz" = letters from rfl, k2]
  rfl
/-- what is joined of signs -/
theorem join_signs : ∀ ns : List Nat, Txt.join (Str.ofString "") (ns.map fun n => (⟨#[n]⟩ : Str)) = ⟨ns.toArray⟩ := by
  intro ns
  have key : ∀ (ns : List Nat) (acc : Array Nat), (ns.map fun n => (⟨#[n]⟩ : Str)).foldl (fun acc p => acc ++ (Str.ofString "").cps ++ p.cps) acc = acc ++ ns.toArray := by
    intro ns
    induction ns with
    | nil => intro acc; simp
    | cons n ns ih =>
      intro acc
      rw [List.map_cons, List.foldl_cons, ih]
      have : (Str.ofString "").cps = #[] := rfl
      rw [this]
      apply Array.ext'
      simp
  cases ns with
  | nil => rfl
  | cons n ns =>
    show (⟨((ns.map fun n => (⟨#[n]⟩ : Str))).foldl (fun acc p => acc ++ (Str.ofString "").cps ++ p.cps) #[n]⟩ : Str) = _
    rw [key]
    congr 1
    apply Array.ext'
    simp
theorem join_one (ns : List Nat) (m : Store) (h : ns.length ≤ 1000) : joinD (.p (.str (Str.ofString ""))) [.p (.list (ns.map fun n => PyData.str ⟨#[n]⟩))] m = some (.p (.str ⟨ns.toArray⟩), m) := by
  have e1 : txtsOf ((ns.map fun n => PyData.str ⟨#[n]⟩).map D.p) = some (ns.map fun n => (⟨#[n]⟩ : Str)) := by
    clear h
    induction ns with
    | nil => rfl
    | cons n ns ih => simp only [List.map_cons, txtsOf, ih, Option.map_some]
  have e2 : ((ns.map fun n => (⟨#[n]⟩ : Str)).map (·.length)).sum = ns.length := by
    clear h e1
    induction ns with
    | nil => rfl
    | cons n ns ih =>
      simp only [List.map_cons, List.sum_cons, ih, List.length_cons]
      have : Str.length ⟨#[n]⟩ = 1 := rfl
      rw [this]; omega
  have e3 : (Str.ofString "").length = 0 := rfl
  simp only [joinD, lstOf, e1]
  rw [if_pos (by rw [e2, e3, List.length_map]; omega), join_signs]
/-- letters, at most n of them -/
theorem labels_ev {many : Int} {cs : List PyData} {g : List Cell} {C : Cell} {P : D → List Cell → Prop} {Z : Exn → List Cell → Prop} (hC : bagsOk cs C) (h0 : 0 < many) (h1 : many ≤ 20)
    (k : ∀ (xs : List Str) C', xs.length = many.toNat → (∀ x ∈ xs, NmOk x) → bagsOk cs C' → P (.p (.list (xs.map .str))) (C' :: g)) : Eg (den__law_draw_labels [.cell (.g 0), .p (.int many)] (C :: g)) P Z := by
  rw [eq__law_draw_labels]
  unfold body__law_draw_labels st__law_draw_labels_1 st__law_draw_labels_2
  walk_at "ev"
  refine take_ev hC (by decide) (by decide) fun way C1 w0 w1 hC1 => ?_
  refine take_ev hC1 (by decide) (by decide) fun turn C2 t0 t1 hC2 => ?_
  walk_at "ev"
  rw [splitD_z (by decide +kernel)]
  change Ev (lift (some (D.p (.list (words.map .str)), _))) _ _
  walk_at "ev"
  unfold st__law_draw_labels_3
  walk_at "ev"
  refine take_ev hC2 (by decide) (by decide) fun r C3 r0 r1 hC3 => ?_
  walk_at "ev"
  refine ev_rng r0 (by omega) (ev_sz (by rw [rngL_len]; omega) ?_)
  walk_at "ev"
  refine ev_lc (fun j acc m => ∃ ns C', acc = (ns.map fun n => PyData.str ⟨#[n]⟩).map D.p ∧ ns.length = j ∧ (∀ n ∈ ns, n ∈ letters.cps.toList) ∧ m = ⟨C' :: g, []⟩ ∧ bagsOk cs C') ⟨[], C3, rfl, rfl, by simp, rfl, hC3⟩ ?_ ?_
  · rintro j d hd acc m ⟨ns, C', rfl, hl, hn, rfl, hC'⟩
    refine ⟨_, rfl, ?_⟩
    unfold yesT ce__law_draw_labels_1
    walk_at "ev"
    refine take_ev hC' (by decide) (by decide) fun k C4 k0 k1 hC4 => ?_
    obtain ⟨n, n1, n2⟩ := ix_letter (m := ⟨C4 :: g, []⟩) k0 k1
    rw [n2]
    walk_at "ev"
    refine ⟨ns ++ [n], C4, by simp, by simp [hl], ?_, rfl, hC4⟩
    intro x hx
    rcases List.mem_append.mp hx with hx | hx
    · exact hn x hx
    · rw [List.mem_singleton.mp hx]; exact n1
  rintro ys m ⟨ns, C4, rfl, hl, hn, rfl, hC4⟩
  rw [rngL_len] at hl
  walk_at "ev"
  rw [mkLst_p, join_one ns _ (by omega)]
  walk_at "ev"
  unfold st__law_draw_labels_4
  walk_at "ev"
  have hW := words_len
  by_cases c1 : way = 0
  · subst c1
    have cm : ∀ {xs : List Str} {lo hi : Option Int}, cut (xs.map PyData.str) lo hi = (cut xs lo hi).map PyData.str := fun {xs lo hi} => by simp only [cut, List.length_map, List.map_take, List.map_drop]
    have hs : (cut words (some turn) none).length + (cut words none (some turn)).length ≤ sizeLine := lsz (by rw [cut_len, cut_len, hW]; omega)
    have ea : ∀ {m : Store}, addD .z (.p (.list ((cut words (some turn) none).map .str))) (.p (.list ((cut words none (some turn)).map .str))) m = some (.p (.list ((cut words (some turn) none ++ cut words none (some turn)).map .str)), m) := fun {m} => by
      rw [addD_list (by rw [List.length_map, List.length_map]; exact hs), List.map_append]
    simp only [beq_self_eq_true, if_true]
    walk_at "ev"
    simp only [cm, ea]
    walk_at "ev"
    simp only [cm]
    refine k _ C4 ?_ (fun x hx => words_nm ((List.mem_append.mp (cut_mem hx)).elim cut_mem cut_mem)) hC4
    rw [cut_len, List.length_append, cut_len, cut_len, hW]
    simp only [HT.sIx]
    rw [if_neg (show ¬ turn < 0 by omega), if_neg (show ¬ many < 0 by omega)]
    omega
  · have c2 : (way == 0) = false := by simpa using c1
    simp only [c2]
    walk_at "ev"
    refine ev_rng (by omega) (by omega) (ev_sz (by rw [rngL_len]; omega) ?_)
    walk_at "ev"
    refine ev_lc (fun j acc m => ∃ xs : List Str, acc = (xs.map PyData.str).map D.p ∧ xs.length = j ∧ (∀ x ∈ xs, NmOk x) ∧ m = ⟨C4 :: g, []⟩) ⟨[], rfl, rfl, by simp, rfl⟩ ?_ ?_
    · rintro j d hd acc m ⟨xs, rfl, hx, hx2, rfl⟩
      obtain ⟨hj, rfl⟩ := rngL_get hd
      refine ⟨_, rfl, ?_⟩
      unfold yesT ce__law_draw_labels_2
      have s3 : small 3 = true := by decide
      walk_at "ev"
      rw [mul_l s3]
      walk_at "ev"
      rw [modI_int (show (0 : Int) < 26 by decide)]
      walk_at "ev"
      obtain ⟨n, n1, n2⟩ := ix_letter (m := ⟨C4 :: g, []⟩) (k := (turn + 3 * (j : Int)) % 26) (Int.emod_nonneg _ (by decide)) (Int.emod_lt_of_pos _ (by decide))
      rw [n2]
      walk_at "ev"
      have l1 : Str.length ⟨ns.toArray⟩ = ns.length := by simp [Str.length]
      have l2 : Str.length ⟨#[n]⟩ = 1 := rfl
      rw [addD_str (lsz (by rw [l1, l2]; omega))]
      walk_at "ev"
      refine ⟨xs ++ [⟨ns.toArray⟩ ++ ⟨#[n]⟩], by simp, by simp [hx], ?_⟩
      intro x h
      rcases List.mem_append.mp h with h | h
      · exact hx2 x h
      · rw [List.mem_singleton.mp h]
        refine ⟨by rw [len_app, l1, l2]; omega, by rw [len_app, l1, l2]; omega, fun c hc => ?_⟩
        rw [app_cps] at hc
        rcases List.mem_append.mp hc with hc | hc
        · exact hn c (by simpa using hc)
        · rw [List.mem_singleton.mp hc]; exact n1
    · rintro ys m ⟨xs, rfl, hx, hx2, rfl⟩
      walk_at "ev"
      rw [mkLst_p]
      rw [rngL_len] at hx
      exact ⟨rfl, k xs C4 hx hx2 hC4⟩
end K90
namespace K90
open PySem PySem.Spec PyProof.Rows L2 L2.Dn
local macro_rules | `(tactic| walk_at "ev") => `(tactic| try simp only [seqS, ifS, setS, asgS, subG, augI, retS, exprS, nilS, testE, opE_eq, calE, consA, nilA, cE, notT, andT, orT, tvE, ifE, tupE, lstE, callE, metE, dmE, unE, slE, noO, someO, chE, forE, rng1I_eq, rngK_p, walkI, enumI, nameG, tupG, consG, nilG, parS, par3S, lcE, fldE, vE_0, vE_s, bind_ok, bindS_ok, lift_some, testR_ok, seq_nx, seq_rt, List.set_cons_zero, List.set_cons_succ, wipeR, ev_ok, ev_bind, ev_lift, ev_test, isB_p, es_bindS, es_seq, es_nx, es_rt, eg_fin, ev_call, eg_ok, addI_int, L2.Dn.ite_tt, L2.Dn.ite_ff, addD_int, subI_int, ltI_int, leI_int, gtI_int, geI_int, eqG_int, intD_int, negI_int, lenG_list, lenG_tuple, Bool.false_eq_true, if_false, if_true, nls_nil, nls_p, nls_g, nls_fn, nl_p, nl_g, true_and, List.length_cons, List.length_nil, tru_bool, Bool.not_true, Bool.not_false, decide_true, decide_false, and_self, and_true, reduceIte, ne_eq, not_true_eq_false, not_false_eq_true, mk0, mk1, mk2, mk3, mk4, ml0, ml1, ml2, ml3, ml4, ml5, ml6, tupOf_p, tupOf_t, isTy_s, isTy_l, newL_z, Nat.zero_le, sn1, sn2, sn3, sn4, sn5, sn6, sn7, sn8, sn9, sn10, sn11, sn12, sn13, sn14, sn15, sn16, sn17, sn18, sn19, sn20, sn21, sn22, sn23, sn24, dct0_l, dct0_z, new_l, new_g, at_l0, at_l1, at_l2, set_l0, set_l1, set_l2, List.nil_append, List.cons_append, frz_sk, Nat.zero_add, List.map_cons, List.map_nil, Nat.reduceAdd, Nat.reduceEqDiff, ev_exc, es_exc, slD_list, sz1, sz2, sz3, sz4, sz5, sz6, sz7, sz8, sz9, sz10, sz11, sz12, sz13, sz14, sz15, sz16, sz17, sz18, sz19, sz20, sz21, sz22, sz23, sz24])
local macro_rules | `(tactic| walk_at "evs") => `(tactic| try simp only [*, seqS, ifS, setS, asgS, subG, augI, retS, exprS, nilS, testE, opE_eq, calE, consA, nilA, cE, notT, andT, orT, tvE, ifE, tupE, lstE, callE, metE, dmE, unE, slE, noO, someO, chE, forE, rng1I_eq, rngK_p, walkI, enumI, nameG, tupG, consG, nilG, parS, par3S, lcE, fldE, vE_0, vE_s, bind_ok, bindS_ok, lift_some, testR_ok, seq_nx, seq_rt, List.set_cons_zero, List.set_cons_succ, wipeR, ev_ok, ev_bind, ev_lift, ev_test, isB_p, es_bindS, es_seq, es_nx, es_rt, eg_fin, ev_call, eg_ok, addI_int, L2.Dn.ite_tt, L2.Dn.ite_ff, addD_int, subI_int, ltI_int, leI_int, gtI_int, geI_int, eqG_int, intD_int, negI_int, lenG_list, lenG_tuple, Bool.false_eq_true, if_false, if_true, nls_nil, nls_p, nls_g, nls_fn, nl_p, nl_g, true_and, List.length_cons, List.length_nil, tru_bool, Bool.not_true, Bool.not_false, decide_true, decide_false, and_self, and_true, reduceIte, ne_eq, not_true_eq_false, not_false_eq_true, mk0, mk1, mk2, mk3, mk4, ml0, ml1, ml2, ml3, ml4, ml5, ml6, tupOf_p, tupOf_t, isTy_s, isTy_l, newL_z, Nat.zero_le, sn1, sn2, sn3, sn4, sn5, sn6, sn7, sn8, sn9, sn10, sn11, sn12, sn13, sn14, sn15, sn16, sn17, sn18, sn19, sn20, sn21, sn22, sn23, sn24, dct0_l, dct0_z, new_l, new_g, at_l0, at_l1, at_l2, set_l0, set_l1, set_l2, List.nil_append, List.cons_append, frz_sk, Nat.zero_add, List.map_cons, List.map_nil, Nat.reduceAdd, Nat.reduceEqDiff, ev_exc, es_exc, slD_list, sz1, sz2, sz3, sz4, sz5, sz6, sz7, sz8, sz9, sz10, sz11, sz12, sz13, sz14, sz15, sz16, sz17, sz18, sz19, sz20, sz21, sz22, sz23, sz24])
/-! ### the schema of functions -/
theorem bools_map {α : Type} (f : α → Bool) : ∀ xs : List α, bools (xs.map fun x => D.p (.bool (f x))) = some (xs.map f)
  | [] => rfl
  | x :: xs => by
    have := bools_map f xs
    simp only [List.map_cons, bools, this, mapO_some]
theorem all_true {α : Type} {xs : List α} {m : Store} : allD [.p (.list (xs.map fun _ => PyData.bool true))] m = some (.p (.bool true), m) := by
  have e : (xs.map fun _ => PyData.bool true).map D.p = xs.map fun x => D.p (.bool ((fun _ => true) x)) := by simp [Function.comp_def]
  simp only [allD, lstOf]
  rw [e, bools_map]
  simp only [mapO_some]
  congr 4
  simp
theorem in_letters {n : Nat} {m : Store} (h : n ∈ letters.cps.toList) : inG (.p (.str ⟨#[n]⟩)) (.p (.str (Str.ofString "abcdefghijklmnopqrstuvwxyz"))) m = some (.p (.bool true), m) := by
  have : inG (.p (.str ⟨#[n]⟩)) (.p (.str (Str.ofString "abcdefghijklmnopqrstuvwxyz"))) m = some (.p (.bool (decide (n ∈ (Str.ofString "abcdefghijklmnopqrstuvwxyz").cps.toList))), m) := rfl
  rw [this, decide_eq_true (show n ∈ (Str.ofString "abcdefghijklmnopqrstuvwxyz").cps.toList from h)]
theorem isi_s {x : Str} {m : Store} : isiD [.p (.str x), .ty "str"] m = some (.p (.bool true), m) := rfl
theorem name_ok {x : Str} (h : NmOk x) (g : List Cell) : den_is_name [.p (.str x)] g = .ok (.p (.bool true)) g := by
  have h1 := h.l1
  have h8 := h.l8
  have c1 : (1 : Int) ≤ x.length := by omega
  have c2 : (x.length : Int) ≤ 8 := by omega
  have ls : x.length ≤ sizeLine := lsz (by omega)
  have el : lenG [.p (.str x)] ⟨g, []⟩ = some (.p (.int x.length), ⟨g, []⟩) := by simp only [lenG, lenD_str ls]
  have lc : lcM (oneG 1) yesT ce_is_name_1 [some (.p (.str x)), none] (Dn.signs x) ⟨g, []⟩ = .ok ((x.cps.toList.map fun _ => PyData.bool true).map D.p) ⟨g, []⟩ := by
    have := lcM_map (g := oneG 1) (t := yesT) (fe := ce_is_name_1) (ρ := [some (.p (.str x)), none]) (m := ⟨g, []⟩) (ds := Dn.signs x) (f := fun _ => .p (.bool true)) fun d hd => by
      obtain ⟨n, hn, rfl⟩ := List.mem_map.mp hd
      refine ⟨_, rfl, rfl, ?_⟩
      unfold ce_is_name_1
      simp only [List.set_cons_zero, List.set_cons_succ, opE_eq, vE_0, vE_s, cE, bind_ok, in_letters (h.ok n hn), lift_some]
    rw [this]
    simp only [Dn.signs, List.map_map]
    rfl
  have sl : (Dn.signs x).length ≤ 100000 := by rw [show (Dn.signs x).length = x.length by rw [len_cps]; simp [Dn.signs]]; omega
  rw [eq_is_name]
  simp only [body_is_name, st_is_name_1, seqS, ifS, orT, notT, tvE, testE, calE, consA, nilA, vE_0, tyE, bind_ok, isi_s, lift_some, tru_bool, Bool.not_true, Bool.false_eq_true, if_false, chE, cE, el, leI_int, decide_eq_true c1, decide_eq_true c2, testR_ok, bindS_ok, nilS, seq_nx, retS, lcE, walkI, itemsZ, wipeR, List.set_cons_zero, List.set_cons_succ, if_pos (lsz sl), lc, newL, mkLst_p, all_true, fin_rt]
def kindsL : List Str := [Str.ofString "fixed", Str.ofString "stable", Str.ofString "changing", Str.ofString "effect"]
theorem kind_ok {k : Str} (h : k ∈ kindsL) (g : List Cell) : den_is_kind [.p (.str k)] g = .ok (.p (.bool true)) g := by
  simp only [kindsL, List.mem_cons, List.not_mem_nil, or_false] at h
  rcases h with rfl | rfl | rfl | rfl <;> rfl
theorem int_ok (i : Int) (g : List Cell) : den_is_integer [.p (.int i)] g = .ok (.p (.bool true)) g := rfl
def shp (n : Int) (k : Str) : PyData := .tuple [.int n, .str k]
theorem shape_ok {n : Int} {k : Str} (h0 : 0 ≤ n) (h3 : n ≤ 3) (h : k ∈ kindsL) (g : List Cell) : den_is_shape [.p (shp n k)] g = .ok (.p (.bool true)) g := by
  have : Eg (den_is_shape [.p (shp n k)] g) (fun d g' => d = .p (.bool true) ∧ g' = g) nXg := by
    have i0 : ∀ m, ixG (.p (.tuple [.int n, .str k])) (.p (.int 0)) m = some (.p (.int n), m) := fun _ => rfl
    have i1 : ∀ m, ixG (.p (.tuple [.int n, .str k])) (.p (.int 1)) m = some (.p (.str k), m) := fun _ => rfl
    have it : ∀ m, isiD [.p (.tuple [.int n, .str k]), .ty "tuple"] m = some (.p (.bool true), m) := fun _ => rfl
    have e2 : (((2 : Nat) : Int) == 2) = true := rfl
    have e3 := kind_ok h
    have e4 := int_ok
    have d0 := decide_eq_true h0
    have d3 := decide_eq_true h3
    rw [eq_is_shape]
    unfold body_is_shape st_is_shape_1 st_is_shape_2 shp tyE andG
    walk_at "evs"
    walk_at "evs"
    trace_state
    done
  obtain ⟨d, g', e, rfl, rfl⟩ := this.get
  exact e
/-! ### functions by name -/
abbrev Fns := List (Str × Int × Str)
def fS (fs : Fns) : List (Str × PyData) := fs.map fun q => (q.1, shp q.2.1 q.2.2)
structure FnOk1 (q : Str × Int × Str) : Prop where
  nm : NmOk q.1
  s0 : 0 ≤ q.2.1
  s3 : q.2.1 ≤ 3
  kd : q.2.2 ∈ kindsL
structure FsOk (fs : Fns) : Prop where
  one : ∀ q ∈ fs, FnOk1 q
  len : fs.length ≤ 6
theorem fS_len (fs : Fns) : (fS fs).length = fs.length := by simp [fS]
theorem isi_d {kv : List (PyData × PyData)} {m : Store} : isiD [.p (.dict kv), .ty "dict"] m = some (.p (.bool true), m) := rfl
theorem dictof_ok {fs : Fns} (h : FsOk fs) (g : List Cell) : den_is_dict_of [.fn "is_shape", .p (sd (fS fs))] g = .ok (.p (.bool true)) g := by
  have hl := h.len
  have e1 : lenG [.p (sd (fS fs))] ⟨g, []⟩ = some (.p (.int fs.length), ⟨g, []⟩) := by rw [len_sd (by rw [fS_len]; omega), fS_len]
  have c6 : ¬ (6 : Int) < fs.length := by omega
  have lc : lcM (manyG [2, 3]) yesT ce_is_dict_of_1 [some (.fn "is_shape"), some (.p (sd (fS fs))), none, none] (((fS fs).map fun q => PyData.tuple [.str q.1, q.2]).map D.p) ⟨g, []⟩ = .ok ((fs.map fun _ => PyData.bool true).map D.p) ⟨g, []⟩ := by
    have := lcM_map (g := manyG [2, 3]) (t := yesT) (fe := ce_is_dict_of_1) (ρ := [some (.fn "is_shape"), some (.p (sd (fS fs))), none, none]) (m := ⟨g, []⟩) (ds := ((fS fs).map fun q => PyData.tuple [.str q.1, q.2]).map D.p) (f := fun _ => .p (.bool true)) fun d hd => by
      obtain ⟨p, hp, rfl⟩ := List.mem_map.mp hd
      obtain ⟨q, hq, rfl⟩ := List.mem_map.mp hp
      obtain ⟨f, hf, rfl⟩ := List.mem_map.mp hq
      have k := h.one f hf
      refine ⟨_, rfl, rfl, ?_⟩
      have c1 : callR den_is_name [.p (.str f.1)] ⟨g, []⟩ = .ok (.p (.bool true)) ⟨g, []⟩ := by unfold callR; rw [name_ok k.nm]; rfl
      have c2 : callR den_is_shape [.p (shp f.2.1 f.2.2)] ⟨g, []⟩ = .ok (.p (.bool true)) ⟨g, []⟩ := by unfold callR; rw [shape_ok k.s0 k.s3 k.kd]; rfl
      have c3 : fnOfD [("are_columns", den_are_columns), ("is_shape", den_is_shape)] (.fn "is_shape") = some den_is_shape := rfl
      unfold ce_is_dict_of_1
      simp only [List.map_cons, List.map_nil, List.set_cons_zero, List.set_cons_succ, andG, callE, callV, consA, nilA, vE_0, vE_s, bind_ok, c1, c2, c3, tru_bool]
    rw [this]
    simp [fS, Function.comp_def]
  rw [eq_is_dict_of]
  have ez : dctZ (.p (sd (fS fs))) = some (((fS fs).map fun q => (PyData.str q.1, q.2)).map (·.1), (((fS fs).map fun q => (PyData.str q.1, q.2)).map (·.2)).map D.p) := rfl
  have i1 : isiD [.p (sd (fS fs)), .ty "dict"] ⟨g, []⟩ = some (.p (.bool true), ⟨g, []⟩) := rfl
  simp only [body_is_dict_of, st_is_dict_of_1, seqS, ifS, orT, notT, tvE, testE, opE_eq, calE, consA, nilA, vE_0, vE_s, tyE, cE, bind_ok, i1, lift_some, tru_bool, Bool.not_true, Bool.false_eq_true, if_false, e1, gtI_int, decide_eq_false c6, testR_ok, bindS_ok, nilS, seq_nx, retS, lcE, itmsI, ez, itms_sd, wipeR, List.set_cons_zero, List.set_cons_succ, if_pos (lsz (show (((fS fs).map fun q => PyData.tuple [.str q.1, q.2]).map D.p).length ≤ 100000 by simp [fS]; omega)), lc, newL, mkLst_p, all_true, fin_rt]
theorem columns_ok (g : List Cell) : den_is_dict_of [.fn "are_columns", .p (.dict [])] g = .ok (.p (.bool true)) g := rfl
theorem refs_ok (g : List Cell) : den_is_list_of [.fn "is_reference", .p (.tuple [])] g = .ok (.p (.bool true)) g := rfl
theorem made_ok (g : List Cell) : den_is_list_of [.fn "is_made", .p (.tuple [])] g = .ok (.p (.bool true)) g := rfl
/-! ### the instance at the store's end -/
section
variable {G l : List Cell} {x y : Cell}
theorem at_last : (⟨G ++ [x], l⟩ : Store).at_ (.g G.length) = some x := by rw [gat]; simp
theorem set_last : (⟨G ++ [x], l⟩ : Store).set y (.g G.length) = ⟨G ++ [y], l⟩ := by rw [gset]; simp
theorem setF_last {f : Str} {d : PyData} {fs : List (Str × D)} (hl : fs.length < 1000) : setFD ["Schema"] f (.cell (.g G.length)) (.p d) ⟨G ++ [.ins "Schema" fs], l⟩ = some ⟨G ++ [.ins "Schema" (putFD f (.p d) fs)], l⟩ := by
  simp only [setFD, at_last, List.mem_singleton, true_and, okIn_p, and_true, hl, if_true, set_last]
theorem fld_last {f : Str} {d : D} {fs : List (Str × D)} (h : ((fs.map (·.1)).zip (fs.map (·.2))).lookup f = some d) : fldD [] ["Schema"] f (.cell (.g G.length)) ⟨G ++ [.ins "Schema" fs], l⟩ = some (d, ⟨G ++ [.ins "Schema" fs], l⟩) := by
  simp only [fldD, at_last, fldIn, List.mem_singleton, if_true, h, Option.map_some]
theorem met_last {f : Str} {den : Den} {fs : List (Str × D)} (h : f ∉ fs.map (·.1)) : metOf [("Schema", den)] f (.cell (.g G.length)) ⟨G ++ [.ins "Schema" fs], l⟩ = some den := by
  simp only [metOf, insN, at_last, if_neg h]
  rfl
end
def F3 (fs : Fns) : List (Str × D) := [("its_columns", .p (.dict [])), ("its_shapes", .p (sd (fS fs))), ("its_keys", .p (.dict []))]
def F4 (fs : Fns) : List (Str × D) := [("its_columns", .p (.dict [])), ("its_shapes", .p (sd (fS fs))), ("its_keys", .p (.dict [])), ("its_references", .p (.list []))]
def F5 (fs : Fns) : List (Str × D) := [("its_columns", .p (.dict [])), ("its_shapes", .p (sd (fS fs))), ("its_keys", .p (.dict [])), ("its_references", .p (.list [])), ("its_made", .p (.list []))]
theorem sort_nil (m : Store) : sortG .z [.p (.dict [])] m = some (.p (.list []), m) := by
  have h := sort_sd (kv := []) (m := m) (Nat.zero_le _)
  have e : srtS ([] : List Str) = [] := List.Perm.eq_nil (srtS_perm [])
  rw [List.map_nil, e] at h
  exact h
theorem keys_ok (fs : Fns) (G : List Cell) : den_Schema_check_keys [.cell (.g G.length)] (G ++ [.ins "Schema" (F3 fs)]) = .ok (.p .none) (G ++ [.ins "Schema" (F3 fs)]) := by
  have e1 := fld_last (G := G) (l := []) (f := "its_keys") (d := .p (.dict [])) (fs := F3 fs) rfl
  have e2 := sort_nil ⟨G ++ [.ins "Schema" (F3 fs)], []⟩
  rw [eq_Schema_check_keys]
  simp only [body_Schema_check_keys, forE, walkI, calE, consA, nilA, fldE, vE_0, bind_ok, e1, lift_some, e2, itemsZ, List.map_nil, bindS_ok, forS]
  rfl
theorem crefs_ok (fs : Fns) (G : List Cell) : den_Schema_checked_references [.cell (.g G.length), .p (.list [])] (G ++ [.ins "Schema" (F3 fs)]) = .ok (.p (.list [])) (G ++ [.ins "Schema" (F3 fs)]) := rfl
theorem cmade_ok (fs : Fns) (G : List Cell) : den_Schema_checked_made [.cell (.g G.length), .p (.list [])] (G ++ [.ins "Schema" (F4 fs)]) = .ok (.p (.list [])) (G ++ [.ins "Schema" (F4 fs)]) := by
  have e1 := fld_last (G := G) (l := [.dct []]) (f := "its_references") (d := .p (.list [])) (fs := F4 fs) rfl
  rw [eq_Schema_checked_made]
  simp only [body_Schema_checked_made, seqS, setS, dct0E, newD, List.map_nil, nxs, if_true, bindS_ok, seq_nx, List.set_cons_zero, List.set_cons_succ, sc0E, walkI, fldE, vE_0, vE_s, bind_ok]
  show fin (SRes.seq (Res.bindS ((lift (fldD [] ["Schema"] "its_references" (.cell (.g G.length)) ⟨G ++ [.ins "Schema" (F4 fs)], [.dct []]⟩)).bind _ |>.bind _) _ _) _) = _
  rw [e1]
  rfl
theorem rings_ok (fs : Fns) (G : List Cell) : den_Schema_check_rings [.cell (.g G.length)] (G ++ [.ins "Schema" (F5 fs)]) = .ok (.p .none) (G ++ [.ins "Schema" (F5 fs)]) := by
  have e1 := fld_last (G := G) (l := []) (f := "its_made") (d := .p (.list [])) (fs := F5 fs) rfl
  rw [eq_Schema_check_rings]
  simp only [body_Schema_check_rings, forE, walkI, fldE, vE_0, bind_ok, e1, lift_some, itemsZ, List.map_nil, bindS_ok, forS]
  rfl
theorem init_ok {fs : Fns} (h : FsOk fs) (G : List Cell) : den_Schema___init__ [.cell (.g G.length), .p (.dict []), .p (sd (fS fs)), .p .none, .p (.tuple []), .p (.tuple [])] (G ++ [.ins "Schema" []]) = .ok (.p .none) (G ++ [.ins "Schema" (F5 fs)]) := by
  have this : Eg (den_Schema___init__ [.cell (.g G.length), .p (.dict []), .p (sd (fS fs)), .p .none, .p (.tuple []), .p (.tuple [])] (G ++ [.ins "Schema" []])) (fun d g' => d = .p .none ∧ g' = G ++ [.ins "Schema" (F5 fs)]) nXg := by
    have hl := h.len
    have d1 : ∀ m, dictD .z [.p (sd (fS fs))] m = some (.p (sd (fS fs)), m) := fun m => dict_sd (by rw [fS_len]; omega)
    have d2 : ∀ m, dictD .z [.p (.dict [])] m = some (.p (.dict []), m) := fun m => dict_sd (kv := []) (Nat.zero_le _)
    have l2 : ∀ m, listG .z [.p (.tuple [])] m = some (.p (.list []), m) := fun m => rfl
    have n1 : ∀ m, isG true (.p .none) (.p .none) m = some (.p (.bool false), m) := fun m => rfl
    have t0 : ∀ m, truG (.p .none) m = some false := fun m => rfl
    have s0 : setFD ["Schema"] "its_columns" (.cell (.g G.length)) (.p (.dict [])) ⟨G ++ [.ins "Schema" []], []⟩ = some ⟨G ++ [.ins "Schema" [("its_columns", .p (.dict []))]], []⟩ := by rw [setF_last (by show _ < 1000; first | exact (by decide : (0:Nat) < 1000) | exact (by decide : (1:Nat) < 1000) | exact (by decide : (2:Nat) < 1000) | exact (by decide : (3:Nat) < 1000) | exact (by decide : (4:Nat) < 1000))]; rfl
    have s1 : setFD ["Schema"] "its_shapes" (.cell (.g G.length)) (.p (sd (fS fs))) ⟨G ++ [.ins "Schema" [("its_columns", .p (.dict []))]], []⟩ = some ⟨G ++ [.ins "Schema" [("its_columns", .p (.dict [])), ("its_shapes", .p (sd (fS fs)))]], []⟩ := by rw [setF_last (by show _ < 1000; first | exact (by decide : (0:Nat) < 1000) | exact (by decide : (1:Nat) < 1000) | exact (by decide : (2:Nat) < 1000) | exact (by decide : (3:Nat) < 1000) | exact (by decide : (4:Nat) < 1000))]; rfl
    have s2 : setFD ["Schema"] "its_keys" (.cell (.g G.length)) (.p (.dict [])) ⟨G ++ [.ins "Schema" [("its_columns", .p (.dict [])), ("its_shapes", .p (sd (fS fs)))]], []⟩ = some ⟨G ++ [.ins "Schema" (F3 fs)], []⟩ := by rw [setF_last (by show _ < 1000; first | exact (by decide : (0:Nat) < 1000) | exact (by decide : (1:Nat) < 1000) | exact (by decide : (2:Nat) < 1000) | exact (by decide : (3:Nat) < 1000) | exact (by decide : (4:Nat) < 1000))]; rfl
    have s3 : setFD ["Schema"] "its_references" (.cell (.g G.length)) (.p (.list [])) ⟨G ++ [.ins "Schema" (F3 fs)], []⟩ = some ⟨G ++ [.ins "Schema" (F4 fs)], []⟩ := by rw [setF_last (by show _ < 1000; first | exact (by decide : (0:Nat) < 1000) | exact (by decide : (1:Nat) < 1000) | exact (by decide : (2:Nat) < 1000) | exact (by decide : (3:Nat) < 1000) | exact (by decide : (4:Nat) < 1000))]; rfl
    have s4 : setFD ["Schema"] "its_made" (.cell (.g G.length)) (.p (.list [])) ⟨G ++ [.ins "Schema" (F4 fs)], []⟩ = some ⟨G ++ [.ins "Schema" (F5 fs)], []⟩ := by rw [setF_last (by show _ < 1000; first | exact (by decide : (0:Nat) < 1000) | exact (by decide : (1:Nat) < 1000) | exact (by decide : (2:Nat) < 1000) | exact (by decide : (3:Nat) < 1000) | exact (by decide : (4:Nat) < 1000))]; rfl
    have m1 : metOf [("Schema", den_Schema_check_keys)] "check_keys" (.cell (.g G.length)) ⟨G ++ [.ins "Schema" (F3 fs)], []⟩ = some den_Schema_check_keys := met_last (by change ¬ (Str.ofString "check_keys") ∈ ([Str.ofString "its_columns", Str.ofString "its_shapes", Str.ofString "its_keys"] : List Str); decide)
    have m2 : metOf [("Schema", den_Schema_checked_references)] "checked_references" (.cell (.g G.length)) ⟨G ++ [.ins "Schema" (F3 fs)], []⟩ = some den_Schema_checked_references := met_last (by change ¬ (Str.ofString "checked_references") ∈ ([Str.ofString "its_columns", Str.ofString "its_shapes", Str.ofString "its_keys"] : List Str); decide)
    have m3 : metOf [("Schema", den_Schema_checked_made)] "checked_made" (.cell (.g G.length)) ⟨G ++ [.ins "Schema" (F4 fs)], []⟩ = some den_Schema_checked_made := met_last (by change ¬ (Str.ofString "checked_made") ∈ ([Str.ofString "its_columns", Str.ofString "its_shapes", Str.ofString "its_keys", Str.ofString "its_references"] : List Str); decide)
    have m4 : metOf [("Schema", den_Schema_check_rings)] "check_rings" (.cell (.g G.length)) ⟨G ++ [.ins "Schema" (F5 fs)], []⟩ = some den_Schema_check_rings := met_last (by change ¬ (Str.ofString "check_rings") ∈ ([Str.ofString "its_columns", Str.ofString "its_shapes", Str.ofString "its_keys", Str.ofString "its_references", Str.ofString "its_made"] : List Str); decide)
    have k1 := keys_ok fs G
    have k2 := crefs_ok fs G
    have k3 := cmade_ok fs G
    have k4 := rings_ok fs G
    have nd : ∀ m, newD .z [] m = .ok (.p (.dict [])) m := fun m => rfl
    have dc : ∀ {ρ : Rho} {m : Store}, dcE .z [6, 7] (itmsI (vE 1)) (manyG [6, 7]) yesT (vE 6) (calE (listG .z) (consA (vE 7) nilA)) (some (.cell (.g G.length)) :: some (.p (.dict [])) :: ρ) m = .ok (.p (.dict [])) m := fun {ρ m} => rfl
    have c1 := columns_ok (G ++ [.ins "Schema" []])
    have c2 := dictof_ok h (G ++ [.ins "Schema" []])
    have c3 := refs_ok (G ++ [.ins "Schema" []])
    have c4 := made_ok (G ++ [.ins "Schema" []])
    rw [eq_Schema___init__]
    unfold body_Schema___init__ st_Schema___init___1 st_Schema___init___2 st_Schema___init___3 st_Schema___init___4 st_Schema___init___5 st_Schema___init___6 st_Schema___init___7 st_Schema___init___8 fnE setFS orG dct0E exprS methE
    walk_at "evs"
    walk_at "evs"
    trace_state
    done
  obtain ⟨d, g', e, rfl, rfl⟩ := this.get
  exact e
end K90
namespace K90
open PySem PySem.Spec PyProof.Rows L2 L2.Dn
local macro_rules | `(tactic| walk_at "ev") => `(tactic| try simp only [seqS, ifS, setS, asgS, subG, augI, retS, exprS, nilS, testE, opE_eq, calE, consA, nilA, cE, notT, andT, orT, tvE, ifE, tupE, lstE, callE, metE, dmE, unE, slE, noO, someO, chE, forE, rng1I_eq, rngK_p, walkI, enumI, nameG, tupG, consG, nilG, parS, par3S, lcE, fldE, vE_0, vE_s, bind_ok, bindS_ok, lift_some, testR_ok, seq_nx, seq_rt, List.set_cons_zero, List.set_cons_succ, wipeR, ev_ok, ev_bind, ev_lift, ev_test, isB_p, es_bindS, es_seq, es_nx, es_rt, eg_fin, ev_call, eg_ok, addI_int, L2.Dn.ite_tt, L2.Dn.ite_ff, addD_int, subI_int, ltI_int, leI_int, gtI_int, geI_int, eqG_int, intD_int, negI_int, lenG_list, lenG_tuple, Bool.false_eq_true, if_false, if_true, nls_nil, nls_p, nls_g, nls_fn, nl_p, nl_g, true_and, List.length_cons, List.length_nil, tru_bool, Bool.not_true, Bool.not_false, decide_true, decide_false, and_self, and_true, reduceIte, ne_eq, not_true_eq_false, not_false_eq_true, mk0, mk1, mk2, mk3, mk4, ml0, ml1, ml2, ml3, ml4, ml5, ml6, tupOf_p, tupOf_t, isTy_s, isTy_l, newL_z, Nat.zero_le, sn1, sn2, sn3, sn4, sn5, sn6, sn7, sn8, sn9, sn10, sn11, sn12, sn13, sn14, sn15, sn16, sn17, sn18, sn19, sn20, sn21, sn22, sn23, sn24, dct0_l, dct0_z, new_l, new_g, at_l0, at_l1, at_l2, set_l0, set_l1, set_l2, List.nil_append, List.cons_append, frz_sk, Nat.zero_add, List.map_cons, List.map_nil, Nat.reduceAdd, Nat.reduceEqDiff, ev_exc, es_exc, slD_list, sz1, sz2, sz3, sz4, sz5, sz6, sz7, sz8, sz9, sz10, sz11, sz12, sz13, sz14, sz15, sz16, sz17, sz18, sz19, sz20, sz21, sz22, sz23, sz24])
local macro_rules | `(tactic| walk_at "evs") => `(tactic| try simp only [*, seqS, ifS, setS, asgS, subG, augI, retS, exprS, nilS, testE, opE_eq, calE, consA, nilA, cE, notT, andT, orT, tvE, ifE, tupE, lstE, callE, metE, dmE, unE, slE, noO, someO, chE, forE, rng1I_eq, rngK_p, walkI, enumI, nameG, tupG, consG, nilG, parS, par3S, lcE, fldE, vE_0, vE_s, bind_ok, bindS_ok, lift_some, testR_ok, seq_nx, seq_rt, List.set_cons_zero, List.set_cons_succ, wipeR, ev_ok, ev_bind, ev_lift, ev_test, isB_p, es_bindS, es_seq, es_nx, es_rt, eg_fin, ev_call, eg_ok, addI_int, L2.Dn.ite_tt, L2.Dn.ite_ff, addD_int, subI_int, ltI_int, leI_int, gtI_int, geI_int, eqG_int, intD_int, negI_int, lenG_list, lenG_tuple, Bool.false_eq_true, if_false, if_true, nls_nil, nls_p, nls_g, nls_fn, nl_p, nl_g, true_and, List.length_cons, List.length_nil, tru_bool, Bool.not_true, Bool.not_false, decide_true, decide_false, and_self, and_true, reduceIte, ne_eq, not_true_eq_false, not_false_eq_true, mk0, mk1, mk2, mk3, mk4, ml0, ml1, ml2, ml3, ml4, ml5, ml6, tupOf_p, tupOf_t, isTy_s, isTy_l, newL_z, Nat.zero_le, sn1, sn2, sn3, sn4, sn5, sn6, sn7, sn8, sn9, sn10, sn11, sn12, sn13, sn14, sn15, sn16, sn17, sn18, sn19, sn20, sn21, sn22, sn23, sn24, dct0_l, dct0_z, new_l, new_g, at_l0, at_l1, at_l2, set_l0, set_l1, set_l2, List.nil_append, List.cons_append, frz_sk, Nat.zero_add, List.map_cons, List.map_nil, Nat.reduceAdd, Nat.reduceEqDiff, ev_exc, es_exc, slD_list, sz1, sz2, sz3, sz4, sz5, sz6, sz7, sz8, sz9, sz10, sz11, sz12, sz13, sz14, sz15, sz16, sz17, sz18, sz19, sz20, sz21, sz22, sz23, sz24])
/-! ### what is drawn -/
theorem putS_map {α β : Type} (f : α → β) (kv : List (Str × α)) (n : Str) (v : α) : putS (kv.map fun q => (q.1, f q.2)) n (f v) = (putS kv n v).map fun q => (q.1, f q.2) := by
  have e : (kv.map fun q => (q.1, f q.2)).map (·.1) = kv.map (·.1) := by simp [Function.comp_def]
  unfold putS
  rw [e]
  split
  · rw [List.map_map, List.map_map]
    apply List.map_congr_left
    intro q _
    simp only [Function.comp]
    split <;> rfl
  · simp
def schD (fs : Fns) : D := .obj "Schema" ["its_columns", "its_shapes", "its_keys", "its_references", "its_made"] [.p (.dict []), .p (sd (fS fs)), .p (.dict []), .p (.list []), .p (.list [])]
theorem mk_ev {fs : Fns} {G l : List Cell} {P : D → Store → Prop} {X : Exn → Store → Prop} (h : FsOk fs) (k : P (schD fs) ⟨G ++ [.gone], l⟩) : Ev (makeR "Schema" den_Schema___init__ (fun s => gd_Schema_2_ [s, .p (.dict []), .p (sd (fS fs))] []) ⟨G, l⟩) P X := by
  have e : makeR "Schema" den_Schema___init__ (fun s => gd_Schema_2_ [s, .p (.dict []), .p (sd (fS fs))] []) ⟨G, l⟩ = .ok (schD fs) ⟨G ++ [.gone], l⟩ := by
    unfold makeR
    rw [if_pos (by rfl)]
    show (match den_Schema___init__ [.cell (.g G.length), .p (.dict []), .p (sd (fS fs)), .p .none, .p (.tuple []), .p (.tuple [])] (G ++ [.ins "Schema" []]) with
      | .ok (.p .none) g' => frzR (.ok (.cell (.g G.length)) ⟨g', l⟩)
      | .ok _ _ => .stuck
      | .exc x g' => .exc x ⟨g', l⟩
      | .stuck => .stuck) = _
    rw [init_ok h]
    simp only [frzR, at_last, frzC, set_last]
    rfl
  exact Ev.of e k
def spansL : List Str := [Str.ofString "never", Str.ofString "statement", Str.ofString "ever"]
abbrev Kps := List (Str × Str)
def kS (ks : Kps) : List (Str × PyData) := ks.map fun q => (q.1, .str q.2)
theorem pick {ds : List PyData} {b : Int} (m : Store) (h0 : 0 ≤ b) (h1 : b < ds.length) : ∃ d, d ∈ ds ∧ ixG (.p (.list ds)) (.p (.int b)) m = some (.p d, m) := by
  have hl : b.toNat < ds.length := by omega
  exact ⟨ds[b.toNat], List.getElem_mem hl, ixG_list h0 (List.getElem?_eq_getElem hl)⟩
structure KsOk (ks : Kps) : Prop where
  one : ∀ q ∈ ks, NmOk q.1 ∧ q.2 ∈ spansL
  len : ks.length ≤ 3
theorem drawn_ev {cs : List PyData} {g : List Cell} {C : Cell} {P : D → List Cell → Prop} {Z : Exn → List Cell → Prop} (hC : bagsOk cs C)
    (k : ∀ fs ks C', FsOk fs → fs ≠ [] → KsOk ks → bagsOk cs C' → P (.tup [.p (sd (fS fs)), schD fs, .p (sd (kS ks))]) (C' :: (g ++ [.gone]))) : Eg (den__law_drawn [.cell (.g 0)] (C :: g)) P Z := by
  rw [eq__law_drawn]
  unfold body__law_drawn st__law_drawn_1 st__law_drawn_2
  walk_at "ev"
  refine labels_ev hC (by decide) (by decide) fun xs C1 hx1 hx2 hC1 => ?_
  walk_at "ev"
  have m4 : ∀ (a b : PyData) (i j : Ix), mkTup [.p a, .p b, .cell i, .cell j] = .tup [.p a, .p b, .cell i, .cell j] := fun _ _ _ _ => rfl
  simp only [m4]
  walk_at "ev"
  refine take_ev hC1 (by decide) (by decide) fun r C2 r0 r1 hC2 => ?_
  walk_at "ev"
  simp only [itemsZ]
  walk_at "ev"
  have e0 : cut (xs.map PyData.str) none (some (1 + r)) = (cut xs none (some (1 + r))).map PyData.str := by simp only [cut, List.length_map, List.map_take, List.map_drop]
  have e1 : (cut xs none (some (1 + r))).length = min (1 + r).toNat 3 := by
    rw [cut_len, hx1]
    simp only [HT.sIx]
    rw [if_neg (by omega)]
    have : (3 : Int).toNat = 3 := rfl
    omega
  rw [e0]
  refine es_for (fun j ρ m => ∃ fs ks C' x5 x6, FsOk fs ∧ KsOk ks ∧ fs.length ≤ j ∧ ks.length ≤ j ∧ (0 < j → fs ≠ []) ∧ bagsOk cs C' ∧ m = ⟨C' :: g, [.dct (sk (fS fs)), .dct (sk (kS ks))]⟩ ∧
    ρ = [some (.cell (.g 0)), some (.p (.list (xs.map .str))), some (.p (.list [.str (Str.ofString "fixed"), .str (Str.ofString "stable"), .str (Str.ofString "changing"), .str (Str.ofString "effect")])), some (.cell (.l 0)), some (.cell (.l 1)), x5, x6])
    ⟨[], [], C2, none, none, ⟨by simp, by simp⟩, ⟨by simp, by simp⟩, Nat.le_refl _, Nat.le_refl _, fun z => absurd z (by decide), hC2, rfl, rfl⟩ ?_ ?_
  · rintro j d hd ρ m ⟨fs, ks, C3, x5, x6, hF, hK, lF, lK, nF, hC3, rfl, rfl⟩
    have hd2 := List.mem_of_getElem? hd
    have hj : j < 3 := by
      have := (List.getElem?_eq_some_iff.mp hd).1
      rw [List.length_map, List.length_map, e1] at this
      omega
    obtain ⟨p, hp, rfl⟩ := List.mem_map.mp hd2
    obtain ⟨n, hn, rfl⟩ := List.mem_map.mp hp
    have nmn : NmOk n := hx2 n (cut_mem hn)
    unfold lb__law_drawn_1
    walk_at "ev"
    refine take_ev hC3 (by decide) (by decide) fun a C4 a0 a1 hC4 => ?_
    walk_at "ev"
    refine take_ev hC4 (by decide) (by decide) fun b C5 b0 b1 hC5 => ?_
    walk_at "ev"
    obtain ⟨kd, hk1, hk2⟩ := pick (ds := [.str (Str.ofString "fixed"), .str (Str.ofString "stable"), .str (Str.ofString "changing"), .str (Str.ofString "effect")]) (b := b) ⟨C5 :: g, [.dct (sk (fS fs)), .dct (sk (kS ks))]⟩ b0 b1
    obtain ⟨kk, hkk, rfl⟩ : ∃ k ∈ kindsL, kd = .str k := by
      simp only [List.mem_cons, List.not_mem_nil, or_false] at hk1
      rcases hk1 with rfl | rfl | rfl | rfl <;> exact ⟨_, by simp [kindsL], rfl⟩
    rw [hk2]
    walk_at "ev"
    have s1 : setG (.cell (.l 0)) (.p (.str n)) (.p (.tuple [.int a, .str kk])) ⟨C5 :: g, [.dct (sk (fS fs)), .dct (sk (kS ks))]⟩ = some ⟨C5 :: g, [.dct (sk (fS (putS fs n (a, kk)))), .dct (sk (kS ks))]⟩ := by
      rw [set_sk (kv := fS fs) rfl (by rw [fS_len]; have := hF.len; omega)]
      rw [show fS (putS fs n (a, kk)) = putS (fS fs) n (.tuple [.int a, .str kk]) from (putS_map (fun q : Int × Str => shp q.1 q.2) fs n (a, kk)).symm]
      rfl
    rw [s1]
    walk_at "ev"
    have pl := put_len fs n (a, kk)
    have hF2 : FsOk (putS fs n (a, kk)) := ⟨fun q hq => (put_mem hq).elim (hF.one q) fun e => by rw [e]; exact ⟨nmn, a0, by show a ≤ 3; omega, hkk⟩, by omega⟩
    have nF2 : putS fs n (a, kk) ≠ [] := fun z => by rw [z] at pl; exact absurd pl.2.1 (by decide)
    refine take_ev hC5 (by decide) (by decide) fun c C6 c0 c1 hC6 => ?_
    walk_at "ev"
    obtain ⟨sp, hs1, hs2⟩ := pick (ds := [.str (Str.ofString "never"), .str (Str.ofString "statement"), .str (Str.ofString "ever"), .none]) (b := c) ⟨C6 :: g, [.dct (sk (fS (putS fs n (a, kk)))), .dct (sk (kS ks))]⟩ c0 c1
    rw [hs2]
    walk_at "ev"
    have hsp : sp = .none ∨ ∃ k ∈ spansL, sp = .str k := by
      simp only [List.mem_cons, List.not_mem_nil, or_false] at hs1
      rcases hs1 with rfl | rfl | rfl | rfl
      · exact .inr ⟨_, by simp [spansL], rfl⟩
      · exact .inr ⟨_, by simp [spansL], rfl⟩
      · exact .inr ⟨_, by simp [spansL], rfl⟩
      · exact .inl rfl
    rcases hsp with rfl | ⟨k, hk, rfl⟩
    · have n1 : ∀ m, isG true (.p .none) (.p .none) m = some (.p (.bool false), m) := fun m => rfl
      rw [n1]
      walk_at "ev"
      exact ⟨_, ks, C6, _, _, hF2, hK, by omega, by omega, fun _ => nF2, hC6, rfl, rfl⟩
    · have n1 : ∀ m, isG true (.p (.str k)) (.p .none) m = some (.p (.bool true), m) := fun m => rfl
      rw [n1]
      walk_at "ev"
      have s2 : setG (.cell (.l 1)) (.p (.str n)) (.p (.str k)) ⟨C6 :: g, [.dct (sk (fS (putS fs n (a, kk)))), .dct (sk (kS ks))]⟩ = some ⟨C6 :: g, [.dct (sk (fS (putS fs n (a, kk)))), .dct (sk (kS (putS ks n k)))]⟩ := by
        rw [set_sk (kv := kS ks) rfl (by simp [kS]; have := hK.len; omega)]
        rw [show kS (putS ks n k) = putS (kS ks) n (.str k) from (putS_map PyData.str ks n k).symm]
        rfl
      rw [s2]
      walk_at "ev"
      have pk := put_len ks n k
      exact ⟨_, _, C6, _, _, hF2, ⟨fun q hq => (put_mem hq).elim (hK.one q) fun e => by rw [e]; exact ⟨nmn, hk⟩, by omega⟩, by omega, by omega, fun _ => nF2, hC6, rfl, rfl⟩
  · rintro ρ m ⟨fs, ks, C3, x5, x6, hF, hK, lF, lK, nF, hC3, rfl, rfl⟩
    rw [List.length_map, List.length_map, e1] at nF
    unfold st__law_drawn_3
    rw [frzV_at rfl rfl frz_sk, frzV_at rfl rfl frz_sk]
    unfold makeE
    walk_at "ev"
    refine mk_ev hF ?_
    walk_at "ev"
    have m3 : ∀ (a b : PyData), mkTup [.p a, schD fs, .p b] = .tup [.p a, schD fs, .p b] := fun _ _ => rfl
    have m5 : ∀ (a b : PyData), nl (.tup [.p a, schD fs, .p b]) = true := fun _ _ => rfl
    simp only [m3, m5]
    exact ⟨trivial, k fs ks C3 hF (nF (by omega)) hK hC3⟩
end K90
namespace K90
open PySem PySem.Spec PyProof.Rows L2 L2.Dn
local macro_rules | `(tactic| walk_at "ev") => `(tactic| try simp only [seqS, ifS, setS, asgS, subG, augI, retS, exprS, nilS, testE, opE_eq, calE, consA, nilA, cE, notT, andT, orT, tvE, ifE, tupE, lstE, callE, metE, dmE, unE, slE, noO, someO, chE, forE, rng1I_eq, rngK_p, walkI, enumI, nameG, tupG, consG, nilG, parS, par3S, lcE, fldE, vE_0, vE_s, bind_ok, bindS_ok, lift_some, testR_ok, seq_nx, seq_rt, List.set_cons_zero, List.set_cons_succ, wipeR, ev_ok, ev_bind, ev_lift, ev_test, isB_p, es_bindS, es_seq, es_nx, es_rt, eg_fin, ev_call, eg_ok, addI_int, L2.Dn.ite_tt, L2.Dn.ite_ff, addD_int, subI_int, ltI_int, leI_int, gtI_int, geI_int, eqG_int, intD_int, negI_int, lenG_list, lenG_tuple, Bool.false_eq_true, if_false, if_true, nls_nil, nls_p, nls_g, nls_fn, nl_p, nl_g, true_and, List.length_cons, List.length_nil, tru_bool, Bool.not_true, Bool.not_false, decide_true, decide_false, and_self, and_true, reduceIte, ne_eq, not_true_eq_false, not_false_eq_true, mk0, mk1, mk2, mk3, mk4, ml0, ml1, ml2, ml3, ml4, ml5, ml6, tupOf_p, tupOf_t, isTy_s, isTy_l, newL_z, Nat.zero_le, sn1, sn2, sn3, sn4, sn5, sn6, sn7, sn8, sn9, sn10, sn11, sn12, sn13, sn14, sn15, sn16, sn17, sn18, sn19, sn20, sn21, sn22, sn23, sn24, dct0_l, dct0_z, new_l, new_g, at_l0, at_l1, at_l2, set_l0, set_l1, set_l2, List.nil_append, List.cons_append, frz_sk, Nat.zero_add, List.map_cons, List.map_nil, Nat.reduceAdd, Nat.reduceEqDiff, ev_exc, es_exc, slD_list, sz1, sz2, sz3, sz4, sz5, sz6, sz7, sz8, sz9, sz10, sz11, sz12, sz13, sz14, sz15, sz16, sz17, sz18, sz19, sz20, sz21, sz22, sz23, sz24])
local macro_rules | `(tactic| walk_at "evs") => `(tactic| try simp only [*, seqS, ifS, setS, asgS, subG, augI, retS, exprS, nilS, testE, opE_eq, calE, consA, nilA, cE, notT, andT, orT, tvE, ifE, tupE, lstE, callE, metE, dmE, unE, slE, noO, someO, chE, forE, rng1I_eq, rngK_p, walkI, enumI, nameG, tupG, consG, nilG, parS, par3S, lcE, fldE, vE_0, vE_s, bind_ok, bindS_ok, lift_some, testR_ok, seq_nx, seq_rt, List.set_cons_zero, List.set_cons_succ, wipeR, ev_ok, ev_bind, ev_lift, ev_test, isB_p, es_bindS, es_seq, es_nx, es_rt, eg_fin, ev_call, eg_ok, addI_int, L2.Dn.ite_tt, L2.Dn.ite_ff, addD_int, subI_int, ltI_int, leI_int, gtI_int, geI_int, eqG_int, intD_int, negI_int, lenG_list, lenG_tuple, Bool.false_eq_true, if_false, if_true, nls_nil, nls_p, nls_g, nls_fn, nl_p, nl_g, true_and, List.length_cons, List.length_nil, tru_bool, Bool.not_true, Bool.not_false, decide_true, decide_false, and_self, and_true, reduceIte, ne_eq, not_true_eq_false, not_false_eq_true, mk0, mk1, mk2, mk3, mk4, ml0, ml1, ml2, ml3, ml4, ml5, ml6, tupOf_p, tupOf_t, isTy_s, isTy_l, newL_z, Nat.zero_le, sn1, sn2, sn3, sn4, sn5, sn6, sn7, sn8, sn9, sn10, sn11, sn12, sn13, sn14, sn15, sn16, sn17, sn18, sn19, sn20, sn21, sn22, sn23, sn24, dct0_l, dct0_z, new_l, new_g, at_l0, at_l1, at_l2, set_l0, set_l1, set_l2, List.nil_append, List.cons_append, frz_sk, Nat.zero_add, List.map_cons, List.map_nil, Nat.reduceAdd, Nat.reduceEqDiff, ev_exc, es_exc, slD_list, sz1, sz2, sz3, sz4, sz5, sz6, sz7, sz8, sz9, sz10, sz11, sz12, sz13, sz14, sz15, sz16, sz17, sz18, sz19, sz20, sz21, sz22, sz23, sz24])
/-! ### asks -/
structure Ask where
  s : Int
  n : Str
  as : List Int
  v : Int
def Ask.d (a : Ask) : PyData := .tuple [.int a.s, .str a.n, .tuple (a.as.map .int), .int a.v]
structure AskOk (fs : Fns) (a : Ask) : Prop where
  s0 : 0 ≤ a.s
  s1 : a.s ≤ 200
  fn : ∃ kd, fs.lookup a.n = some ((a.as.length : Int), kd)
  nm : NmOk a.n
  la : a.as.length ≤ 3
  ar : ∀ x ∈ a.as, x.natAbs < 100
  vb : a.v.natAbs ≤ 10 ^ 30
theorem look_map {α β : Type} (f : α → β) (n : Str) : ∀ kv : List (Str × α), (kv.map fun q => (q.1, f q.2)).lookup n = (kv.lookup n).map f
  | [] => rfl
  | (a, b) :: kv => by
    rw [List.map_cons, List.lookup_cons, List.lookup_cons, look_map f n kv]
    cases n == a <;> rfl
theorem fS_keys (fs : Fns) : (fS fs).map (·.1) = fs.map (·.1) := by simp [fS, Function.comp_def]
theorem fS_look (fs : Fns) (n : Str) : (fS fs).lookup n = (fs.lookup n).map fun q => shp q.1 q.2 := look_map (fun q : Int × Str => shp q.1 q.2) n fs
theorem ints_of {P : Int → Prop} : ∀ {ys : List D}, (∀ y ∈ ys, ∃ x, y = .p (.int x) ∧ P x) → ∃ xs : List Int, ys = (xs.map PyData.int).map D.p ∧ (∀ x ∈ xs, P x) ∧ xs.length = ys.length
  | [], _ => ⟨[], rfl, by simp, rfl⟩
  | y :: ys, h => by
    obtain ⟨x, e, hx⟩ := h y (List.mem_cons_self ..)
    obtain ⟨xs, k1, k2, k3⟩ := ints_of (ys := ys) fun z hz => h z (List.mem_cons_of_mem _ hz)
    refine ⟨x :: xs, by rw [e, k1]; rfl, ?_, by simp [k3]⟩
    intro z hz
    rcases List.mem_cons.mp hz with q | hz
    · rw [q]; exact hx
    · exact k2 z hz
theorem tuple_l {ds : List PyData} {m : Store} (h : ds.length ≤ 100000) : tupleD [.p (.list ds)] m = some (.p (.tuple ds), m) := by
  simp only [tupleD, tupOf, lstOf, mkTup_p]
theorem asks_ev {fs : Fns} {cs : List PyData} {g : List Cell} {C : Cell} {P : D → List Cell → Prop} {Z : Exn → List Cell → Prop} (hC : bagsOk cs C) (hF : FsOk fs) (hN : fs ≠ [])
    (k : ∀ (h : List Ask) C', h ≠ [] → h.length ≤ 40 → (∀ a ∈ h, AskOk fs a) → h.Pairwise (fun a b => a.s ≤ b.s) → bagsOk cs C' → P (.p (.list (h.map Ask.d))) (C' :: g)) : Eg (den__law_asks [.cell (.g 0), .p (sd (fS fs)), .p (.int 40)] (C :: g)) P Z := by
  have hl := hF.len
  have e1 : ∀ m, sortG .z [.p (sd (fS fs))] m = some (.p (.list ((srtS (fs.map (·.1))).map .str)), m) := fun m => by rw [sort_sd (by rw [fS_len]; omega), fS_keys]
  have pm := srtS_perm (fs.map (·.1))
  have ln : (srtS (fs.map (·.1))).length = fs.length := by rw [pm.length_eq, List.length_map]
  have lp : 0 < fs.length := List.length_pos_iff.mpr hN
  rw [eq__law_asks]
  unfold body__law_asks st__law_asks_1 st__law_asks_2
  walk_at "ev"
  simp only [e1]
  walk_at "ev"
  refine take_ev hC (by decide) (by decide) fun now C1 w0 w1 hC1 => ?_
  walk_at "ev"
  refine take_ev hC1 (by decide) (by decide) fun many C2 m0 m1 hC2 => ?_
  walk_at "ev"
  refine ev_rng (by omega) (by omega) ?_
  refine es_for (fun j ρ m => ∃ (h : List Ask) (now : Int) (C' : Cell) (x6 x7 x8 : Option D), h.length = j ∧ (∀ a ∈ h, AskOk fs a) ∧ h.Pairwise (fun a b => a.s ≤ b.s) ∧ (∀ a ∈ h, a.s ≤ now) ∧ 0 ≤ now ∧ now ≤ 2 + 2 * j ∧ bagsOk cs C' ∧ m = ⟨C' :: g, [.lst ((h.map Ask.d).map D.p)]⟩ ∧
    ρ = [some (.cell (.g 0)), some (.p (sd (fS fs))), some (.p (.int 40)), some (.p (.list ((srtS (fs.map (·.1))).map .str))), some (.cell (.l 0)), some (.p (.int now)), x6, x7, x8, none])
    ⟨[], now, C2, none, none, none, rfl, by simp, by simp, by simp, w0, by omega, hC2, rfl, rfl⟩ ?_ ?_
  · rintro j d hd ρ m ⟨h, now, C3, x6, x7, x8, hj, ha, hp, hs, n0, n1, hC3, rfl, rfl⟩
    obtain ⟨hj2, rfl⟩ := rngL_get hd
    have hj40 : j < 40 := by omega
    unfold lb__law_asks_1
    walk_at "ev"
    simp only [List.length_map, ln]
    refine take_ev hC3 (by omega) (by omega) fun r C4 r0 r1 hC4 => ?_
    walk_at "ev"
    obtain ⟨nd, hn1, hn2⟩ := pick (ds := (srtS (fs.map (·.1))).map .str) (b := r) ⟨C4 :: g, [.lst ((h.map Ask.d).map D.p)]⟩ r0 (by rw [List.length_map, ln]; exact r1)
    obtain ⟨n, hn3, rfl⟩ := List.mem_map.mp hn1
    have hnF := pm.mem_iff.mp hn3
    obtain ⟨⟨ar, kd⟩, hlk⟩ := mem_look hnF
    have hone := hF.one _ (look_mem hlk)
    rw [hn2]
    walk_at "ev"
    have ix : ∀ m, ixG (.p (sd (fS fs))) (.p (.str n)) m = some (.p (shp ar kd), m) := fun m => ix_sd (by rw [fS_look, hlk]; rfl)
    have ix0 : ∀ m, ixG (.p (shp ar kd)) (.p (.int 0)) m = some (.p (.int ar), m) := fun m => rfl
    simp only [ix]
    walk_at "ev"
    simp only [ix0]
    walk_at "ev"
    have s0 := hone.s0
    have s3 := hone.s3
    dsimp only at s0 s3
    refine ev_rng s0 (by omega) (ev_sz (by rw [rngL_len]; omega) ?_)
    walk_at "ev"
    refine ev_lc (fun i acc m => ∃ (xs : List Int) (C' : Cell), acc = (xs.map PyData.int).map D.p ∧ xs.length = i ∧ (∀ x ∈ xs, x.natAbs < 100) ∧ m = ⟨C' :: g, [.lst ((h.map Ask.d).map D.p)]⟩ ∧ bagsOk cs C') ⟨[], C4, rfl, rfl, by simp, rfl, hC4⟩ ?_ ?_
    · rintro i d hd acc m ⟨xs, C5, rfl, hx, hx2, rfl, hC5⟩
      refine ⟨_, rfl, ?_⟩
      unfold yesT ce__law_asks_1
      walk_at "ev"
      refine take_ev hC5 (by decide) (by decide) fun b C6 b0 b1 hC6 => ?_
      walk_at "ev"
      obtain ⟨q, hq1, hq2⟩ := pick (ds := [.int 0, .int 1, .int 11, .int 0, .int 1, .int (-1)]) (b := b) ⟨C6 :: g, [.lst ((h.map Ask.d).map D.p)]⟩ b0 b1
      obtain ⟨y, hy, rfl⟩ : ∃ y : Int, y.natAbs < 100 ∧ q = .int y := by
        simp only [List.mem_cons, List.not_mem_nil, or_false] at hq1
        rcases hq1 with rfl | rfl | rfl | rfl | rfl | rfl <;> exact ⟨_, by decide, rfl⟩
      rw [hq2]
      walk_at "ev"
      refine ⟨xs ++ [y], C6, by simp, by simp [hx], ?_, rfl, hC6⟩
      intro x hxx
      rcases List.mem_append.mp hxx with z | z
      · exact hx2 x z
      · rw [List.mem_singleton.mp z]; exact hy
    rintro ys m ⟨xs, C5, rfl, hx, hx2, rfl, hC5⟩
    rw [rngL_len] at hx
    walk_at "ev"
    rw [mkLst_p, tuple_l (by rw [List.length_map]; omega)]
    walk_at "ev"
    rw [isTy_c rfl]
    walk_at "ev"
    refine take_ev hC5 (by decide) (by decide) fun v0 C6 v00 v01 hC6 => ?_
    walk_at "ev"
    have p30 : ∀ m, powI (.p (.int 10)) (.p (.int 30)) m = some (.p (.int (10 ^ 30)), m) := fun m => rfl
    rw [p30]
    walk_at "ev"
    refine take_ev hC6 (by decide) (by decide) fun v1 C7 v10 v11 hC7 => ?_
    walk_at "ev"
    rw [fdivI_int (by decide) (by decide)]
    walk_at "ev"
    obtain ⟨q, hq1, hq2⟩ := pick (ds := [.int v0, .int (10 ^ 30), .int (-4)]) (b := v1 / 3) ⟨C7 :: g, [.lst ((h.map Ask.d).map D.p)]⟩ (by omega) (by simp; omega)
    obtain ⟨y, hy, rfl⟩ : ∃ y : Int, y.natAbs ≤ 10 ^ 30 ∧ q = .int y := by
      simp only [List.mem_cons, List.not_mem_nil, or_false] at hq1
      rcases hq1 with rfl | rfl | rfl
      · exact ⟨_, by omega, rfl⟩
      · exact ⟨_, by decide, rfl⟩
      · exact ⟨_, by decide, rfl⟩
    rw [hq2]
    walk_at "ev"
    rw [app_p rfl (by simp; omega)]
    walk_at "ev"
    refine take_ev hC7 (by decide) (by decide) fun u0 C8 u00 u01 hC8 => ?_
    rw [fdivI_int (by decide) (by decide)]
    walk_at "ev"
    refine take_ev hC8 (by decide) (by decide) fun u1 C9 u10 u11 hC9 => ?_
    walk_at "ev"
    have q0 : u0 / 3 = 0 ∨ u0 / 3 = 1 := by omega
    have qm : 0 ≤ u0 / 3 * (1 + u1) ∧ u0 / 3 * (1 + u1) ≤ 2 := by
      rcases q0 with q | q <;> rw [q] <;> omega
    rw [mul_r (small_of (by omega) (by omega))]
    walk_at "ev"
    have nu : AskOk fs ⟨now, n, xs, y⟩ := ⟨n0, by show now ≤ 200; omega, ⟨kd, by rw [hlk, show ((xs.length : Nat) : Int) = ar by omega]⟩, hone.nm, by show xs.length ≤ 3; omega, hx2, hy⟩
    refine ⟨h ++ [⟨now, n, xs, y⟩], now + u0 / 3 * (1 + u1), C9, _, _, _, by simp [hj], ?_, ?_, ?_, by omega, by omega, hC9, by simp [Ask.d], rfl⟩
    · intro a haa
      rcases List.mem_append.mp haa with z | z
      · exact ha a z
      · rw [List.mem_singleton.mp z]; exact nu
    · rw [List.pairwise_append]
      exact ⟨hp, by simp, fun a haa b hb => by rw [List.mem_singleton.mp hb]; exact hs a haa⟩
    · intro a haa
      rcases List.mem_append.mp haa with z | z
      · have := hs a z; omega
      · rw [List.mem_singleton.mp z]; show now ≤ _; omega
  · rintro ρ m ⟨h, now, C3, x6, x7, x8, hj, ha, hp, hs, n0, n1, hC3, rfl, rfl⟩
    rw [rngL_len] at hj
    have fr : frzC (.lst ((h.map Ask.d).map D.p)) = some (.p (.list (h.map Ask.d))) := by simp only [frzC, mkLst_p]
    rw [frzV_at rfl rfl fr]
    walk_at "ev"
    exact k h C3 (fun z => by rw [z] at hj; simp at hj; omega) (by omega) ha hp hC3
end K90
namespace K90
open PySem PySem.Spec PyProof.Rows L2 L2.Dn
local macro_rules | `(tactic| walk_at "ev") => `(tactic| try simp only [seqS, ifS, setS, asgS, subG, augI, retS, exprS, nilS, testE, opE_eq, calE, consA, nilA, cE, notT, andT, orT, tvE, ifE, tupE, lstE, callE, metE, dmE, unE, slE, noO, someO, chE, forE, rng1I_eq, rngK_p, walkI, enumI, nameG, tupG, consG, nilG, parS, par3S, lcE, fldE, vE_0, vE_s, bind_ok, bindS_ok, lift_some, testR_ok, seq_nx, seq_rt, List.set_cons_zero, List.set_cons_succ, wipeR, ev_ok, ev_bind, ev_lift, ev_test, isB_p, es_bindS, es_seq, es_nx, es_rt, eg_fin, ev_call, eg_ok, addI_int, L2.Dn.ite_tt, L2.Dn.ite_ff, addD_int, subI_int, ltI_int, leI_int, gtI_int, geI_int, eqG_int, intD_int, negI_int, lenG_list, lenG_tuple, Bool.false_eq_true, if_false, if_true, nls_nil, nls_p, nls_g, nls_fn, nl_p, nl_g, true_and, List.length_cons, List.length_nil, tru_bool, Bool.not_true, Bool.not_false, decide_true, decide_false, and_self, and_true, reduceIte, ne_eq, not_true_eq_false, not_false_eq_true, mk0, mk1, mk2, mk3, mk4, ml0, ml1, ml2, ml3, ml4, ml5, ml6, tupOf_p, tupOf_t, isTy_s, isTy_l, newL_z, Nat.zero_le, sn1, sn2, sn3, sn4, sn5, sn6, sn7, sn8, sn9, sn10, sn11, sn12, sn13, sn14, sn15, sn16, sn17, sn18, sn19, sn20, sn21, sn22, sn23, sn24, dct0_l, dct0_z, new_l, new_g, at_l0, at_l1, at_l2, set_l0, set_l1, set_l2, List.nil_append, List.cons_append, frz_sk, Nat.zero_add, List.map_cons, List.map_nil, Nat.reduceAdd, Nat.reduceEqDiff, ev_exc, es_exc, slD_list, sz1, sz2, sz3, sz4, sz5, sz6, sz7, sz8, sz9, sz10, sz11, sz12, sz13, sz14, sz15, sz16, sz17, sz18, sz19, sz20, sz21, sz22, sz23, sz24])
local macro_rules | `(tactic| walk_at "evs") => `(tactic| try simp only [*, seqS, ifS, setS, asgS, subG, augI, retS, exprS, nilS, testE, opE_eq, calE, consA, nilA, cE, notT, andT, orT, tvE, ifE, tupE, lstE, callE, metE, dmE, unE, slE, noO, someO, chE, forE, rng1I_eq, rngK_p, walkI, enumI, nameG, tupG, consG, nilG, parS, par3S, lcE, fldE, vE_0, vE_s, bind_ok, bindS_ok, lift_some, testR_ok, seq_nx, seq_rt, List.set_cons_zero, List.set_cons_succ, wipeR, ev_ok, ev_bind, ev_lift, ev_test, isB_p, es_bindS, es_seq, es_nx, es_rt, eg_fin, ev_call, eg_ok, addI_int, L2.Dn.ite_tt, L2.Dn.ite_ff, addD_int, subI_int, ltI_int, leI_int, gtI_int, geI_int, eqG_int, intD_int, negI_int, lenG_list, lenG_tuple, Bool.false_eq_true, if_false, if_true, nls_nil, nls_p, nls_g, nls_fn, nl_p, nl_g, true_and, List.length_cons, List.length_nil, tru_bool, Bool.not_true, Bool.not_false, decide_true, decide_false, and_self, and_true, reduceIte, ne_eq, not_true_eq_false, not_false_eq_true, mk0, mk1, mk2, mk3, mk4, ml0, ml1, ml2, ml3, ml4, ml5, ml6, tupOf_p, tupOf_t, isTy_s, isTy_l, newL_z, Nat.zero_le, sn1, sn2, sn3, sn4, sn5, sn6, sn7, sn8, sn9, sn10, sn11, sn12, sn13, sn14, sn15, sn16, sn17, sn18, sn19, sn20, sn21, sn22, sn23, sn24, dct0_l, dct0_z, new_l, new_g, at_l0, at_l1, at_l2, set_l0, set_l1, set_l2, List.nil_append, List.cons_append, frz_sk, Nat.zero_add, List.map_cons, List.map_nil, Nat.reduceAdd, Nat.reduceEqDiff, ev_exc, es_exc, slD_list, sz1, sz2, sz3, sz4, sz5, sz6, sz7, sz8, sz9, sz10, sz11, sz12, sz13, sz14, sz15, sz16, sz17, sz18, sz19, sz20, sz21, sz22, sz23, sz24])
/-! ### which answers are kept -/
def never : Str := Str.ofString "never"
def stmt : Str := Str.ofString "statement"
def ever : Str := Str.ofString "ever"
def span (ks : Kps) (n : Str) : Str := (ks.lookup n).getD never
theorem se_ne : ¬ stmt = ever := by decide
def mt (sp : Str) (a one : Ask) : Bool := decide (one.n = a.n ∧ one.as = a.as) && (decide (sp = ever) || (decide (sp = stmt) && decide (one.s = a.s)))
def pmt (ks : Kps) (h : List Ask) (a : Ask) (i : Nat) : Bool := match h[i]? with
  | some one => mt (span ks a.n) a one
  | none => false
def oi : Option Nat → PyData
  | none => .none
  | some i => .int (i : Int)
theorem ints_flat : ∀ xs : List Int, flatPs (xs.map .int) = true
  | [] => rfl
  | x :: xs => by rw [List.map_cons]; simp only [flatPs, flatP, ints_flat xs, Bool.and_self]
theorem ints_inj {xs ys : List Int} (h : xs.map PyData.int = ys.map PyData.int) : xs = ys := by
  have := congrArg (List.filterMap fun p => match p with | .int i => some i | _ => (none : Option Int)) h
  simpa [List.filterMap_map, Function.comp_def] using this
theorem ints_dp : ∀ xs : List Int, PyData.depthAll (xs.map .int) ≤ 0
  | [] => Nat.le_refl _
  | x :: xs => by rw [List.map_cons]; simp only [PyData.depthAll, PyData.depth]; have := ints_dp xs; omega
def sig (a : Ask) : PyData := .tuple [.str a.n, .tuple (a.as.map .int)]
theorem sig_flat {a : Ask} (h : NmOk a.n) : flatP (sig a) = true := by
  simp only [sig, flatP, flatPs, h.str, ints_flat, Bool.and_self]
theorem sig_dp (a : Ask) : (sig a).depth ≤ 64 := by
  simp only [sig, PyData.depth, PyData.depthAll]
  have := ints_dp a.as
  omega
theorem eq_sig {a b : Ask} (ha : NmOk a.n) (hb : NmOk b.n) (m : Store) : eqG false (.p (sig b)) (.p (sig a)) m = some (.p (.bool (decide (b.n = a.n ∧ b.as = a.as))), m) := by
  have := eqG_flat (neg := false) (m := m) (b := decide (b.n = a.n ∧ b.as = a.as)) (sig_flat hb) (sig_flat ha) (sig_dp b) (sig_dp a) (by
    rw [decide_eq_true_iff]
    constructor
    · rintro ⟨h1, h2⟩; simp only [sig, h1, h2]
    · intro h
      simp only [sig, PyData.tuple.injEq, List.cons.injEq, PyData.str.injEq, and_true] at h
      exact ⟨h.1, ints_inj h.2⟩)
  exact this
theorem sl13 {a b c d : PyData} {m : Store} : slD .z (.p (.tuple [a, b, c, d])) (some 1) (some 3) m = some (.p (.tuple [b, c]), m) := rfl
theorem ix4_0 {a b c d : PyData} {m : Store} : ixG (.p (.tuple [a, b, c, d])) (.p (.int 0)) m = some (.p a, m) := rfl
theorem ix4_1 {a b c d : PyData} {m : Store} : ixG (.p (.tuple [a, b, c, d])) (.p (.int 1)) m = some (.p b, m) := rfl
theorem ix4_2 {a b c d : PyData} {m : Store} : ixG (.p (.tuple [a, b, c, d])) (.p (.int 2)) m = some (.p c, m) := rfl
theorem ix4_3 {a b c d : PyData} {m : Store} : ixG (.p (.tuple [a, b, c, d])) (.p (.int 3)) m = some (.p d, m) := rfl
theorem str_beq (x y : Str) : (x == y) = decide (x = y) := by
  by_cases h : x = y
  · subst h; simp
  · rw [decide_eq_false h]; exact beq_eq_false_iff_ne.mpr h
theorem int_beq (x y : Int) : (x == y) = decide (x = y) := by
  by_cases h : x = y
  · subst h; simp
  · rw [decide_eq_false h]; exact beq_eq_false_iff_ne.mpr h
theorem kS_look (ks : Kps) (n : Str) : (kS ks).lookup n = (ks.lookup n).map PyData.str := look_map PyData.str n ks
theorem get_span (ks : Kps) (n : Str) (m : Store) : getD1 (.p (sd (kS ks))) [.p (.str n), .p (.str (Str.ofString "never"))] m = some (.p (.str (span ks n)), m) := by
  rw [get_sd2, kS_look]
  unfold span
  cases ks.lookup n <;> rfl
theorem dctI {kv : List (Str × PyData)} {m : Store} : (dctOf (.p (sd kv)) m).isSome = true := by rw [dct_sd]; rfl
theorem earlier_ok {ks : Kps} {h : List Ask} {k : Nat} {a : Ask} (hn : ∀ a ∈ h, NmOk a.n) (hl : h.length ≤ 1000) (hk : h[k]? = some a) (g : List Cell) : den_earlier [.p (sd (kS ks)), .p (.list (h.map Ask.d)), .p (.int k)] g = .ok (.p (oi (lastI (pmt ks h a) k))) g := by
  have this : Eg (den_earlier [.p (sd (kS ks)), .p (.list (h.map Ask.d)), .p (.int k)] g) (fun d g' => d = .p (oi (lastI (pmt ks h a) k)) ∧ g' = g) nXg := by
    have hkl := (List.getElem?_eq_some_iff.mp hk).1
    have hna : NmOk a.n := hn a (List.mem_of_getElem? hk)
    have ixk : ∀ m, ixG (.p (.list (h.map Ask.d))) (.p (.int k)) m = some (.p a.d, m) := fun m => ixG_list (by omega) (by simp [hk])
    rw [eq_earlier]
    unfold body_earlier st_earlier_1 st_earlier_2
    walk_at "ev"
    simp only [ixk]
    walk_at "ev"
    simp only [Ask.d, ix4_1, dctI, get_span]
    walk_at "ev"
    simp only [get_span]
    walk_at "ev"
    rw [cut_take (by rw [List.length_map]; omega)]
    refine es_for (fun j ρ m => ∃ (x6 x7 : Option D), m = ⟨g, []⟩ ∧ ρ = [some (.p (sd (kS ks))), some (.p (.list (h.map Ask.d))), some (.p (.int k)), some (.p (.tuple [.int a.s, .str a.n, .tuple (a.as.map .int), .int a.v])), some (.p (oi (lastI (pmt ks h a) j))), some (.p (.str (span ks a.n))), x6, x7])
      ⟨none, none, rfl, rfl⟩ ?_ ?_
    · rintro j d hd ρ m ⟨x6, x7, rfl, rfl⟩
      obtain ⟨d0, e0, rfl⟩ := pairs_get _ _ _ _ hd
      rw [List.getElem?_map, List.getElem?_take] at e0
      split at e0
      · rename_i hjk
        rw [List.getElem?_map] at e0
        obtain ⟨p, hp, rfl⟩ := Option.map_eq_some_iff.mp e0
        obtain ⟨one, ho, rfl⟩ := Option.map_eq_some_iff.mp hp
        have hno : NmOk one.n := hn one (List.mem_of_getElem? ho)
        have e2 : pmt ks h a j = mt (span ks a.n) a one := by simp only [pmt, ho]
        have es := fun m => eq_sig hna hno m
        simp only [sig] at es
        unfold lb_earlier_1
        walk_at "ev"
        simp only [Ask.d, sl13]
        walk_at "ev"
        simp only [es, eqG_str]
        walk_at "ev"
        simp only [ix4_0]
        walk_at "ev"
        have fe : lastI (pmt ks h a) (j + 1) = if mt (span ks a.n) a one = true then some j else lastI (pmt ks h a) j := by rw [lastI, e2]
        rw [fe]
        simp only [mt, str_beq, int_beq, show Str.ofString "ever" = ever from rfl, show Str.ofString "statement" = stmt from rfl]
        by_cases c1 : one.n = a.n ∧ one.as = a.as
        · by_cases c2 : span ks a.n = ever
          · simp [c1, c2, Ev, Es, oi]
          · by_cases c3 : span ks a.n = stmt
            · by_cases c4 : one.s = a.s
              · simp [c1, c3, c4, se_ne, Ev, Es, oi]
              · simp [c1, c3, c4, se_ne, Ev, Es, oi]
            · simp [c1, c2, c3, Ev, Es, oi]
        · simp [c1, Ev, Es, oi]
      · cases e0
    · rintro ρ m ⟨x6, x7, rfl, rfl⟩
      rw [Dn.pairs_len, List.length_map, List.length_take, List.length_map, Nat.min_eq_left (by omega)]
      walk_at "ev"
  obtain ⟨d, g', e, rfl, rfl⟩ := this.get
  exact e
/-! ### told -/
def toldI (ks : Kps) (h : List Ask) : Nat → List Int
  | 0 => []
  | k + 1 => toldI ks h k ++ [match h[k]? with
    | some a => match lastI (pmt ks h a) k with
      | none => a.v
      | some i => (toldI ks h k).getD i 0
    | none => 0]
theorem toldI_len (ks : Kps) (h : List Ask) : ∀ k, (toldI ks h k).length = k
  | 0 => rfl
  | k + 1 => by simp [toldI, toldI_len ks h k]
theorem told_ok {ks : Kps} {h : List Ask} {S : D} (hn : ∀ a ∈ h, NmOk a.n) (hl : h.length ≤ 1000) (g : List Cell) : den_told [S, .p (sd (kS ks)), .p (.list (h.map Ask.d))] g = .ok (.cell (.g g.length)) (g ++ [.lst (((toldI ks h h.length).map PyData.int).map D.p)]) := by
  have this : Eg (den_told [S, .p (sd (kS ks)), .p (.list (h.map Ask.d))] g) (fun d g' => d = .cell (.g g.length) ∧ g' = g ++ [.lst (((toldI ks h h.length).map PyData.int).map D.p)]) nXg := by
    rw [eq_told]
    unfold body_told
    walk_at "ev"
    refine es_for (fun j ρ m => ∃ (x4 x5 x6 : Option D), m = ⟨g ++ [.lst (((toldI ks h j).map PyData.int).map D.p)], []⟩ ∧ ρ = [some S, some (.p (sd (kS ks))), some (.p (.list (h.map Ask.d))), some (.cell (.g g.length)), x4, x5, x6])
      ⟨none, none, none, rfl, rfl⟩ ?_ ?_
    · rintro j d hd ρ m ⟨x4, x5, x6, rfl, rfl⟩
      obtain ⟨d0, e0, rfl⟩ := pairs_get _ _ _ _ hd
      rw [List.getElem?_map, List.getElem?_map] at e0
      obtain ⟨p, hp, rfl⟩ := Option.map_eq_some_iff.mp e0
      obtain ⟨a, ho, rfl⟩ := Option.map_eq_some_iff.mp hp
      have hj := (List.getElem?_eq_some_iff.mp ho).1
      have eo := fun g => earlier_ok (ks := ks) hn hl ho g
      unfold lb_told_1
      walk_at "ev"
      simp only [eo]
      walk_at "ev"
      rw [isTy_c at_last]
      walk_at "ev"
      cases q : lastI (pmt ks h a) j with
      | none =>
        have n1 : ∀ m, isG false (.p (oi none)) (.p .none) m = some (.p (.bool true), m) := fun m => rfl
        rw [n1]
        walk_at "ev"
        simp only [Ask.d, ix4_3]
        walk_at "ev"
        rw [app_p at_last (by simp [toldI_len]; omega)]
        walk_at "ev"
        refine ⟨_, _, _, ?_, rfl⟩
        rw [set_last]
        simp [toldI, ho, q]
      | some i =>
        obtain ⟨hi, _⟩ := lastI_some q
        have n1 : ∀ m, isG false (.p (oi (some i))) (.p .none) m = some (.p (.bool false), m) := fun m => rfl
        rw [n1]
        walk_at "ev"
        have gi : (((toldI ks h j).map PyData.int).map D.p)[((i : Nat) : Int).toNat]? = some (.p (.int ((toldI ks h j).getD i 0))) := by
          have : i < (toldI ks h j).length := by rw [toldI_len]; exact hi
          simp [this]
        simp only [oi]
        rw [ixG_l at_last (by omega) gi]
        walk_at "ev"
        rw [app_p at_last (by simp [toldI_len]; omega)]
        walk_at "ev"
        refine ⟨_, _, _, ?_, rfl⟩
        rw [set_last]
        simp [toldI, ho, q]
    · rintro ρ m ⟨x4, x5, x6, rfl, rfl⟩
      rw [Dn.pairs_len, List.length_map, List.length_map]
      walk_at "ev"
  obtain ⟨d, g', e, rfl, rfl⟩ := this.get
  exact e
end K90
namespace K90
open PySem PySem.Spec PyProof.Rows L2 L2.Dn
local macro_rules | `(tactic| walk_at "ev") => `(tactic| try simp only [seqS, ifS, setS, asgS, subG, augI, retS, exprS, nilS, testE, opE_eq, calE, consA, nilA, cE, notT, andT, orT, tvE, ifE, tupE, lstE, callE, metE, dmE, unE, slE, noO, someO, chE, forE, rng1I_eq, rngK_p, walkI, enumI, nameG, tupG, consG, nilG, parS, par3S, lcE, fldE, vE_0, vE_s, bind_ok, bindS_ok, lift_some, testR_ok, seq_nx, seq_rt, List.set_cons_zero, List.set_cons_succ, wipeR, ev_ok, ev_bind, ev_lift, ev_test, isB_p, es_bindS, es_seq, es_nx, es_rt, eg_fin, ev_call, eg_ok, addI_int, L2.Dn.ite_tt, L2.Dn.ite_ff, addD_int, subI_int, ltI_int, leI_int, gtI_int, geI_int, eqG_int, intD_int, negI_int, lenG_list, lenG_tuple, Bool.false_eq_true, if_false, if_true, nls_nil, nls_p, nls_g, nls_fn, nl_p, nl_g, true_and, List.length_cons, List.length_nil, tru_bool, Bool.not_true, Bool.not_false, decide_true, decide_false, and_self, and_true, reduceIte, ne_eq, not_true_eq_false, not_false_eq_true, mk0, mk1, mk2, mk3, mk4, ml0, ml1, ml2, ml3, ml4, ml5, ml6, tupOf_p, tupOf_t, isTy_s, isTy_l, newL_z, Nat.zero_le, sn1, sn2, sn3, sn4, sn5, sn6, sn7, sn8, sn9, sn10, sn11, sn12, sn13, sn14, sn15, sn16, sn17, sn18, sn19, sn20, sn21, sn22, sn23, sn24, dct0_l, dct0_z, new_l, new_g, at_l0, at_l1, at_l2, set_l0, set_l1, set_l2, List.nil_append, List.cons_append, frz_sk, Nat.zero_add, List.map_cons, List.map_nil, Nat.reduceAdd, Nat.reduceEqDiff, ev_exc, es_exc, slD_list, sz1, sz2, sz3, sz4, sz5, sz6, sz7, sz8, sz9, sz10, sz11, sz12, sz13, sz14, sz15, sz16, sz17, sz18, sz19, sz20, sz21, sz22, sz23, sz24])
local macro_rules | `(tactic| walk_at "evs") => `(tactic| try simp only [*, seqS, ifS, setS, asgS, subG, augI, retS, exprS, nilS, testE, opE_eq, calE, consA, nilA, cE, notT, andT, orT, tvE, ifE, tupE, lstE, callE, metE, dmE, unE, slE, noO, someO, chE, forE, rng1I_eq, rngK_p, walkI, enumI, nameG, tupG, consG, nilG, parS, par3S, lcE, fldE, vE_0, vE_s, bind_ok, bindS_ok, lift_some, testR_ok, seq_nx, seq_rt, List.set_cons_zero, List.set_cons_succ, wipeR, ev_ok, ev_bind, ev_lift, ev_test, isB_p, es_bindS, es_seq, es_nx, es_rt, eg_fin, ev_call, eg_ok, addI_int, L2.Dn.ite_tt, L2.Dn.ite_ff, addD_int, subI_int, ltI_int, leI_int, gtI_int, geI_int, eqG_int, intD_int, negI_int, lenG_list, lenG_tuple, Bool.false_eq_true, if_false, if_true, nls_nil, nls_p, nls_g, nls_fn, nl_p, nl_g, true_and, List.length_cons, List.length_nil, tru_bool, Bool.not_true, Bool.not_false, decide_true, decide_false, and_self, and_true, reduceIte, ne_eq, not_true_eq_false, not_false_eq_true, mk0, mk1, mk2, mk3, mk4, ml0, ml1, ml2, ml3, ml4, ml5, ml6, tupOf_p, tupOf_t, isTy_s, isTy_l, newL_z, Nat.zero_le, sn1, sn2, sn3, sn4, sn5, sn6, sn7, sn8, sn9, sn10, sn11, sn12, sn13, sn14, sn15, sn16, sn17, sn18, sn19, sn20, sn21, sn22, sn23, sn24, dct0_l, dct0_z, new_l, new_g, at_l0, at_l1, at_l2, set_l0, set_l1, set_l2, List.nil_append, List.cons_append, frz_sk, Nat.zero_add, List.map_cons, List.map_nil, Nat.reduceAdd, Nat.reduceEqDiff, ev_exc, es_exc, slD_list, sz1, sz2, sz3, sz4, sz5, sz6, sz7, sz8, sz9, sz10, sz11, sz12, sz13, sz14, sz15, sz16, sz17, sz18, sz19, sz20, sz21, sz22, sz23, sz24])
/-! ### asked -/
def earlI (ks : Kps) (h : List Ask) (k : Nat) : Option Nat := match h[k]? with
  | some a => lastI (pmt ks h a) k
  | none => none
def askedI (ks : Kps) (h : List Ask) (j : Nat) : List Nat := (List.range j).filter fun k => (earlI ks h k).isNone
def natsD (xs : List Nat) : List PyData := xs.map fun k : Nat => PyData.int (k : Int)
theorem nls_map : ∀ ds : List PyData, nls (ds.map D.p) = true
  | [] => rfl
  | d :: ds => by rw [List.map_cons, nls_p]; exact nls_map ds
theorem is_oi (o : Option Nat) (m : Store) : isG false (.p (oi o)) (.p .none) m = some (.p (.bool o.isNone), m) := by cases o <;> rfl
theorem asked_ok {ks : Kps} {h : List Ask} {S : D} (hn : ∀ a ∈ h, NmOk a.n) (hl : h.length ≤ 1000) (g : List Cell) : den_asked [S, .p (sd (kS ks)), .p (.list (h.map Ask.d))] g = .ok (.cell (.g g.length)) (g ++ [.lst ((natsD (askedI ks h h.length)).map D.p)]) := by
  have this : Eg (den_asked [S, .p (sd (kS ks)), .p (.list (h.map Ask.d))] g) (fun d g' => d = .cell (.g g.length) ∧ g' = g ++ [.lst ((natsD (askedI ks h h.length)).map D.p)]) nXg := by
    rw [eq_asked]
    unfold body_asked
    walk_at "ev"
    have el : (h.map Ask.d).length = h.length := List.length_map ..
    generalize hL : (((h.map Ask.d).length : Nat) : Int) = jn
    have hj : jn.toNat = h.length ∧ 0 ≤ jn ∧ jn < 1000000 := by rw [el] at hL; omega
    refine ev_rng hj.2.1 hj.2.2 ?_
    rw [hj.1]
    refine ev_sz (by rw [rngL_len]; omega) ?_
    walk_at "ev"
    refine ev_lc (fun j acc m => m = ⟨g, []⟩ ∧ acc = (natsD (askedI ks h j)).map D.p) ⟨rfl, rfl⟩ ?_ ?_
    · rintro j d hd acc m ⟨rfl, rfl⟩
      obtain ⟨hj, rfl⟩ := rngL_get hd
      have hj' : j < h.length := by omega
      have ho : h[j]? = some h[j] := List.getElem?_eq_getElem hj'
      have eo := fun g => earlier_ok (ks := ks) hn hl ho g
      refine ⟨_, rfl, ?_⟩
      unfold ct_asked_1
      walk_at "ev"
      simp only [eo]
      walk_at "ev"
      rw [is_oi]
      walk_at "ev"
      have e1 : earlI ks h j = lastI (pmt ks h h[j]) j := by simp only [earlI, ho]
      have e2 : askedI ks h (j + 1) = askedI ks h j ++ (if (earlI ks h j).isNone = true then [j] else []) := by
        unfold askedI
        rw [List.range_succ, List.filter_append]
        congr 1
        simp only [List.filter_cons, List.filter_nil]
      rw [e2, e1]
      cases lastI (pmt ks h h[j]) j with
      | none =>
        simp only [Option.isNone_none, if_true]
        simp [natsD]
      | some i =>
        simp only [Option.isNone_some, Bool.false_eq_true, if_false]
        simp
    · rintro ys m ⟨rfl, rfl⟩
      rw [rngL_len]
      simp only [newL, nls_map, if_true]
      exact ⟨rfl, rfl, rfl⟩
  obtain ⟨d, g', e, rfl, rfl⟩ := this.get
  exact e
/-! ### the law's own store -/
abbrev Sg := Str × List Int × Option Int
def oiI : Option Int → PyData
  | none => .none
  | some i => .int i
def oiN : Option Int → NestedKey
  | none => .none
  | some i => .num i
theorem nks_ints : ∀ xs : List Int, nk.nks (xs.map PyData.int) = some (xs.map NestedKey.num)
  | [] => rfl
  | x :: xs => by
    simp only [List.map_cons, nk.nks, nks_ints xs]
    rfl
theorem dpn : ∀ xs : List Int, NestedKey.depthAll (xs.map NestedKey.num) = 0
  | [] => rfl
  | x :: xs => by simp only [List.map_cons, NestedKey.depthAll, NestedKey.depth, dpn xs]; rfl
theorem nums_inj {xs ys : List Int} (h : xs.map NestedKey.num = ys.map NestedKey.num) : xs = ys := by
  have := congrArg (List.filterMap fun p => match p with | .num i => some i | _ => (none : Option Int)) h
  simpa [List.filterMap_map, Function.comp_def] using this
def sgM : KeyM Sg where
  kd := fun k => .tuple [.str k.1, .tuple (k.2.1.map .int), oiI k.2.2]
  kn := fun k => .tup [.text k.1, .tup (k.2.1.map .num), oiN k.2.2]
  nk := fun k => by
    obtain ⟨a, b, c⟩ := k
    cases c <;> simp only [nk, nk.nks, nks_ints, oiI, oiN, Option.map_some]
  dp := fun k => by
    obtain ⟨a, b, c⟩ := k
    cases c <;> simp only [NestedKey.depth, NestedKey.depthAll, dpn, oiN] <;> decide
  inj := fun a b h => by
    obtain ⟨a1, a2, a3⟩ := a
    obtain ⟨b1, b2, b3⟩ := b
    simp only [NestedKey.tup.injEq, List.cons.injEq, NestedKey.text.injEq, and_true] at h
    obtain ⟨h1, h2, h3⟩ := h
    have := nums_inj h2
    subst h1 this
    cases a3 <;> cases b3 <;> simp_all [oiN]
structure StS where
  vals : List Int
  called : List Nat
  known : List (Sg × Int)
def sgn (ks : Kps) (a : Ask) : Sg := (a.n, a.as, if span ks a.n = stmt then some a.s else none)
def stepS (ks : Kps) (a : Ask) (k : Nat) (s : StS) : StS := if span ks a.n = never ∨ s.known.lookup (sgn ks a) = none then ⟨s.vals ++ [a.v], s.called ++ [k], putA s.known (sgn ks a) a.v⟩ else ⟨s.vals ++ [(s.known.lookup (sgn ks a)).getD 0], s.called, s.known⟩
def storeI (ks : Kps) (h : List Ask) : Nat → StS
  | 0 => ⟨[], [], []⟩
  | k + 1 => match h[k]? with
    | some a => stepS ks a k (storeI ks h k)
    | none => storeI ks h k
def intD' (i : Int) : D := .p (.int i)
theorem storeI_lens (ks : Kps) (h : List Ask) : ∀ k, (storeI ks h k).vals.length ≤ k ∧ (storeI ks h k).called.length ≤ k ∧ (storeI ks h k).known.length ≤ k
  | 0 => ⟨Nat.le_refl _, Nat.le_refl _, Nat.le_refl _⟩
  | k + 1 => by
    obtain ⟨h1, h2, h3⟩ := storeI_lens ks h k
    unfold storeI
    cases h[k]? with
    | none => dsimp only; exact ⟨by omega, by omega, by omega⟩
    | some a =>
      dsimp only
      unfold stepS
      have := putA_len (storeI ks h k).known (sgn ks a) a.v
      split
      · refine ⟨by simp; omega, by simp; omega, by dsimp only; omega⟩
      · refine ⟨by simp; omega, by dsimp only; omega, by dsimp only; omega⟩
theorem sg_d (ks : Kps) (a : Ask) : sgM.kd (sgn ks a) = .tuple [.str a.n, .tuple (a.as.map .int), if span ks a.n = stmt then .int a.s else .none] := by
  simp only [sgM, sgn]
  split <;> rfl
theorem ite_ok {c : Prop} [Decidable c] {x y : PyData} {m : Store} : (if decide c = true then Res.ok (D.p x) m else Res.ok (D.p y) m) = Res.ok (D.p (if c then x else y)) m := by
  by_cases h : c <;> simp [h]
theorem or_ok {c : Prop} [Decidable c] {b : Bool} {m : Store} : (if decide c = true then Res.ok true m else testR (lift (some (D.p (.bool b), m)))) = Res.ok (decide c || b) m := by
  by_cases h : c
  · simp [h]
  · simp only [decide_eq_false h, Bool.false_eq_true, if_false, lift_some, testR_ok, Bool.false_or]
theorem store_ok {ks : Kps} {h : List Ask} (hl : h.length ≤ 1000) (g : List Cell) : den__law_store [.p (sd (kS ks)), .p (.list (h.map Ask.d))] g = .ok (.p (.tuple [.list ((storeI ks h h.length).vals.map .int), .list (natsD (storeI ks h h.length).called)])) g := by
  have this : Eg (den__law_store [.p (sd (kS ks)), .p (.list (h.map Ask.d))] g) (fun d g' => d = .p (.tuple [.list ((storeI ks h h.length).vals.map .int), .list (natsD (storeI ks h h.length).called)]) ∧ g' = g) nXg := by
    rw [eq__law_store]
    unfold body__law_store
    walk_at "ev"
    have el : (h.map Ask.d).length = h.length := List.length_map ..
    generalize hL : (((h.map Ask.d).length : Nat) : Int) = jn
    have hj : jn.toNat = h.length ∧ 0 ≤ jn ∧ jn < 1000000 := by rw [el] at hL; omega
    refine ev_rng hj.2.1 hj.2.2 ?_
    rw [hj.1]
    refine es_for (fun j ρ m => ∃ (x5 x6 x7 x8 x9 x10 x11 : Option D), m = ⟨g, [.lst (((storeI ks h j).vals.map PyData.int).map D.p), .lst ((natsD (storeI ks h j).called).map D.p), .dct (sgM.kv intD' (storeI ks h j).known)]⟩ ∧
      ρ = [some (.p (sd (kS ks))), some (.p (.list (h.map Ask.d))), some (.cell (.l 0)), some (.cell (.l 1)), some (.cell (.l 2)), x5, x6, x7, x8, x9, x10, x11])
      ⟨none, none, none, none, none, none, none, rfl, rfl⟩ ?_ ?_
    · rintro j d hd ρ m ⟨x5, x6, x7, x8, x9, x10, x11, rfl, rfl⟩
      obtain ⟨hj, rfl⟩ := rngL_get hd
      have hj' : j < h.length := by omega
      have ho : h[j]? = some h[j] := List.getElem?_eq_getElem hj'
      have ix : ∀ m, ixG (.p (.list (h.map Ask.d))) (.p (.int j)) m = some (.p h[j].d, m) := fun m => ixG_list (by omega) (by simp [ho])
      obtain ⟨l1, l2, l3⟩ := storeI_lens ks h j
      have st : storeI ks h (j + 1) = stepS ks h[j] j (storeI ks h j) := by simp only [storeI, ho]
      generalize storeI ks h j = S at l1 l2 l3 st ⊢
      generalize h[j] = a at ix st ⊢
      unfold lb__law_store_1
      walk_at "ev"
      simp only [ix]
      walk_at "ev"
      simp only [Ask.d]
      walk_at "ev"
      simp only [dctI, get_span]
      walk_at "ev"
      simp only [get_span, eqG_str]
      walk_at "ev"
      simp only [str_beq, show Str.ofString "statement" = stmt from rfl, show Str.ofString "never" = never from rfl, eqG_str]
      simp only [ite_ok]
      walk_at "ev"
      rw [← sg_d ks a]
      have hk : sgM.kd (sgn ks a) = .tuple [.str a.n, .tuple (a.as.map .int), if span ks a.n = stmt then .int a.s else .none] := sg_d ks a
      have ni := KeyM.notIn (M := sgM) (f := intD') (l := S.known) (k := sgn ks a) (m := ⟨g, [.lst ((S.vals.map PyData.int).map D.p), .lst ((natsD S.called).map D.p), .dct (sgM.kv intD' S.known)]⟩) (i := .l 2) hk rfl
      rw [ni]
      simp only [or_ok]
      walk_at "ev"
      cases hb : (decide (span ks a.n = never) || !(S.known.lookup (sgn ks a)).isSome) with
      | true =>
        have hc : span ks a.n = never ∨ S.known.lookup (sgn ks a) = none := by
          rcases Bool.or_eq_true_iff.mp hb with z | z
          · exact .inl (of_decide_eq_true z)
          · right
            cases q : S.known.lookup (sgn ks a) with
            | none => rfl
            | some v => rw [q] at z; cases z
        simp only [if_true]
        rw [isTy_c rfl]
        walk_at "ev"
        rw [app_p rfl (by simp [natsD]; omega)]
        walk_at "ev"
        have se := KeyM.set (M := sgM) (f := intD') (l := S.known) (k := sgn ks a) (v := a.v) (m := ⟨g, [.lst ((S.vals.map PyData.int).map D.p), .lst ((natsD S.called).map D.p ++ [.p (.int (j : Int))]), .dct (sgM.kv intD' S.known)]⟩) (i := .l 2) hk rfl (by omega) rfl
        rw [show (D.p (.int a.v)) = intD' a.v from rfl, se]
        walk_at "ev"
        rw [isTy_c rfl]
        walk_at "ev"
        rw [show intD' a.v = D.p (.int a.v) from rfl, app_p rfl (by simp; omega)]
        walk_at "ev"
        refine ⟨_, _, _, _, _, _, _, ?_, rfl⟩
        rw [st, stepS, if_pos hc]
        simp [natsD]
      | false =>
        have hc : ¬ (span ks a.n = never ∨ S.known.lookup (sgn ks a) = none) := by
          rw [Bool.or_eq_false_iff] at hb
          rintro (z | z)
          · exact absurd z (of_decide_eq_false hb.1)
          · rw [z] at hb; cases hb.2
        obtain ⟨v, hv⟩ : ∃ v, S.known.lookup (sgn ks a) = some v := by
          cases q : S.known.lookup (sgn ks a) with
          | none => exact absurd (.inr q) hc
          | some v => exact ⟨v, rfl⟩
        have ie := KeyM.ix (M := sgM) (f := intD') (l := S.known) (k := sgn ks a) (v := v) (m := ⟨g, [.lst ((S.vals.map PyData.int).map D.p), .lst ((natsD S.called).map D.p), .dct (sgM.kv intD' S.known)]⟩) (i := .l 2) hk rfl hv
        simp only [Bool.false_eq_true, if_false]
        rw [isTy_c rfl]
        walk_at "ev"
        rw [ie]
        walk_at "ev"
        rw [show intD' v = D.p (.int v) from rfl, app_p rfl (by simp; omega)]
        walk_at "ev"
        refine ⟨_, _, _, _, _, _, _, ?_, rfl⟩
        rw [st, stepS, if_neg hc, hv]
        simp
    · rintro ρ m ⟨x5, x6, x7, x8, x9, x10, x11, rfl, rfl⟩
      rw [rngL_len]
      have f1 : frzC (.lst (((storeI ks h h.length).vals.map PyData.int).map D.p)) = some (.p (.list ((storeI ks h h.length).vals.map .int))) := by simp only [frzC, mkLst_p]
      have f2 : frzC (.lst ((natsD (storeI ks h h.length).called).map D.p)) = some (.p (.list (natsD (storeI ks h h.length).called))) := by simp only [frzC, mkLst_p]
      rw [frzV_at rfl rfl f2, frzV_at rfl rfl f1]
      walk_at "ev"
  obtain ⟨d, g', e, rfl, rfl⟩ := this.get
  exact e
end K90
namespace K90
open PySem PySem.Spec PyProof.Rows L2 L2.Dn
local macro_rules | `(tactic| walk_at "ev") => `(tactic| try simp only [seqS, ifS, setS, asgS, subG, augI, retS, exprS, nilS, testE, opE_eq, calE, consA, nilA, cE, notT, andT, orT, tvE, ifE, tupE, lstE, callE, metE, dmE, unE, slE, noO, someO, chE, forE, rng1I_eq, rngK_p, walkI, enumI, nameG, tupG, consG, nilG, parS, par3S, lcE, fldE, vE_0, vE_s, bind_ok, bindS_ok, lift_some, testR_ok, seq_nx, seq_rt, List.set_cons_zero, List.set_cons_succ, wipeR, ev_ok, ev_bind, ev_lift, ev_test, isB_p, es_bindS, es_seq, es_nx, es_rt, eg_fin, ev_call, eg_ok, addI_int, L2.Dn.ite_tt, L2.Dn.ite_ff, addD_int, subI_int, ltI_int, leI_int, gtI_int, geI_int, eqG_int, intD_int, negI_int, lenG_list, lenG_tuple, Bool.false_eq_true, if_false, if_true, nls_nil, nls_p, nls_g, nls_fn, nl_p, nl_g, true_and, List.length_cons, List.length_nil, tru_bool, Bool.not_true, Bool.not_false, decide_true, decide_false, and_self, and_true, reduceIte, ne_eq, not_true_eq_false, not_false_eq_true, mk0, mk1, mk2, mk3, mk4, ml0, ml1, ml2, ml3, ml4, ml5, ml6, tupOf_p, tupOf_t, isTy_s, isTy_l, newL_z, Nat.zero_le, sn1, sn2, sn3, sn4, sn5, sn6, sn7, sn8, sn9, sn10, sn11, sn12, sn13, sn14, sn15, sn16, sn17, sn18, sn19, sn20, sn21, sn22, sn23, sn24, dct0_l, dct0_z, new_l, new_g, at_l0, at_l1, at_l2, set_l0, set_l1, set_l2, List.nil_append, List.cons_append, frz_sk, Nat.zero_add, List.map_cons, List.map_nil, Nat.reduceAdd, Nat.reduceEqDiff, ev_exc, es_exc, slD_list, sz1, sz2, sz3, sz4, sz5, sz6, sz7, sz8, sz9, sz10, sz11, sz12, sz13, sz14, sz15, sz16, sz17, sz18, sz19, sz20, sz21, sz22, sz23, sz24])
local macro_rules | `(tactic| walk_at "evs") => `(tactic| try simp only [*, seqS, ifS, setS, asgS, subG, augI, retS, exprS, nilS, testE, opE_eq, calE, consA, nilA, cE, notT, andT, orT, tvE, ifE, tupE, lstE, callE, metE, dmE, unE, slE, noO, someO, chE, forE, rng1I_eq, rngK_p, walkI, enumI, nameG, tupG, consG, nilG, parS, par3S, lcE, fldE, vE_0, vE_s, bind_ok, bindS_ok, lift_some, testR_ok, seq_nx, seq_rt, List.set_cons_zero, List.set_cons_succ, wipeR, ev_ok, ev_bind, ev_lift, ev_test, isB_p, es_bindS, es_seq, es_nx, es_rt, eg_fin, ev_call, eg_ok, addI_int, L2.Dn.ite_tt, L2.Dn.ite_ff, addD_int, subI_int, ltI_int, leI_int, gtI_int, geI_int, eqG_int, intD_int, negI_int, lenG_list, lenG_tuple, Bool.false_eq_true, if_false, if_true, nls_nil, nls_p, nls_g, nls_fn, nl_p, nl_g, true_and, List.length_cons, List.length_nil, tru_bool, Bool.not_true, Bool.not_false, decide_true, decide_false, and_self, and_true, reduceIte, ne_eq, not_true_eq_false, not_false_eq_true, mk0, mk1, mk2, mk3, mk4, ml0, ml1, ml2, ml3, ml4, ml5, ml6, tupOf_p, tupOf_t, isTy_s, isTy_l, newL_z, Nat.zero_le, sn1, sn2, sn3, sn4, sn5, sn6, sn7, sn8, sn9, sn10, sn11, sn12, sn13, sn14, sn15, sn16, sn17, sn18, sn19, sn20, sn21, sn22, sn23, sn24, dct0_l, dct0_z, new_l, new_g, at_l0, at_l1, at_l2, set_l0, set_l1, set_l2, List.nil_append, List.cons_append, frz_sk, Nat.zero_add, List.map_cons, List.map_nil, Nat.reduceAdd, Nat.reduceEqDiff, ev_exc, es_exc, slD_list, sz1, sz2, sz3, sz4, sz5, sz6, sz7, sz8, sz9, sz10, sz11, sz12, sz13, sz14, sz15, sz16, sz17, sz18, sz19, sz20, sz21, sz22, sz23, sz24])
/-! ### the store tells what told tells -/
theorem never_ne : ¬ never = ever ∧ ¬ never = stmt := by decide
theorem span_in {ks : Kps} (hs : ∀ q ∈ ks, q.2 ∈ spansL) (n : Str) : span ks n = never ∨ span ks n = stmt ∨ span ks n = ever := by
  unfold span
  cases q : ks.lookup n with
  | none => exact .inl rfl
  | some x =>
    have := hs _ (look_mem q)
    simp only [spansL, List.mem_cons, List.not_mem_nil, or_false] at this
    exact this
theorem mt_sgn {ks : Kps} (hs : ∀ q ∈ ks, q.2 ∈ spansL) {a one : Ask} (hn : span ks a.n ≠ never) : mt (span ks a.n) a one = true ↔ sgn ks one = sgn ks a := by
  unfold mt sgn
  rw [Bool.and_eq_true, decide_eq_true_iff, Bool.or_eq_true, Bool.and_eq_true, decide_eq_true_iff, decide_eq_true_iff, decide_eq_true_iff]
  simp only [Prod.mk.injEq]
  constructor
  · rintro ⟨⟨h1, h2⟩, h3⟩
    refine ⟨h1, h2, ?_⟩
    rw [h1]
    rcases h3 with h3 | ⟨h3, h4⟩
    · rw [h3, if_neg (fun z => se_ne z.symm), if_neg (fun z => se_ne z.symm)]
    · rw [h4]
  · rintro ⟨h1, h2, h3⟩
    refine ⟨⟨h1, h2⟩, ?_⟩
    rw [h1] at h3
    rcases span_in hs a.n with z | z | z
    · exact absurd z hn
    · rw [z, if_pos rfl, if_pos rfl] at h3
      exact .inr ⟨z, Option.some.inj h3⟩
    · exact .inl z
theorem mt_never {a one : Ask} : mt never a one = false := by
  unfold mt
  rw [decide_eq_false never_ne.1, decide_eq_false never_ne.2]
  simp
theorem pmt_at {ks : Kps} {h : List Ask} {a one : Ask} {i : Nat} (hi : h[i]? = some one) : pmt ks h a i = mt (span ks a.n) a one := by simp only [pmt, hi]
theorem lastI_all {p : Nat → Bool} : ∀ {k : Nat}, (∀ i, i < k → p i = false) → lastI p k = none
  | 0, _ => rfl
  | k + 1, h => by
    unfold lastI
    rw [h k (Nat.lt_succ_self _), lastI_all fun i hi => h i (by omega)]
    rfl
theorem getD_app {xs : List Int} {y : Int} {i : Nat} (h : i < xs.length) : (xs ++ [y]).getD i 0 = xs.getD i 0 := by
  simp [List.getD, List.getElem?_append_left h]
theorem getD_last {xs : List Int} {y : Int} : (xs ++ [y]).getD xs.length 0 = y := by simp [List.getD]
theorem asked_succ (ks : Kps) (h : List Ask) (j : Nat) : askedI ks h (j + 1) = askedI ks h j ++ (if (earlI ks h j).isNone = true then [j] else []) := by
  unfold askedI
  rw [List.range_succ, List.filter_append]
  congr 1
  simp only [List.filter_cons, List.filter_nil]
structure Kp (ks : Kps) (h : List Ask) (k : Nat) : Prop where
  vals : (storeI ks h k).vals = toldI ks h k
  called : (storeI ks h k).called = askedI ks h k
  one : ∀ i a, i < k → h[i]? = some a → span ks a.n ≠ never → (storeI ks h k).known.lookup (sgn ks a) = some ((toldI ks h k).getD i 0)
  two : ∀ sg v, (storeI ks h k).known.lookup sg = some v → ∃ i a, i < k ∧ h[i]? = some a ∧ sgn ks a = sg
theorem store_told {ks : Kps} {h : List Ask} (hs : ∀ q ∈ ks, q.2 ∈ spansL) : ∀ k, k ≤ h.length → Kp ks h k
  | 0, _ => ⟨rfl, rfl, fun i a hi => absurd hi (Nat.not_lt_zero _), fun sg v e => by cases e⟩
  | k + 1, hk => by
    have ih := store_told (ks := ks) (h := h) hs k (by omega)
    have ho : h[k]? = some h[k] := List.getElem?_eq_getElem (by omega)
    have st : storeI ks h (k + 1) = stepS ks h[k] k (storeI ks h k) := by simp only [storeI, ho]
    have tl := toldI_len ks h k
    have eL : earlI ks h k = lastI (pmt ks h h[k]) k := by simp only [earlI, ho]
    have tS : toldI ks h (k + 1) = toldI ks h k ++ [match lastI (pmt ks h h[k]) k with
      | none => h[k].v
      | some i => (toldI ks h k).getD i 0] := by simp only [toldI, ho] <;> rfl
    have gl : ∀ y : Int, (toldI ks h k ++ [y]).getD k 0 = y := fun y => by
      have := getD_last (xs := toldI ks h k) (y := y)
      rw [tl] at this
      exact this
    have nm : ∀ {b : Ask}, sgn ks b = sgn ks h[k] → span ks b.n = span ks h[k].n := fun {b} e => by
      have : b.n = h[k].n := congrArg Prod.fst e
      rw [this]
    generalize hA : h[k] = a at ho st eL tS nm
    -- nothing is kept
    have fresh : lastI (pmt ks h a) k = none → (∀ i b, i < k → h[i]? = some b → span ks b.n ≠ never → sgn ks b ≠ sgn ks a) → (span ks a.n = never ∨ (storeI ks h k).known.lookup (sgn ks a) = none) → Kp ks h (k + 1) := by
      intro hL hd hc
      rw [hL] at tS eL
      have e1 : storeI ks h (k + 1) = ⟨(storeI ks h k).vals ++ [a.v], (storeI ks h k).called ++ [k], putA (storeI ks h k).known (sgn ks a) a.v⟩ := by rw [st, stepS, if_pos hc]
      refine ⟨by rw [e1, tS, ← ih.vals], by rw [e1, asked_succ, eL, ← ih.called]; rfl, ?_, ?_⟩
      · intro i b hi hb hn
        rw [e1]
        show (putA _ _ _).lookup _ = _
        rw [putA_look, tS]
        by_cases hik : i = k
        · subst hik
          have : b = a := by rw [ho] at hb; exact (Option.some.inj hb).symm
          subst this
          rw [if_pos rfl]
          exact congrArg some (gl _).symm
        · have hi' : i < k := by omega
          rw [if_neg (hd i b hi' hb hn), getD_app (by rw [tl]; exact hi')]
          exact ih.one i b hi' hb hn
      · intro sg v e
        rw [e1] at e
        have e : (putA (storeI ks h k).known (sgn ks a) a.v).lookup sg = some v := e
        rw [putA_look] at e
        by_cases hsg : sg = sgn ks a
        · exact ⟨k, a, Nat.lt_succ_self _, ho, hsg.symm⟩
        · rw [if_neg hsg] at e
          obtain ⟨i, b, h1, h2, h3⟩ := ih.two sg v e
          exact ⟨i, b, by omega, h2, h3⟩
    by_cases hN : span ks a.n = never
    · refine fresh (lastI_all fun i hi => ?_) (fun i b hi hb hn e => hn (by rw [nm e]; exact hN)) (.inl hN)
      have hb : h[i]? = some h[i] := List.getElem?_eq_getElem (by omega)
      rw [pmt_at hb, hN]
      exact mt_never
    · cases hq : (storeI ks h k).known.lookup (sgn ks a) with
      | none =>
        have hd : ∀ i b, i < k → h[i]? = some b → sgn ks b ≠ sgn ks a := fun i b hi hb e => by
          have := ih.one i b hi hb (by rw [nm e]; exact hN)
          rw [e, hq] at this
          cases this
        refine fresh (lastI_all fun i hi => ?_) (fun i b hi hb _ => hd i b hi hb) (.inr hq)
        have hb : h[i]? = some h[i] := List.getElem?_eq_getElem (by omega)
        rw [pmt_at hb]
        cases z : mt (span ks a.n) a h[i] with
        | false => rfl
        | true => exact absurd ((mt_sgn hs hN).mp z) (hd i _ hi hb)
      | some v =>
        obtain ⟨i0, b0, h1, h2, h3⟩ := ih.two _ _ hq
        cases hL : lastI (pmt ks h a) k with
        | none =>
          have := lastI_none hL i0 h1
          rw [pmt_at h2, (mt_sgn hs hN).mpr h3] at this
          cases this
        | some i =>
          obtain ⟨hi, hp⟩ := lastI_some hL
          have hb : h[i]? = some h[i] := List.getElem?_eq_getElem (by omega)
          rw [pmt_at hb] at hp
          have hsg := (mt_sgn hs hN).mp hp
          have hv := ih.one i _ hi hb (by rw [nm hsg]; exact hN)
          rw [hsg, hq] at hv
          have hv := Option.some.inj hv
          rw [hL] at tS eL
          have e1 : storeI ks h (k + 1) = ⟨(storeI ks h k).vals ++ [v], (storeI ks h k).called, (storeI ks h k).known⟩ := by
            rw [st, stepS, if_neg (by rintro (z | z); exact hN z; rw [hq] at z; cases z), hq]
            rfl
          have tS : toldI ks h (k + 1) = toldI ks h k ++ [v] := by rw [tS, hv]
          refine ⟨by rw [e1, tS, ← ih.vals], by rw [e1, asked_succ, eL, ← ih.called]; simp, ?_, ?_⟩
          · intro i2 b2 hi2 hb2 hn2
            rw [e1, tS]
            show (storeI ks h k).known.lookup _ = _
            by_cases hik : i2 = k
            · subst hik
              have : b2 = a := by rw [ho] at hb2; exact (Option.some.inj hb2).symm
              subst this
              rw [hq]
              exact congrArg some (gl _).symm
            · have hi' : i2 < k := by omega
              rw [getD_app (by rw [tl]; exact hi')]
              exact ih.one i2 b2 hi' hb2 hn2
          · intro sg w e
            rw [e1] at e
            obtain ⟨i3, b3, h1, h2, h3⟩ := ih.two sg w e
            exact ⟨i3, b3, by omega, h2, h3⟩
end K90
namespace K90
open PySem PySem.Spec PyProof.Rows L2 L2.Dn
local macro_rules | `(tactic| walk_at "ev") => `(tactic| try simp only [seqS, ifS, setS, asgS, subG, augI, retS, exprS, nilS, testE, opE_eq, calE, consA, nilA, cE, notT, andT, orT, tvE, ifE, tupE, lstE, callE, metE, dmE, unE, slE, noO, someO, chE, forE, rng1I_eq, rngK_p, walkI, enumI, nameG, tupG, consG, nilG, parS, par3S, lcE, fldE, vE_0, vE_s, bind_ok, bindS_ok, lift_some, testR_ok, seq_nx, seq_rt, List.set_cons_zero, List.set_cons_succ, wipeR, ev_ok, ev_bind, ev_lift, ev_test, isB_p, es_bindS, es_seq, es_nx, es_rt, eg_fin, ev_call, eg_ok, addI_int, L2.Dn.ite_tt, L2.Dn.ite_ff, addD_int, subI_int, ltI_int, leI_int, gtI_int, geI_int, eqG_int, intD_int, negI_int, lenG_list, lenG_tuple, Bool.false_eq_true, if_false, if_true, nls_nil, nls_p, nls_g, nls_fn, nl_p, nl_g, true_and, List.length_cons, List.length_nil, tru_bool, Bool.not_true, Bool.not_false, decide_true, decide_false, and_self, and_true, reduceIte, ne_eq, not_true_eq_false, not_false_eq_true, mk0, mk1, mk2, mk3, mk4, ml0, ml1, ml2, ml3, ml4, ml5, ml6, tupOf_p, tupOf_t, isTy_s, isTy_l, newL_z, Nat.zero_le, sn1, sn2, sn3, sn4, sn5, sn6, sn7, sn8, sn9, sn10, sn11, sn12, sn13, sn14, sn15, sn16, sn17, sn18, sn19, sn20, sn21, sn22, sn23, sn24, dct0_l, dct0_z, new_l, new_g, at_l0, at_l1, at_l2, set_l0, set_l1, set_l2, List.nil_append, List.cons_append, frz_sk, Nat.zero_add, List.map_cons, List.map_nil, Nat.reduceAdd, Nat.reduceEqDiff, ev_exc, es_exc, slD_list, sz1, sz2, sz3, sz4, sz5, sz6, sz7, sz8, sz9, sz10, sz11, sz12, sz13, sz14, sz15, sz16, sz17, sz18, sz19, sz20, sz21, sz22, sz23, sz24])
local macro_rules | `(tactic| walk_at "evs") => `(tactic| try simp only [*, seqS, ifS, setS, asgS, subG, augI, retS, exprS, nilS, testE, opE_eq, calE, consA, nilA, cE, notT, andT, orT, tvE, ifE, tupE, lstE, callE, metE, dmE, unE, slE, noO, someO, chE, forE, rng1I_eq, rngK_p, walkI, enumI, nameG, tupG, consG, nilG, parS, par3S, lcE, fldE, vE_0, vE_s, bind_ok, bindS_ok, lift_some, testR_ok, seq_nx, seq_rt, List.set_cons_zero, List.set_cons_succ, wipeR, ev_ok, ev_bind, ev_lift, ev_test, isB_p, es_bindS, es_seq, es_nx, es_rt, eg_fin, ev_call, eg_ok, addI_int, L2.Dn.ite_tt, L2.Dn.ite_ff, addD_int, subI_int, ltI_int, leI_int, gtI_int, geI_int, eqG_int, intD_int, negI_int, lenG_list, lenG_tuple, Bool.false_eq_true, if_false, if_true, nls_nil, nls_p, nls_g, nls_fn, nl_p, nl_g, true_and, List.length_cons, List.length_nil, tru_bool, Bool.not_true, Bool.not_false, decide_true, decide_false, and_self, and_true, reduceIte, ne_eq, not_true_eq_false, not_false_eq_true, mk0, mk1, mk2, mk3, mk4, ml0, ml1, ml2, ml3, ml4, ml5, ml6, tupOf_p, tupOf_t, isTy_s, isTy_l, newL_z, Nat.zero_le, sn1, sn2, sn3, sn4, sn5, sn6, sn7, sn8, sn9, sn10, sn11, sn12, sn13, sn14, sn15, sn16, sn17, sn18, sn19, sn20, sn21, sn22, sn23, sn24, dct0_l, dct0_z, new_l, new_g, at_l0, at_l1, at_l2, set_l0, set_l1, set_l2, List.nil_append, List.cons_append, frz_sk, Nat.zero_add, List.map_cons, List.map_nil, Nat.reduceAdd, Nat.reduceEqDiff, ev_exc, es_exc, slD_list, sz1, sz2, sz3, sz4, sz5, sz6, sz7, sz8, sz9, sz10, sz11, sz12, sz13, sz14, sz15, sz16, sz17, sz18, sz19, sz20, sz21, sz22, sz23, sz24])
/-! ### what is shown -/
theorem told_b {ks : Kps} {h : List Ask} (hv : ∀ a ∈ h, a.v.natAbs ≤ 10 ^ 30) : ∀ k, ∀ x ∈ toldI ks h k, x.natAbs ≤ 10 ^ 30
  | 0, x, hx => by cases hx
  | k + 1, x, hx => by
    have ih := told_b (ks := ks) (h := h) hv k
    rw [toldI] at hx
    rcases List.mem_append.mp hx with z | z
    · exact ih x z
    · rw [List.mem_singleton.mp z]
      split
      · rename_i a ha
        split
        · exact hv a (List.mem_of_getElem? ha)
        · rename_i i _
          cases q : (toldI ks h k)[i]? with
          | none => simp [List.getD, q]
          | some y => simp only [List.getD, q, Option.getD_some]; exact ih y (List.mem_of_getElem? q)
      · decide
theorem fit_i {x : Int} (h : x.natAbs ≤ 10 ^ 30) : Fit 0 32 (.int x) := Fit.int (k := 31) (by decide) (by decide) (Nat.lt_of_le_of_lt h (by decide))
theorem fit_ask {fs : Fns} {a : Ask} (h : AskOk fs a) : Fit 2 426 a.d := by
  refine Fit.tuple (d := 1) (n := 104) (k := 4) (fun p hp => ?_) (Nat.le_refl 4)
  simp only [List.mem_cons, List.not_mem_nil, or_false] at hp
  rcases hp with rfl | rfl | rfl | rfl
  · exact (fit_i (by have := h.s0; have := h.s1; omega)).mono (by decide) (by decide)
  · exact (Fit.str h.nm.str h.nm.l8).mono (by decide) (by decide)
  · exact Fit.tuple (d := 0) (n := 32) (k := 3) (fun q hq => by
      obtain ⟨x, hx, rfl⟩ := List.mem_map.mp hq
      exact fit_i (by have := h.ar x hx; omega)) (by rw [List.length_map]; exact h.la)
  · exact (fit_i h.vb).mono (by decide) (by decide)
structure HOk (h : List Ask) : Prop where
  len : h.length ≤ 40
  one : ∀ a ∈ h, ∃ fs, AskOk fs a
theorem HOk.nm {h : List Ask} (k : HOk h) : ∀ a ∈ h, NmOk a.n := fun a ha => let ⟨_, q⟩ := k.one a ha; q.nm
theorem fit_h {h : List Ask} (k : HOk h) : Fit 3 17122 (.list (h.map Ask.d)) := Fit.list (d := 2) (n := 426) (k := 40) (fun p hp => by
  obtain ⟨a, ha, rfl⟩ := List.mem_map.mp hp
  obtain ⟨fs, q⟩ := k.one a ha
  exact fit_ask q) (by rw [List.length_map]; exact k.len)
theorem fit_k {ks : Kps} (k : KsOk ks) : Fit 1 566 (sd (kS ks)) := Fit.dict (d := 0) (n := 92) (k := 3) (fun q hq => by
  obtain ⟨p, hp, rfl⟩ := List.mem_map.mp hq
  obtain ⟨r, hr, rfl⟩ := List.mem_map.mp hp
  obtain ⟨h1, h2⟩ := k.one r hr
  refine ⟨(Fit.str h1.str h1.l8).mono (by decide) (by decide), ?_⟩
  have : ∀ x ∈ spansL, PyData.strOk x = true ∧ x.length ≤ 9 := by
    have : spansL.all (fun x => PyData.strOk x && decide (x.length ≤ 9)) = true := by decide +kernel
    intro x hx
    have := List.all_eq_true.mp this x hx
    simpa using this
  exact Fit.str (this _ h2).1 (this _ h2).2) (by simp [kS]; exact k.len)
theorem shown_ok {ks : Kps} {h : List Ask} (hk : KsOk ks) (hh : HOk h) (m : Store) : ∃ x, reprD [.p (.list [sd (kS ks), .list (h.map Ask.d)])] m = some (.p (.str x), m) := by
  refine ⟨_, Fit.repr (d := 4) (n := 2 + 2 * (17122 + 2)) (Fit.list (k := 2) (fun p hp => ?_) (Nat.le_refl 2)) (by decide) (by decide)⟩
  simp only [List.mem_cons, List.not_mem_nil, or_false] at hp
  rcases hp with rfl | rfl
  · exact (fit_k hk).mono (by decide) (by decide)
  · exact fit_h hh
/-! ### alike -/
theorem deep_p (m : Store) (n : Nat) (d : PyData) : deep m n (.p d) = some d := by cases n <;> rfl
theorem deepAll_p (m : Store) (n : Nat) : ∀ ds : List PyData, deepAll (deep m n) (ds.map D.p) = some ds
  | [] => rfl
  | d :: ds => by simp only [List.map_cons, deepAll, deep_p, deepAll_p m n ds]
theorem at_pre {J l : List Cell} {x y : Cell} : (⟨J ++ [x] ++ [y], l⟩ : Store).at_ (.g J.length) = some x := by rw [gat]; simp
def LC (a : List PyData) : Cell := .lst (a.map D.p)
theorem alike_ok {a b : List PyData} {J : List Cell} {d n : Nat} (hf : flatP (.list [.list a, .list b]) = true) (ht : Fit d n (.list [.list a, .list b])) (hd : d ≤ 60) (hn : n ≤ 16777216) :
    den__law_alike [.lst [.cell (.g J.length), .cell (.g (J ++ [LC a]).length)], .p (.list [.list a, .list b])] (J ++ [LC a] ++ [LC b]) = .ok (.p (.bool true)) (J ++ [LC a] ++ [LC b]) := by
  have w : whole ⟨J ++ [LC a] ++ [LC b], []⟩ (.lst [.cell (.g J.length), .cell (.g (J ++ [LC a]).length)]) = some (.list [.list a, .list b]) := by
    simp only [whole, deep, deepAll, at_pre, at_last, LC, deepAll_p, Option.map_some]
  have e1 := eqG_whole (neg := false) (b := true) w (whole_p _ _) (shaped_flat hf (Nat.le_trans ht.dp (by omega))) (shaped_flat hf (Nat.le_trans ht.dp (by omega))) ((eqv_iff _ _ hf hf).mpr rfl)
  have e2 := reprD_whole w ht hd hn
  have e3 := ht.repr (m := ⟨J ++ [LC a] ++ [LC b], []⟩) hd hn
  rw [eq__law_alike]
  simp only [body__law_alike, retS, andG, opE_eq, calE, consA, nilA, vE_0, vE_s, bind_ok, e1, lift_some, Bool.false_eq_true, if_false, tru_bool, e2, e3, eqG_str, beq_self_eq_true, bindS_ok, fin_rt]
theorem ints_fit {xs : List Int} {k : Nat} (h : ∀ x ∈ xs, x.natAbs ≤ 10 ^ 30) (hk : xs.length ≤ k) : Fit 1 (2 + k * 34) (.list (xs.map .int)) := Fit.list (fun p hp => by
  obtain ⟨x, hx, rfl⟩ := List.mem_map.mp hp
  exact fit_i (h x hx)) (by rw [List.length_map]; exact hk)
theorem nats_ints (xs : List Nat) : natsD xs = (xs.map fun k : Nat => (k : Int)).map .int := by simp [natsD, Function.comp_def]
theorem asked_b {ks : Kps} {h : List Ask} {k : Nat} : (askedI ks h k).length ≤ k ∧ ∀ x ∈ askedI ks h k, x < k := by
  unfold askedI
  refine ⟨Nat.le_trans (List.length_filter_le _ _) (by simp), fun x hx => ?_⟩
  have := (List.mem_filter.mp hx).1
  exact List.mem_range.mp this
end K90
namespace K90
open PySem PySem.Spec PyProof.Rows L2 L2.Dn
local macro_rules | `(tactic| walk_at "ev") => `(tactic| try simp only [seqS, ifS, setS, asgS, subG, augI, retS, exprS, nilS, testE, opE_eq, calE, consA, nilA, cE, notT, andT, orT, tvE, ifE, tupE, lstE, callE, metE, dmE, unE, slE, noO, someO, chE, forE, rng1I_eq, rngK_p, walkI, enumI, nameG, tupG, consG, nilG, parS, par3S, lcE, fldE, vE_0, vE_s, bind_ok, bindS_ok, lift_some, testR_ok, seq_nx, seq_rt, List.set_cons_zero, List.set_cons_succ, wipeR, ev_ok, ev_bind, ev_lift, ev_test, isB_p, es_bindS, es_seq, es_nx, es_rt, eg_fin, ev_call, eg_ok, addI_int, L2.Dn.ite_tt, L2.Dn.ite_ff, addD_int, subI_int, ltI_int, leI_int, gtI_int, geI_int, eqG_int, intD_int, negI_int, lenG_list, lenG_tuple, Bool.false_eq_true, if_false, if_true, nls_nil, nls_p, nls_g, nls_fn, nl_p, nl_g, true_and, List.length_cons, List.length_nil, tru_bool, Bool.not_true, Bool.not_false, decide_true, decide_false, and_self, and_true, reduceIte, ne_eq, not_true_eq_false, not_false_eq_true, mk0, mk1, mk2, mk3, mk4, ml0, ml1, ml2, ml3, ml4, ml5, ml6, tupOf_p, tupOf_t, isTy_s, isTy_l, newL_z, Nat.zero_le, sn1, sn2, sn3, sn4, sn5, sn6, sn7, sn8, sn9, sn10, sn11, sn12, sn13, sn14, sn15, sn16, sn17, sn18, sn19, sn20, sn21, sn22, sn23, sn24, dct0_l, dct0_z, new_l, new_g, at_l0, at_l1, at_l2, set_l0, set_l1, set_l2, List.nil_append, List.cons_append, frz_sk, Nat.zero_add, List.map_cons, List.map_nil, Nat.reduceAdd, Nat.reduceEqDiff, ev_exc, es_exc, slD_list, sz1, sz2, sz3, sz4, sz5, sz6, sz7, sz8, sz9, sz10, sz11, sz12, sz13, sz14, sz15, sz16, sz17, sz18, sz19, sz20, sz21, sz22, sz23, sz24])
local macro_rules | `(tactic| walk_at "evs") => `(tactic| try simp only [*, seqS, ifS, setS, asgS, subG, augI, retS, exprS, nilS, testE, opE_eq, calE, consA, nilA, cE, notT, andT, orT, tvE, ifE, tupE, lstE, callE, metE, dmE, unE, slE, noO, someO, chE, forE, rng1I_eq, rngK_p, walkI, enumI, nameG, tupG, consG, nilG, parS, par3S, lcE, fldE, vE_0, vE_s, bind_ok, bindS_ok, lift_some, testR_ok, seq_nx, seq_rt, List.set_cons_zero, List.set_cons_succ, wipeR, ev_ok, ev_bind, ev_lift, ev_test, isB_p, es_bindS, es_seq, es_nx, es_rt, eg_fin, ev_call, eg_ok, addI_int, L2.Dn.ite_tt, L2.Dn.ite_ff, addD_int, subI_int, ltI_int, leI_int, gtI_int, geI_int, eqG_int, intD_int, negI_int, lenG_list, lenG_tuple, Bool.false_eq_true, if_false, if_true, nls_nil, nls_p, nls_g, nls_fn, nl_p, nl_g, true_and, List.length_cons, List.length_nil, tru_bool, Bool.not_true, Bool.not_false, decide_true, decide_false, and_self, and_true, reduceIte, ne_eq, not_true_eq_false, not_false_eq_true, mk0, mk1, mk2, mk3, mk4, ml0, ml1, ml2, ml3, ml4, ml5, ml6, tupOf_p, tupOf_t, isTy_s, isTy_l, newL_z, Nat.zero_le, sn1, sn2, sn3, sn4, sn5, sn6, sn7, sn8, sn9, sn10, sn11, sn12, sn13, sn14, sn15, sn16, sn17, sn18, sn19, sn20, sn21, sn22, sn23, sn24, dct0_l, dct0_z, new_l, new_g, at_l0, at_l1, at_l2, set_l0, set_l1, set_l2, List.nil_append, List.cons_append, frz_sk, Nat.zero_add, List.map_cons, List.map_nil, Nat.reduceAdd, Nat.reduceEqDiff, ev_exc, es_exc, slD_list, sz1, sz2, sz3, sz4, sz5, sz6, sz7, sz8, sz9, sz10, sz11, sz12, sz13, sz14, sz15, sz16, sz17, sz18, sz19, sz20, sz21, sz22, sz23, sz24])
/-! ### the law -/
theorem mkc2 {i j : Ix} : mkLst [.cell i, .cell j] = .lst [.cell i, .cell j] := rfl
theorem ixl0 {x y : D} {m : Store} : ixG (.lst [x, y]) (.p (.int 0)) m = some (x, m) := rfl
theorem ixl1 {x y : D} {m : Store} : ixG (.lst [x, y]) (.p (.int 1)) m = some (y, m) := rfl
theorem ixp0 {x y : PyData} {m : Store} : ixG (.p (.tuple [x, y])) (.p (.int 0)) m = some (.p x, m) := rfl
theorem ixp1 {x y : PyData} {m : Store} : ixG (.p (.tuple [x, y])) (.p (.int 1)) m = some (.p y, m) := rfl
theorem store_eq {ks : Kps} {h : List Ask} (hk : KsOk ks) (hh : HOk h) (g : List Cell) : den__law_store [.p (sd (kS ks)), .p (.list (h.map Ask.d))] g = .ok (.p (.tuple [.list ((toldI ks h h.length).map .int), .list (natsD (askedI ks h h.length))])) g := by
  have k := store_told (ks := ks) (h := h) (fun q hq => (hk.one q hq).2) h.length (Nat.le_refl _)
  rw [store_ok (by have := hh.len; omega), k.vals, k.called]
theorem set_pre {J l : List Cell} {x x' y : Cell} : (⟨J ++ [x] ++ [y], l⟩ : Store).set x' (.g J.length) = ⟨J ++ [x'] ++ [y], l⟩ := by rw [gset]; simp
theorem nl_sch (fs : Fns) : nl (schD fs) = true := rfl
theorem turn_ev {ks : Kps} {fs : Fns} {h : List Ask} {x : Str} (hk : KsOk ks) (hh : HOk h) (hx : ∀ m, reprD [.p (.list [sd (kS ks), .list (h.map Ask.d)])] m = some (.p (.str x), m)) {ρ0 : D} {o1 o2 o3 o4 o5 o11 o12 : Option D} {J : List Cell} {N : Rho → Store → Prop} {R : D → Store → Prop} {Y : Exn → Rho → Store → Prop}
    (k : ∀ (J' : List Cell) (o : Option D), N [some ρ0, o1, o2, o3, o4, o5, some (schD fs), some (.p (sd (kS ks))), some (.p (.list (h.map Ask.d))), some (.p (.tuple [.list ((toldI ks h h.length).map .int), .list (natsD (askedI ks h h.length))])), some (.p (.str x)), o11, o, none, none] ⟨J', []⟩) :
    Es (lb_law_1 [some ρ0, o1, o2, o3, o4, o5, some (schD fs), some (.p (sd (kS ks))), some (.p (.list (h.map Ask.d))), some (.p (.tuple [.list ((toldI ks h h.length).map .int), .list (natsD (askedI ks h h.length))])), some (.p (.str x)), o11, o12, none, none] ⟨J, []⟩) N R Y := by
  have hl := hh.len
  have e1 := fun g => told_ok (ks := ks) (S := schD fs) hh.nm (by omega) g
  have e2 := fun g => asked_ok (ks := ks) (S := schD fs) hh.nm (by omega) g
  have hv : ∀ a ∈ h, a.v.natAbs ≤ 10 ^ 30 := fun a ha => let ⟨_, q⟩ := hh.one a ha; q.vb
  have tb := told_b (ks := ks) hv h.length
  have tl := toldI_len ks h h.length
  have ab := asked_b (ks := ks) (h := h) (k := h.length)
  have f1 : Fit 1 1362 (.list ((toldI ks h h.length).map .int)) := ints_fit (k := 40) tb (by omega)
  have f2 : Fit 1 1362 (.list (natsD (askedI ks h h.length))) := by
    rw [nats_ints]
    refine ints_fit (k := 40) (fun y hy => ?_) (by rw [List.length_map]; omega)
    obtain ⟨z, hz, rfl⟩ := List.mem_map.mp hy
    have := ab.2 z hz
    omega
  have ft : Fit 2 (2 + 2 * 1364) (.list [.list ((toldI ks h h.length).map .int), .list (natsD (askedI ks h h.length))]) := Fit.list (k := 2) (fun p hp => by
    simp only [List.mem_cons, List.not_mem_nil, or_false] at hp
    rcases hp with rfl | rfl
    · exact f1
    · exact f2) (Nat.le_refl 2)
  have hf : flatP (.list [.list ((toldI ks h h.length).map .int), .list (natsD (askedI ks h h.length))]) = true := by
    rw [nats_ints]
    simp only [flatP, flatPs, ints_flat, Bool.and_self]
  have al := alike_ok (J := J) hf ft (by decide) (by decide)
  have nc : ∀ r, nls (schD fs :: r) = nls r := fun r => rfl
  have nq : ∀ i j r, nls (.lst [.cell (.g i), .cell (.g j)] :: r) = nls r := fun i j r => rfl
  unfold lb_law_1
  walk_at "ev"
  simp only [nc, e1]
  walk_at "ev"
  simp only [nc, e2]
  walk_at "ev"
  simp only [mkc2, ixp0, ixp1]
  walk_at "ev"
  simp only [nq]
  walk_at "ev"
  simp only [LC] at al
  refine Eg.of al ?_
  walk_at "ev"
  simp only [hx]
  walk_at "ev"
  simp only [eqG_str, beq_self_eq_true]
  walk_at "ev"
  simp only [ixl0]
  walk_at "ev"
  rw [isTy_c at_pre]
  walk_at "ev"
  rw [app_p at_pre (by simp [tl]; omega), set_pre]
  walk_at "ev"
  simp only [ixl1]
  walk_at "ev"
  have hq : ∀ x', (J ++ [Cell.lst (((toldI ks h h.length).map PyData.int).map D.p)]).length = (J ++ [x']).length := fun x' => by simp
  rw [hq (.lst (((toldI ks h h.length).map PyData.int).map D.p ++ [.p .none])), isTy_c at_last]
  walk_at "ev"
  simp only [clearL, at_last, set_last]
  walk_at "ev"
  exact k _ _
def drD (q : Fns × Kps) : D := .tup [.p (sd (fS q.1)), schD q.1, .p (sd (kS q.2))]
theorem three_ev {ks : Kps} {fs : Fns} {h : List Ask} (hk : KsOk ks) (hh : HOk h) {S H : D} {i : Int} (e1 : ∀ m, ixG S (.p (.int i)) m = some (drD (fs, ks), m)) (e2 : ∀ m, ixG H (.p (.int i)) m = some (.p (.list (h.map Ask.d)), m)) {x0 x1 : D} {o5 o6 o7 o8 o9 o10 o11 o12 : Option D} {J : List Cell} {N : Rho → Store → Prop} {R : D → Store → Prop} {Y : Exn → Rho → Store → Prop}
    (k : ∀ (J' : List Cell) (o5 o6 o7 o8 o9 o10 o11 o12 : Option D), N [some x0, some x1, some S, some H, some (.p (.int i)), o5, o6, o7, o8, o9, o10, o11, o12, none, none] ⟨J', []⟩) :
    Es (lb_law_2 [some x0, some x1, some S, some H, some (.p (.int i)), o5, o6, o7, o8, o9, o10, o11, o12, none, none] ⟨J, []⟩) N R Y := by
  have ix2 : ∀ m, ixG (drD (fs, ks)) (.p (.int 2)) m = some (.p (sd (kS ks)), m) := fun m => rfl
  have hs := fun g => store_eq hk hh g
  obtain ⟨x, hx0⟩ := shown_ok hk hh ⟨[], []⟩
  have hx : ∀ m, reprD [.p (.list [sd (kS ks), .list (h.map Ask.d)])] m = some (.p (.str x), m) := fun m => by
    obtain ⟨y, hy⟩ := shown_ok hk hh m
    have : ∀ m1 m2 : Store, ∀ z, reprD [.p (.list [sd (kS ks), .list (h.map Ask.d)])] m1 = some (.p (.str z), m1) → reprD [.p (.list [sd (kS ks), .list (h.map Ask.d)])] m2 = some (.p (.str z), m2) := by
      intro m1 m2 z hz
      simp only [reprD, whole_p] at hz ⊢
      split at hz
      · rename_i hc
        rw [if_pos hc]
        cases hz
        rfl
      · cases hz
    exact this _ m x hx0
  unfold lb_law_2
  walk_at "ev"
  simp only [e1]
  walk_at "ev"
  simp only [drD]
  walk_at "ev"
  simp only [e1, e2]
  walk_at "ev"
  simp only [e1, e2, ix2]
  walk_at "ev"
  simp only [e2, hs]
  walk_at "ev"
  simp only [hx]
  walk_at "ev"
  refine ev_rng (by decide) (by decide) ?_
  refine es_for (fun j ρ m => ∃ (J' : List Cell) (a11 a12 : Option D), m = ⟨J', []⟩ ∧ ρ = [some x0, some x1, some S, some H, some (.p (.int i)), some (.p (sd (fS fs))), some (schD fs), some (.p (sd (kS ks))), some (.p (.list (h.map Ask.d))), some (.p (.tuple [.list ((toldI ks h h.length).map .int), .list (natsD (askedI ks h h.length))])), some (.p (.str x)), a11, a12, none, none])
    ⟨J, o11, o12, rfl, rfl⟩ ?_ ?_
  · rintro j d hd ρ m ⟨J', a11, a12, rfl, rfl⟩
    walk_at "ev"
    exact turn_ev hk hh hx fun J2 o => ⟨J2, _, _, rfl, rfl⟩
  · rintro ρ m ⟨J', a11, a12, rfl, rfl⟩
    exact k _ _ _ _ _ _ _ _ _
theorem bag_ev {ns : List Int} (hl : ns.length ≤ 63) {P : D → List Cell → Prop} {Z : Exn → List Cell → Prop} (k : ∀ cs C, bagsOk cs C → P (.cell (.g 0)) [C]) : Eg (den__law_bag [nums ns] []) P Z := by
  obtain ⟨cs, C, hC, e⟩ := bag_ok ns hl
  have e : den__law_bag [nums ns] [] = .ok (.cell (.g 0)) [C] := e
  exact Eg.of e (k cs C hC)
theorem den_law_true (ns : List Int) (h : ns.length ≤ 63) : ∃ g, den_law [nums ns] [] = .ok (.p (.bool true)) g := by
  have this : Eg (den_law [nums ns] []) (fun d _ => d = .p (.bool true)) nXg := by
    have nn : ∀ r, nls (nums ns :: r) = nls r := fun r => rfl
    rw [eq_law]
    unfold body_law
    walk_at "ev"
    simp only [nn]
    walk_at "ev"
    refine bag_ev h fun cs C hC => ?_
    walk_at "ev"
    refine ev_rng (by decide) (by decide) (ev_sz (by rw [rngL_len]; decide) ?_)
    walk_at "ev"
    refine ev_lc (fun j acc m => ∃ (qs : List (Fns × Kps)) (C' : Cell) (J : List Cell), acc = qs.map drD ∧ qs.length = j ∧ (∀ q ∈ qs, FsOk q.1 ∧ q.1 ≠ [] ∧ KsOk q.2) ∧ bagsOk cs C' ∧ m = ⟨C' :: J, []⟩) ⟨[], C, [], rfl, rfl, by simp, hC, rfl⟩ ?_ ?_
    · rintro j d hd acc m ⟨qs, C1, J, rfl, hq, hq2, hC1, rfl⟩
      refine ⟨_, rfl, ?_⟩
      unfold yesT ce_law_1
      walk_at "ev"
      refine drawn_ev hC1 fun fs ks C2 hF hN hK hC2 => ?_
      refine ⟨qs ++ [(fs, ks)], C2, _, by simp [drD], by simp [hq], ?_, hC2, rfl⟩
      intro q hqq
      rcases List.mem_append.mp hqq with z | z
      · exact hq2 q z
      · rw [List.mem_singleton.mp z]; exact ⟨hF, hN, hK⟩
    rintro ys m ⟨qs, C1, J, rfl, hq, hq2, hC1, rfl⟩
    rw [rngL_len] at hq
    obtain ⟨a, b, rfl⟩ : ∃ a b, qs = [a, b] := by
      match qs, hq with
      | [a, b], _ => exact ⟨a, b, rfl⟩
    have ha := hq2 a (by simp)
    have hb := hq2 b (by simp)
    have ml : mkLst ([a, b].map drD) = .lst [drD a, drD b] := rfl
    walk_at "ev"
    rw [show mkLst [drD a, drD b] = .lst [drD a, drD b] from rfl]
    simp only [itemsZ]
    walk_at "ev"
    refine ev_lc (fun j acc m => ∃ (hs : List (List Ask)) (C' : Cell), acc = (hs.map fun h => PyData.list (h.map Ask.d)).map D.p ∧ hs.length = j ∧ (∀ h ∈ hs, HOk h) ∧ bagsOk cs C' ∧ m = ⟨C' :: J, []⟩) ⟨[], C1, rfl, rfl, by simp, hC1, rfl⟩ ?_ ?_
    · rintro j d hd acc m ⟨hs, C2, rfl, hq3, hq4, hC2, rfl⟩
      obtain ⟨q, hqk, rfl⟩ : ∃ q : Fns × Kps, (FsOk q.1 ∧ q.1 ≠ [] ∧ KsOk q.2) ∧ d = drD q := by
        have := List.mem_of_getElem? hd
        simp only [List.mem_cons, List.not_mem_nil, or_false] at this
        rcases this with rfl | rfl
        · exact ⟨a, ha, rfl⟩
        · exact ⟨b, hb, rfl⟩
      refine ⟨_, rfl, ?_⟩
      unfold yesT ce_law_2
      have ix0 : ∀ m, ixG (drD q) (.p (.int 0)) m = some (.p (sd (fS q.1)), m) := fun m => rfl
      walk_at "ev"
      simp only [ix0]
      walk_at "ev"
      refine asks_ev hC2 hqk.1 hqk.2.1 fun h C3 h1 h2 h3 h4 hC3 => ?_
      refine ⟨hs ++ [h], C3, by simp, by simp [hq3], ?_, hC3, rfl⟩
      intro z hz
      rcases List.mem_append.mp hz with z1 | z1
      · exact hq4 z z1
      · rw [List.mem_singleton.mp z1]; exact ⟨h2, fun a ha => ⟨_, h3 a ha⟩⟩
    rintro ys m ⟨hs, C2, rfl, hq3, hq4, hC2, rfl⟩
    obtain ⟨u, v, rfl⟩ : ∃ u v, hs = [u, v] := by
      match hs, hq3 with
      | [u, v], _ => exact ⟨u, v, rfl⟩
    have hu := hq4 u (by simp)
    have hv := hq4 v (by simp)
    walk_at "ev"
    unfold st_law_1
    walk_at "ev"
    simp only [itemsZ]
    walk_at "ev"
    have j0 : ∀ m, ixG (.lst [drD a, drD b]) (.p (.int 0)) m = some (drD (a.1, a.2), m) := fun m => rfl
    have j1 : ∀ m, ixG (.lst [drD a, drD b]) (.p (.int 1)) m = some (drD (b.1, b.2), m) := fun m => rfl
    have i0 : ∀ m, ixG (.p (.list [.list (u.map Ask.d), .list (v.map Ask.d)])) (.p (.int 0)) m = some (.p (.list (u.map Ask.d)), m) := fun m => rfl
    have i1 : ∀ m, ixG (.p (.list [.list (u.map Ask.d), .list (v.map Ask.d)])) (.p (.int 1)) m = some (.p (.list (v.map Ask.d)), m) := fun m => rfl
    refine es_for (fun j ρ m => ∃ (J' : List Cell) (o4 o5 o6 o7 o8 o9 o10 o11 o12 : Option D), m = ⟨J', []⟩ ∧ ρ = [some (nums ns), some (.cell (.g 0)), some (.lst [drD a, drD b]), some (.p (.list [.list (u.map Ask.d), .list (v.map Ask.d)])), o4, o5, o6, o7, o8, o9, o10, o11, o12, none, none])
      ⟨_, _, _, _, _, _, _, _, _, _, rfl, rfl⟩ ?_ ?_
    · rintro j d hd ρ m ⟨J', o4, o5, o6, o7, o8, o9, o10, o11, o12, rfl, rfl⟩
      have hd := List.mem_of_getElem? hd
      walk_at "ev"
      simp only [List.mem_cons, List.not_mem_nil, or_false] at hd
      rcases hd with rfl | rfl | rfl
      · exact three_ev ha.2.2 hu j0 i0 fun J2 b5 b6 b7 b8 b9 b10 b11 b12 => ⟨J2, _, b5, b6, b7, b8, b9, b10, b11, b12, rfl, rfl⟩
      · exact three_ev hb.2.2 hv j1 i1 fun J2 b5 b6 b7 b8 b9 b10 b11 b12 => ⟨J2, _, b5, b6, b7, b8, b9, b10, b11, b12, rfl, rfl⟩
      · exact three_ev ha.2.2 hu j0 i0 fun J2 b5 b6 b7 b8 b9 b10 b11 b12 => ⟨J2, _, b5, b6, b7, b8, b9, b10, b11, b12, rfl, rfl⟩
    · rintro ρ m ⟨J', o4, o5, o6, o7, o8, o9, o10, o11, o12, rfl, rfl⟩
      walk_at "ev"
  obtain ⟨d, g, e, rfl⟩ := this.get
  exact ⟨g, e⟩
end K90
open PySem PySem.W PyProof.Rows
set_option maxHeartbeats 0 in
theorem PySem.Challenge.cw_plancalls_k90_answers_that_are_kept_holds : PySem.Challenge.rw_plancalls_k90_answers_that_are_kept.Holds := by
  w_on; o_law; k_head; (case hw => w_witness2)
  k_fill
  refine L2.Dn.walk_den (l := PySem.Challenge.rw_plancalls_k90_answers_that_are_kept) (n := 63) (k := 9) (x := "_law_script") (den := K90.den_law) rfl (by decide) rfl ⟨rfl, by decide, by decide⟩ (fun w h Y => PySem.W.kIn_of Y) ?F (fun ns hl => K90.den_law_true ns hl)
  case F =>
    intro w mg fa h KX G hmg
    refine' K90.all_mk KX G hmg ?p1_is_integer ?p2_is_integer ?p3_is_integer ?p4_is_integer ?p1_is_name ?p2_is_name ?p3_is_name ?p4_is_name ?p1_is_kind ?p2_is_kind ?p3_is_kind ?p4_is_kind ?p1_is_reference ?p2_is_reference ?p3_is_reference ?p4_is_reference ?p1_is_made ?p2_is_made ?p3_is_made ?p4_is_made ?p1_is_list_of ?p2_is_list_of ?p3_is_list_of ?p4_is_list_of ?p1_are_columns ?p2_are_columns ?p3_are_columns ?p4_are_columns ?p1_is_shape ?p2_is_shape ?p3_is_shape ?p4_is_shape ?p1_is_dict_of ?p2_is_dict_of ?p3_is_dict_of ?p4_is_dict_of ?p1_is_dict_of_names ?p2_is_dict_of_names ?p3_is_dict_of_names ?p4_is_dict_of_names ?p1_Schema_made_of ?mi_Schema_made_of ?p2_Schema_made_of ?p3_Schema_made_of ?p4_Schema_made_of ?p1_Schema_check_keys ?mi_Schema_check_keys ?p2_Schema_check_keys ?p3_Schema_check_keys ?p4_Schema_check_keys ?p1_Schema_checked_references ?mi_Schema_checked_references ?p2_Schema_checked_references ?p3_Schema_checked_references ?p4_Schema_checked_references ?p1_Schema_checked_made ?mi_Schema_checked_made ?p2_Schema_checked_made ?p3_Schema_checked_made ?p4_Schema_checked_made ?p1_Schema_check_rings ?mi_Schema_check_rings ?p2_Schema_check_rings ?p3_Schema_check_rings ?p4_Schema_check_rings ?p1_Schema___init__ ?p2_Schema___init__ ?p3_Schema___init__ ?p4_Schema___init__ ?k1_Schema___init___keys ?k2_Schema___init___keys ?k1_Schema___init___references ?k2_Schema___init___references ?k1_Schema___init___made ?k2_Schema___init___made ?p1_earlier ?p2_earlier ?p3_earlier ?p4_earlier ?p1_told ?p2_told ?p3_told ?p4_told ?p1_asked ?p2_asked ?p3_asked ?p4_asked ?p1__law_bag ?p2__law_bag ?p3__law_bag ?p4__law_bag ?p1__law_take ?p2__law_take ?p3__law_take ?p4__law_take ?p1__law_alike ?p2__law_alike ?p3__law_alike ?p4__law_alike ?p1__law_draw_labels ?p2__law_draw_labels ?p3__law_draw_labels ?p4__law_draw_labels ?p1__law_asks ?p2__law_asks ?p3__law_asks ?p4__law_asks ?p1__law_drawn ?p2__law_drawn ?p3__law_drawn ?p4__law_drawn ?p1__law_store ?p2__law_store ?p3__law_store ?p4__law_store ?p1_law ?p2_law ?p3_law ?p4_law ?te_references ?te_made ?a_PlanError ?a_Wrong ?a_BadKey ?a_BadReference ?a_BadMade ?a_Ringed ?a_Schema ?xl_Wrong ?xr_Wrong ?xsa_Wrong ?xex_Wrong ?xty_Wrong ?xkp_Wrong ?xga_Wrong ?xgg_Wrong ?xhd_Wrong ?xcl_Wrong ?xmr_Wrong ?xl_BadKey ?xr_BadKey ?xsa_BadKey ?xex_BadKey ?xty_BadKey ?xkp_BadKey ?xga_BadKey ?xgg_BadKey ?xhd_BadKey ?xcl_BadKey ?xmr_BadKey ?xl_BadReference ?xr_BadReference ?xsa_BadReference ?xex_BadReference ?xty_BadReference ?xkp_BadReference ?xga_BadReference ?xgg_BadReference ?xhd_BadReference ?xcl_BadReference ?xmr_BadReference ?xl_BadMade ?xr_BadMade ?xsa_BadMade ?xex_BadMade ?xty_BadMade ?xkp_BadMade ?xga_BadMade ?xgg_BadMade ?xhd_BadMade ?xcl_BadMade ?xmr_BadMade ?xl_Ringed ?xr_Ringed ?xsa_Ringed ?xex_Ringed ?xty_Ringed ?xkp_Ringed ?xga_Ringed ?xgg_Ringed ?xhd_Ringed ?xcl_Ringed ?xmr_Ringed ?hn_ ?ht_ ?xi_BadKey ?xt_BadKey ?xp2_BadKey ?xp3_BadKey ?xp4_BadKey ?xn_BadKey_table ?xi_BadMade ?xt_BadMade ?xp2_BadMade ?xp3_BadMade ?xp4_BadMade ?xn_BadMade_at ?xi_BadReference ?xt_BadReference ?xp2_BadReference ?xp3_BadReference ?xp4_BadReference ?xn_BadReference_at ?xi_Ringed ?xt_Ringed ?xp2_Ringed ?xp3_Ringed ?xp4_Ringed ?xn_Ringed_table ?xn_Ringed_column ?xi_Wrong ?xt_Wrong ?xp2_Wrong ?xp3_Wrong ?xp4_Wrong ?xn_Wrong_place ?ba_PlanError ?bb_PlanError ?bc_PlanError ?ipg_Schema ?ihd_Schema ?ipo_Schema ?isa_Schema ?icl_Schema ?imr_Schema ?mm_Schema ?mf_Schema ?mp_Schema ?fi_its_columns_Schema ?fi_its_keys_Schema ?fi_its_made_Schema ?fi_its_references_Schema ?fi_its_shapes_Schema ?z_abs ?z_all ?z_bool ?z_dict ?z_enumerate ?z_int ?z_isinstance ?z_len ?z_list ?z_range ?z_repr ?z_set ?z_sorted ?z_str ?z_tuple ?q1_MOST_ARGUMENTS ?q1_MOST_NAMES ?q1_MOST_COLUMNS ?q1_LONGEST_NAME ?q1_LETTERS ?q1_KINDS ?q2_KINDS ?q3_KINDS ?q4_KINDS
    (case a_PlanError => k_is)
    (case a_Wrong => k_is)
    (case a_BadKey => k_is)
    (case a_BadReference => k_is)
    (case a_BadMade => k_is)
    (case a_Ringed => k_is)
    (case a_Schema => k_is)
    (case p1_is_integer => k_is)
    (case p2_is_integer => k_is)
    (case p3_is_integer => k_is)
    (case p4_is_integer => k_is)
    (case p1_is_name => k_is)
    (case p2_is_name => k_is)
    (case p3_is_name => k_is)
    (case p4_is_name => k_is)
    (case p1_is_kind => k_is)
    (case p2_is_kind => k_is)
    (case p3_is_kind => k_is)
    (case p4_is_kind => k_is)
    (case p1_is_reference => k_is)
    (case p2_is_reference => k_is)
    (case p3_is_reference => k_is)
    (case p4_is_reference => k_is)
    (case p1_is_made => k_is)
    (case p2_is_made => k_is)
    (case p3_is_made => k_is)
    (case p4_is_made => k_is)
    (case p1_is_list_of => k_is)
    (case p2_is_list_of => k_is)
    (case p3_is_list_of => k_is)
    (case p4_is_list_of => k_is)
    (case p1_are_columns => k_is)
    (case p2_are_columns => k_is)
    (case p3_are_columns => k_is)
    (case p4_are_columns => k_is)
    (case p1_is_shape => k_is)
    (case p2_is_shape => k_is)
    (case p3_is_shape => k_is)
    (case p4_is_shape => k_is)
    (case p1_is_dict_of => k_is)
    (case p2_is_dict_of => k_is)
    (case p3_is_dict_of => k_is)
    (case p4_is_dict_of => k_is)
    (case p1_is_dict_of_names => k_is)
    (case p2_is_dict_of_names => k_is)
    (case p3_is_dict_of_names => k_is)
    (case p4_is_dict_of_names => k_is)
    (case p1_Schema_made_of => k_is)
    (case mi_Schema_made_of => k_is)
    (case p2_Schema_made_of => k_is)
    (case p3_Schema_made_of => k_is)
    (case p4_Schema_made_of => k_is)
    (case p1_Schema_check_keys => k_is)
    (case mi_Schema_check_keys => k_is)
    (case p2_Schema_check_keys => k_is)
    (case p3_Schema_check_keys => k_is)
    (case p4_Schema_check_keys => k_is)
    (case p1_Schema_checked_references => k_is)
    (case mi_Schema_checked_references => k_is)
    (case p2_Schema_checked_references => k_is)
    (case p3_Schema_checked_references => k_is)
    (case p4_Schema_checked_references => k_is)
    (case p1_Schema_checked_made => k_is)
    (case mi_Schema_checked_made => k_is)
    (case p2_Schema_checked_made => k_is)
    (case p3_Schema_checked_made => k_is)
    (case p4_Schema_checked_made => k_is)
    (case p1_Schema_check_rings => k_is)
    (case mi_Schema_check_rings => k_is)
    (case p2_Schema_check_rings => k_is)
    (case p3_Schema_check_rings => k_is)
    (case p4_Schema_check_rings => k_is)
    (case p1_Schema___init__ => k_is)
    (case p2_Schema___init__ => k_is)
    (case p3_Schema___init__ => k_is)
    (case p4_Schema___init__ => k_is)
    (case k1_Schema___init___keys => k_is)
    (case k2_Schema___init___keys => first | rfl | exact ⟨_, rfl⟩)
    (case k1_Schema___init___references => k_is)
    (case k2_Schema___init___references => first | rfl | exact ⟨_, rfl⟩)
    (case k1_Schema___init___made => k_is)
    (case k2_Schema___init___made => first | rfl | exact ⟨_, rfl⟩)
    (case p1_earlier => k_is)
    (case p2_earlier => k_is)
    (case p3_earlier => k_is)
    (case p4_earlier => k_is)
    (case p1_told => k_is)
    (case p2_told => k_is)
    (case p3_told => k_is)
    (case p4_told => k_is)
    (case p1_asked => k_is)
    (case p2_asked => k_is)
    (case p3_asked => k_is)
    (case p4_asked => k_is)
    (case p1__law_bag => k_is)
    (case p2__law_bag => k_is)
    (case p3__law_bag => k_is)
    (case p4__law_bag => k_is)
    (case p1__law_take => k_is)
    (case p2__law_take => k_is)
    (case p3__law_take => k_is)
    (case p4__law_take => k_is)
    (case p1__law_alike => k_is)
    (case p2__law_alike => k_is)
    (case p3__law_alike => k_is)
    (case p4__law_alike => k_is)
    (case p1__law_draw_labels => k_is)
    (case p2__law_draw_labels => k_is)
    (case p3__law_draw_labels => k_is)
    (case p4__law_draw_labels => k_is)
    (case p1__law_asks => k_is)
    (case p2__law_asks => k_is)
    (case p3__law_asks => k_is)
    (case p4__law_asks => k_is)
    (case p1__law_drawn => k_is)
    (case p2__law_drawn => k_is)
    (case p3__law_drawn => k_is)
    (case p4__law_drawn => k_is)
    (case p1__law_store => k_is)
    (case p2__law_store => k_is)
    (case p3__law_store => k_is)
    (case p4__law_store => k_is)
    (case p1_law => k_is)
    (case p2_law => k_is)
    (case p3_law => k_is)
    (case p4_law => k_is)
    (case te_references => k_is)
    (case te_made => k_is)
    (case xl_Wrong => k_is)
    (case xr_Wrong => decide +kernel)
    (case xsa_Wrong => k_is)
    (case xex_Wrong => k_is)
    (case xty_Wrong => k_is)
    (case xkp_Wrong => k_is)
    (case xga_Wrong => k_is)
    (case xgg_Wrong => k_is)
    (case xhd_Wrong => k_is)
    (case xcl_Wrong => k_is)
    (case xmr_Wrong => k_is)
    (case xl_BadKey => k_is)
    (case xr_BadKey => decide +kernel)
    (case xsa_BadKey => k_is)
    (case xex_BadKey => k_is)
    (case xty_BadKey => k_is)
    (case xkp_BadKey => k_is)
    (case xga_BadKey => k_is)
    (case xgg_BadKey => k_is)
    (case xhd_BadKey => k_is)
    (case xcl_BadKey => k_is)
    (case xmr_BadKey => k_is)
    (case xl_BadReference => k_is)
    (case xr_BadReference => decide +kernel)
    (case xsa_BadReference => k_is)
    (case xex_BadReference => k_is)
    (case xty_BadReference => k_is)
    (case xkp_BadReference => k_is)
    (case xga_BadReference => k_is)
    (case xgg_BadReference => k_is)
    (case xhd_BadReference => k_is)
    (case xcl_BadReference => k_is)
    (case xmr_BadReference => k_is)
    (case xl_BadMade => k_is)
    (case xr_BadMade => decide +kernel)
    (case xsa_BadMade => k_is)
    (case xex_BadMade => k_is)
    (case xty_BadMade => k_is)
    (case xkp_BadMade => k_is)
    (case xga_BadMade => k_is)
    (case xgg_BadMade => k_is)
    (case xhd_BadMade => k_is)
    (case xcl_BadMade => k_is)
    (case xmr_BadMade => k_is)
    (case xl_Ringed => k_is)
    (case xr_Ringed => decide +kernel)
    (case xsa_Ringed => k_is)
    (case xex_Ringed => k_is)
    (case xty_Ringed => k_is)
    (case xkp_Ringed => k_is)
    (case xga_Ringed => k_is)
    (case xgg_Ringed => k_is)
    (case xhd_Ringed => k_is)
    (case xcl_Ringed => k_is)
    (case xmr_Ringed => k_is)
    (case hn_ => k_is)
    (case ht_ => k_is)
    (case xi_BadKey => k_is)
    (case xt_BadKey => k_is)
    (case xp2_BadKey => k_is)
    (case xp3_BadKey => k_is)
    (case xp4_BadKey => k_is)
    (case xn_BadKey_table => k_is)
    (case xi_BadMade => k_is)
    (case xt_BadMade => k_is)
    (case xp2_BadMade => k_is)
    (case xp3_BadMade => k_is)
    (case xp4_BadMade => k_is)
    (case xn_BadMade_at => k_is)
    (case xi_BadReference => k_is)
    (case xt_BadReference => k_is)
    (case xp2_BadReference => k_is)
    (case xp3_BadReference => k_is)
    (case xp4_BadReference => k_is)
    (case xn_BadReference_at => k_is)
    (case xi_Ringed => k_is)
    (case xt_Ringed => k_is)
    (case xp2_Ringed => k_is)
    (case xp3_Ringed => k_is)
    (case xp4_Ringed => k_is)
    (case xn_Ringed_table => k_is)
    (case xn_Ringed_column => k_is)
    (case xi_Wrong => k_is)
    (case xt_Wrong => k_is)
    (case xp2_Wrong => k_is)
    (case xp3_Wrong => k_is)
    (case xp4_Wrong => k_is)
    (case xn_Wrong_place => k_is)
    (case ba_PlanError => k_is)
    (case bb_PlanError => k_is)
    (case bc_PlanError => k_is)
    (case ipg_Schema => k_is)
    (case ihd_Schema => k_is)
    (case ipo_Schema => k_is)
    (case isa_Schema => k_is)
    (case icl_Schema => k_is)
    (case imr_Schema => k_is)
    (case mm_Schema => k_is)
    (case mf_Schema => k_is)
    (case mp_Schema => k_is)
    (case fi_its_columns_Schema => k_is)
    (case fi_its_keys_Schema => k_is)
    (case fi_its_made_Schema => k_is)
    (case fi_its_references_Schema => k_is)
    (case fi_its_shapes_Schema => k_is)
    (case z_abs => k_is)
    (case z_all => k_is)
    (case z_bool => k_is)
    (case z_dict => k_is)
    (case z_enumerate => k_is)
    (case z_int => k_is)
    (case z_isinstance => k_is)
    (case z_len => k_is)
    (case z_list => k_is)
    (case z_range => k_is)
    (case z_repr => k_is)
    (case z_set => k_is)
    (case z_sorted => k_is)
    (case z_str => k_is)
    (case z_tuple => k_is)
    (case q1_MOST_ARGUMENTS => k_is)
    (case q1_MOST_NAMES => k_is)
    (case q1_MOST_COLUMNS => k_is)
    (case q1_LONGEST_NAME => k_is)
    (case q1_LETTERS => k_is)
    (case q1_KINDS => k_is)
    (case q2_KINDS => k_is)
    (case q3_KINDS => decide)
    (case q4_KINDS => (repeat (first | exact PySem.Paired.nil | refine PySem.Paired.cons ⟨_, rfl⟩ ?_)))
    (all_goals exact .none)
