import PyProof.Rows.All
import HandS.ForMost
import HandS.Exc
import HandS.TryOnly
import HandS.WordsExc
import HandS.Flow
import HandS.IsInst
import HandS.Wide
import HandS.Deep
import KE.KeyNested
import HandS.TupAny
import PyProof.ReprRoads
import HandS.CallSlots
import HandS.Style
import KE.KDictWalk
import HandS.Strs
import KE.KDictKeyed
import KE.KDictCopyH
import KE.KDictOf
import KE.KDictList
import PyProof.DictTruth
import HandS.ExcInit
import HandS.ExcField
import HandS.ExcIs
import KE.KExcIs
import OpenK.KCls
import HandS.Defaults
import HandS.MakeKwOnly
import HandS.Property
import KE.SortData
import KE.KDictSum
import HandS.Star
import HandS.DictEq
import PyProof.InstNe
import PySem.Challenge.RW_plancalls_k22_answers_told
import PyProof.FitsInt
set_option Elab.async false
set_option linter.all false
set_option maxRecDepth 100000
set_option maxHeartbeats 4000000
/-! Dn: denotations of Python code as plain functions over data and a store of mutable cells, over the layer HandS. -/
namespace L2.Dn
open PySem PySem.Spec PyProof.Rows L2
/-! ### data, cells, the store -/
/-- where a cell lies: in the global store, or in the def's own -/
inductive Ix where
  | g (i : Nat)
  | l (i : Nat)
  deriving DecidableEq
inductive D where
  | p (d : PyData)
  | cell (i : Ix)
  | tup (xs : List D)
  | lst (xs : List D)
  /-- a frozen dict, an item at least no plain datum -/
  | dct (ks : List PyData) (xs : List D)
  /-- a frozen instance of a class of the module -/
  | obj (C : Str) (ns : List Str) (xs : List D)
  /-- the exception that is being handled -/
  | exn (C : Str) (ns : List Str) (xs : List D)
  /-- a def or a class of the module -/
  | fn (x : Str)
  | ty (n : String)
inductive Cell where
  | lst (xs : List D)
  | dct (kvs : List (PyData × D))
  | ins (C : Str) (fs : List (Str × D))
  | gone
structure Two (α : Type) where
  g : List α
  l : List α
def Two.at_ {α : Type} (t : Two α) : Ix → Option α
  | .g i => t.g[i]?
  | .l i => t.l[i]?
def Two.set {α : Type} (t : Two α) (x : α) : Ix → Two α
  | .g i => ⟨t.g.set i x, t.l⟩
  | .l i => ⟨t.g, t.l.set i x⟩
/-- one more at the end of one of both -/
def Two.push {α : Type} (t : Two α) (x : α) (loc : Bool) : Two α := if loc then ⟨t.g, t.l ++ [x]⟩ else ⟨t.g ++ [x], t.l⟩
def Two.next {α : Type} (t : Two α) (loc : Bool) : Ix := if loc then .l t.l.length else .g t.g.length
abbrev Store := Two Cell
abbrev Anc := Two Addr
structure Exn where
  cls : Str
  fs : List (Str × D)
inductive Res (α : Type) where
  | ok (a : α) (m : Store)
  | exc (x : Exn) (m : Store)
  | stuck
def Res.bind {α β : Type} : Res α → (α → Store → Res β) → Res β
  | .ok a m, k => k a m
  | .exc x m, _ => .exc x m
  | .stuck, _ => .stuck
abbrev Rho := List (Option D)
abbrev FE := Rho → Store → Res D
/-! ### the relation to the layer's heap -/
/-- what stands written, the world (hashes of texts), the module's names -/
structure KW where
  K : PySem.W.Frag
  w : World
  mg : Str → Option Value
  hd : Option (Addr × Obj)
instance : Coe KW PySem.W.Frag := ⟨KW.K⟩
/-- the same where nothing is being handled -/
abbrev KW.cold (K : KW) : KW := ⟨K.K, K.w, K.mg, none⟩
abbrev _root_.L2.Cx.kw (X : Cx) : KW := ⟨X.K, X.w, X.mg, if X.calm then none else X.pn.head?⟩
/-- a list that is never changed any more -/
def FzL (K : PySem.W.Frag) (H : Hp) (a : Addr) (xs : List V) : Prop := (∃ o, H a = some (.frz o (.lst xs))) ∨
  ∃ (its : Array Value) (n : Nat), K.lookup a = some { cls := .type "list", data := .seq its n } ∧ its.size ≤ sizeLine ∧ Vals xs its.toList
/-- a list that may be read -/
def RdL (K : PySem.W.Frag) (H : Hp) (a : Addr) (xs : List V) : Prop := H a = some (.lst xs) ∨ FzL K H a xs
theorem FzL.rd {K : PySem.W.Frag} {H : Hp} {a : Addr} {xs : List V} (h : FzL K H a xs) : RdL K H a xs := .inr h
theorem FzL.sq {K : PySem.W.Frag} {H : Hp} {a : Addr} {xs : List V} (h : FzL K H a xs) : SqL K H a xs := by
  rcases h with h | ⟨its, n, hk, hz, hv⟩
  · exact .inl (.inr h)
  · exact .inr ⟨_, its, n, hk, rfl, rfl, rfl, hz, hv⟩
theorem RdL.sq {K : PySem.W.Frag} {H : Hp} {a : Addr} {xs : List V} (h : RdL K H a xs) : SqL K H a xs := h.elim (fun h => .inl (.inl h)) FzL.sq
theorem RdL.obj {X : Cx} {pins : List (Addr × Obj)} {σ : St} {H : Hp} {s : Shared} {a : Addr} {xs : List V} (I : Inv X pins σ H s) (h : RdL X.K H a xs) :
    xs.length ≤ sizeLine ∧ ∃ (its : List Value) (n : Nat), Vals xs its ∧ s.heap.get? a = some { cls := .type "list", data := .seq its.toArray n } := by
  rcases h with h | ⟨o, h⟩ | ⟨its, n, hk, hz, hv⟩
  · exact I.hok a _ h
  · exact (I.hok a _ h).2
  · refine ⟨by rw [hv.length]; simpa using hz, its.toList, n, hv, ?_⟩
    rw [I.kIn a _ hk]
/-- what may change -/
def liveO : HO → Bool
  | .tup _ => false
  | .frz _ _ => false
  | .xd _ => false
  | .own _ => false
  | _ => true
/-- what stays: tuples, what is frozen, the dicts of exceptions and of instances -/
def Ext (H H' : Hp) : Prop := ∀ b u, liveO u = false → H b = some u → H' b = some u
theorem Ext.refl (H : Hp) : Ext H H := fun _ _ _ h => h
theorem Ext.trans {H H1 H2 : Hp} (a : Ext H H1) (b : Ext H1 H2) : Ext H H2 := fun _ _ l h => b _ _ l (a _ _ l h)
theorem Ext.new {H : Hp} {a : Addr} {o : HO} (h : H a = none) : Ext H (upd H a o) := fun b u _ e => by rw [upd_ne (ne_of_none e h)]; exact e
theorem Ext.putO {H : Hp} {a : Addr} {o u : HO} (h : H a = some u) (l : liveO u = true) : Ext H (upd H a o) := fun b x lx e => by
  rw [upd_ne (ne_of e h (by intro z; rw [z, l] at lx; cases lx))]; exact e
theorem Ext.put {H : Hp} {a : Addr} {o : HO} {xs : List V} (h : H a = some (.lst xs)) : Ext H (upd H a o) := Ext.putO h rfl
theorem FzL.ext {K : PySem.W.Frag} {H H' : Hp} {a : Addr} {xs : List V} (h : FzL K H a xs) (e : Ext H H') : FzL K H' a xs := by
  rcases h with ⟨o, h⟩ | h
  · exact .inl ⟨o, e _ _ rfl h⟩
  · exact .inr h
theorem SqT.ext {K : PySem.W.Frag} {H H' : Hp} {a : Addr} {xs : List V} (h : SqT K H a xs) (e : Ext H H') : SqT K H' a xs := by
  rcases h with (h | ⟨o, h⟩) | h
  · exact .inl (.inl (e _ _ rfl h))
  · exact .inl (.inr ⟨o, e _ _ rfl h⟩)
  · exact .inr h
/-- a key, up to == -/
def nk : PyData → Option NestedKey
  | .none => some .none
  | .bool b => some (.num (if b then 1 else 0))
  | .int i => some (.num i)
  | .str x => some (.text x)
  | .tuple ds => (nks ds).map .tup
  | _ => none
where nks : List PyData → Option (List NestedKey)
  | [] => some []
  | d :: ds => match nk d, nks ds with
    | some k, some ks => some (k :: ks)
    | _, _ => none
/-- a dict: its entries by their own object alone -/
def gdO (w : World) (a : Addr) (es : List (NestedKey × V × V)) : HO := .ext fun h => ∃ (o : Obj) (ens : Array DictEntry) (ep : Nat), (a == sysModules) = false ∧ h.get? a = some o ∧ o.ExactDict ∧ o.data = .dict ens ep ∧ Paired (fun (e : NestedKey × V × V) (x : DictEntry) => x.hash = e.1.hash w ∧ RelV e.2.1 x.key ∧ RelV e.2.2 x.val) es ens.toList
def keyP : Key → PyData
  | .inl i => .int i
  | .inr x => .str x
mutual
/-- frozen data -/
inductive DpZ (K : KW) (H : Hp) : V → PyData → Prop
  | non : DpZ K H .non .none
  | bl (b : Bool) : DpZ K H (.bl b) (.bool b)
  | int (i : Int) : DpZ K H (.int i) (.int i)
  | str (x : Str) : DpZ K H (.str x) (.str x)
  | lst {a : Addr} {xs : List V} {ds : List PyData} : FzL K H a xs → DpZs K H xs ds → DpZ K H (.ref a) (.list ds)
  | tup {a : Addr} {xs : List V} {ds : List PyData} : SqT K H a xs → DpZs K H xs ds → DpZ K H (.ref a) (.tuple ds)
  | dG {a : Addr} {o : Obj} {es : List (NestedKey × V × V)} {ds : List (PyData × PyData)} : H a = some (.frz o (gdO K.w a es)) → es.map (fun e => some e.1) = ds.map (fun q => nk q.1) → (∀ e ∈ es, e.1.depth ≤ 8) → (es.map (·.1)).Nodup → DpZs K H (es.map (·.2.1)) (ds.map (·.1)) → DpZs K H (es.map (·.2.2)) (ds.map (·.2)) → DpZ K H (.ref a) (.dict ds)
inductive DpZs (K : KW) (H : Hp) : List V → List PyData → Prop
  | nil : DpZs K H [] []
  | cons {v : V} {vs : List V} {d : PyData} {ds : List PyData} : DpZ K H v d → DpZs K H vs ds → DpZs K H (v :: vs) (d :: ds)
end
mutual
theorem DpZ.ext {K : KW} {H H' : Hp} (e : Ext H H') : ∀ {v : V} {d : PyData}, DpZ K H v d → DpZ K H' v d
  | _, _, .non => .non
  | _, _, .bl b => .bl b
  | _, _, .int i => .int i
  | _, _, .str x => .str x
  | _, _, .lst h r => .lst (h.ext e) (DpZs.ext e r)
  | _, _, .tup h r => .tup (SqT.ext h e) (DpZs.ext e r)
    | _, _, .dG h q h8 hn r r' => .dG (e _ _ rfl h) q h8 hn (DpZs.ext e r) (DpZs.ext e r')
theorem DpZs.ext {K : KW} {H H' : Hp} (e : Ext H H') : ∀ {vs : List V} {ds : List PyData}, DpZs K H vs ds → DpZs K H' vs ds
  | _, _, .nil => .nil
  | _, _, .cons h r => .cons (DpZ.ext e h) (DpZs.ext e r)
end
mutual
/-- data hang on the written part and the world alone -/
theorem DpZ.kw {K K' : KW} {H : Hp} (hk : K'.K = K.K) (hw : K'.w = K.w) : ∀ {v : V} {d : PyData}, DpZ K H v d → DpZ K' H v d
  | _, _, .non => .non
  | _, _, .bl b => .bl b
  | _, _, .int i => .int i
  | _, _, .str x => .str x
  | _, _, .lst h r => .lst (by rw [hk]; exact h) (DpZs.kw hk hw r)
  | _, _, .tup h r => .tup (by rw [hk]; exact h) (DpZs.kw hk hw r)
  | _, _, .dG h q h8 hn r r' => .dG (by rw [hw]; exact h) q h8 hn (DpZs.kw hk hw r) (DpZs.kw hk hw r')
theorem DpZs.kw {K K' : KW} {H : Hp} (hk : K'.K = K.K) (hw : K'.w = K.w) : ∀ {vs : List V} {ds : List PyData}, DpZs K H vs ds → DpZs K' H vs ds
  | _, _, .nil => .nil
  | _, _, .cons h r => .cons (DpZ.kw hk hw h) (DpZs.kw hk hw r)
end
/-- what a dict's keys are as data -/
structure DctK (K : KW) (H : Hp) (es : List (NestedKey × V × V)) (ks : List PyData) : Prop where
  key : es.map (fun e => some e.1) = ks.map nk
  dp : ∀ e ∈ es, e.1.depth ≤ 8
  nd : (es.map (·.1)).Nodup
  kd : DpZs K H (es.map (·.2.1)) ks
theorem DctK.ext {K : KW} {H H' : Hp} {es : List (NestedKey × V × V)} {ks : List PyData} (r : DctK K H es ks) (e : Ext H H') : DctK K H' es ks := ⟨r.key, r.dp, r.nd, r.kd.ext e⟩
theorem DctK.kw {K K' : KW} {H : Hp} {es : List (NestedKey × V × V)} {ks : List PyData} (hk : K'.K = K.K) (hw : K'.w = K.w) (r : DctK K H es ks) : DctK K' H es ks := ⟨r.key, r.dp, r.nd, r.kd.kw hk hw⟩
mutual
def VD (K : KW) (H : Hp) (c : Anc) (v : V) : D → Prop
  | .p d => DpZ K H v d
  | .cell i => ∃ a, c.at_ i = some a ∧ v = .ref a
  | .tup xs => ∃ a vs, v = .ref a ∧ SqT K H a vs ∧ VDs K H c vs xs
  | .lst xs => ∃ a vs, v = .ref a ∧ FzL K H a vs ∧ VDs K H c vs xs
  | .dct ks xs => ∃ a o es, v = .ref a ∧ H a = some (.frz o (gdO K.w a es)) ∧ DctK K H es ks ∧ VDs K H c (es.map (·.2.2)) xs
  | .obj C ns xs => ∃ a o Ca dx fs, v = .ref a ∧ K.mg C = some (.ref Ca) ∧ H a = some (.frz o (.ins Ca dx fs)) ∧ fs.map (·.1) = ns ∧ VDs K H c (fs.map (·.2)) xs
  | .exn C ns xs => ∃ a oe Ca d fs, K.hd = some (a, oe) ∧ v = .ref a ∧ K.mg C = some (.ref Ca) ∧ Zc (.ref Ca) d oe ∧ (∃ vs, oe.data = .fields vs) ∧ ((ns = [] ∧ d = none ∧ fs = []) ∨ ∃ dx, d = some dx ∧ H dx = some (.xd fs) ∧ fs.map (·.1) = ns) ∧ VDs K H c (fs.map (·.2)) xs
  | .fn x => ∃ a, K.mg x = some (.ref a) ∧ v = .ref a
  | .ty n => v = .ty n
def VDs (K : KW) (H : Hp) (c : Anc) (vs : List V) : List D → Prop
  | [] => vs = []
  | d :: ds => ∃ v r, vs = v :: r ∧ VD K H c v d ∧ VDs K H c r ds
end
/-- the one goes on from the other -/
def Pre (c c' : Anc) : Prop := c.g <+: c'.g ∧ c.l <+: c'.l
theorem Pre.refl (c : Anc) : Pre c c := ⟨List.prefix_refl _, List.prefix_refl _⟩
theorem Pre.trans {a b c : Anc} (h : Pre a b) (q : Pre b c) : Pre a c := ⟨h.1.trans q.1, h.2.trans q.2⟩
theorem pre_get1 {c c' : List Addr} (h : c <+: c') {i : Nat} {a : Addr} (e : c[i]? = some a) : c'[i]? = some a := by
  obtain ⟨t, rfl⟩ := h
  rw [List.getElem?_append_left (List.getElem?_eq_some_iff.mp e).1]
  exact e
theorem pre_get {c c' : Anc} (h : Pre c c') : ∀ {i : Ix} {a : Addr}, c.at_ i = some a → c'.at_ i = some a
  | .g i, a, e => pre_get1 h.1 e
  | .l i, a, e => pre_get1 h.2 e
mutual
theorem VD.mono {K : KW} {H H' : Hp} {c c' : Anc} (e : Ext H H') (h : Pre c c') : ∀ {v : V} (d : D), VD K H c v d → VD K H' c' v d
  | v, .p d, r => by unfold VD at r ⊢; exact DpZ.ext e r
  | v, .cell i, r => by
    unfold VD at r ⊢
    obtain ⟨a, h1, h2⟩ := r
    exact ⟨a, pre_get h h1, h2⟩
  | v, .tup xs, r => by
    unfold VD at r ⊢
    obtain ⟨a, vs, h1, h2, h3⟩ := r
    exact ⟨a, vs, h1, SqT.ext h2 e, VDs.mono e h xs h3⟩
  | v, .lst xs, r => by
    unfold VD at r ⊢
    obtain ⟨a, vs, h1, h2, h3⟩ := r
    exact ⟨a, vs, h1, h2.ext e, VDs.mono e h xs h3⟩
  | v, .dct ks xs, r => by
    unfold VD at r ⊢
    obtain ⟨a, o, es, h1, h2, h3, h4⟩ := r
    exact ⟨a, o, es, h1, e _ _ rfl h2, h3.ext e, VDs.mono e h xs h4⟩
  | v, .obj C ns xs, r => by
    unfold VD at r ⊢
    obtain ⟨a, o, Ca, dx, fs, h1, h2, h3, h4, h5⟩ := r
    exact ⟨a, o, Ca, dx, fs, h1, h2, e _ _ rfl h3, h4, VDs.mono e h xs h5⟩
  | v, .exn C ns xs, r => by
    unfold VD at r ⊢
    obtain ⟨a, oe, Ca, d, fs, h1, h2, h3, h4, h5, h6, h7⟩ := r
    refine ⟨a, oe, Ca, d, fs, h1, h2, h3, h4, h5, h6.imp id ?_, VDs.mono e h xs h7⟩
    rintro ⟨dx, q1, q2, q3⟩
    exact ⟨dx, q1, e _ _ rfl q2, q3⟩
  | v, .fn x, r => by unfold VD at r ⊢; exact r
  | v, .ty n, r => by unfold VD at r ⊢; exact r
theorem VDs.mono {K : KW} {H H' : Hp} {c c' : Anc} (e : Ext H H') (h : Pre c c') : ∀ {vs : List V} (ds : List D), VDs K H c vs ds → VDs K H' c' vs ds
  | vs, [], r => by unfold VDs at r ⊢; exact r
  | vs, d :: ds, r => by
    unfold VDs at r ⊢
    obtain ⟨v, q, h1, h2, h3⟩ := r
    exact ⟨v, q, h1, VD.mono e h d h2, VDs.mono e h ds h3⟩
end
theorem VDs.length {K : KW} {H : Hp} {c : Anc} : ∀ {vs : List V} {ds : List D}, VDs K H c vs ds → vs.length = ds.length
  | _, [], r => by unfold VDs at r; subst r; rfl
  | _, d :: ds, r => by
    unfold VDs at r
    obtain ⟨v, q, h1, _, h3⟩ := r
    subst h1
    simp [VDs.length h3]
theorem VDs.get {K : KW} {H : Hp} {c : Anc} : ∀ {vs : List V} {ds : List D} {i : Nat} {d : D}, VDs K H c vs ds → ds[i]? = some d → ∃ v, vs[i]? = some v ∧ VD K H c v d
  | _, [], _, _, _, e => by simp at e
  | _, d :: ds, 0, d', r, e => by
    unfold VDs at r
    obtain ⟨v, q, h1, h2, h3⟩ := r
    simp at e
    subst e h1
    exact ⟨v, rfl, h2⟩
  | _, d :: ds, i + 1, d', r, e => by
    unfold VDs at r
    obtain ⟨v, q, h1, h2, h3⟩ := r
    subst h1
    simp at e
    obtain ⟨w, h4, h5⟩ := VDs.get h3 e
    exact ⟨w, by simpa using h4, h5⟩
theorem VDs.append {K : KW} {H : Hp} {c : Anc} : ∀ {vs ws : List V} {ds es : List D}, VDs K H c vs ds → VDs K H c ws es → VDs K H c (vs ++ ws) (ds ++ es)
  | _, _, [], _, r, q => by unfold VDs at r; subst r; exact q
  | _, _, d :: ds, _, r, q => by
    unfold VDs at r
    obtain ⟨v, t, h1, h2, h3⟩ := r
    subst h1
    show VDs K H c (v :: (t ++ _)) (d :: (ds ++ _))
    unfold VDs
    exact ⟨v, _, rfl, h2, VDs.append h3 q⟩
theorem VDs.set {K : KW} {H : Hp} {c : Anc} {v : V} {d : D} (h : VD K H c v d) : ∀ {vs : List V} {ds : List D} (i : Nat), VDs K H c vs ds → VDs K H c (vs.set i v) (ds.set i d)
  | _, [], _, r => by
    unfold VDs at r
    subst r
    simp [VDs]
  | _, e :: ds, 0, r => by
    unfold VDs at r
    obtain ⟨w, t, h1, h2, h3⟩ := r
    subst h1
    show VDs K H c (v :: t) (d :: ds)
    unfold VDs
    exact ⟨v, t, rfl, h, h3⟩
  | _, e :: ds, i + 1, r => by
    unfold VDs at r
    obtain ⟨w, t, h1, h2, h3⟩ := r
    subst h1
    show VDs K H c (w :: t.set i v) (e :: ds.set i d)
    unfold VDs
    exact ⟨w, _, rfl, h2, VDs.set h i h3⟩
theorem VDs.drop {K : KW} {H : Hp} {c : Anc} : ∀ {vs : List V} {ds : List D} (n : Nat), VDs K H c vs ds → VDs K H c (vs.drop n) (ds.drop n)
  | _, _, 0, r => r
  | _, [], n + 1, r => by unfold VDs at r; subst r; simp [VDs]
  | _, e :: ds, n + 1, r => by
    unfold VDs at r
    obtain ⟨w, t, h1, h2, h3⟩ := r
    subst h1
    exact VDs.drop n h3
theorem VDs.take {K : KW} {H : Hp} {c : Anc} : ∀ {vs : List V} {ds : List D} (n : Nat), VDs K H c vs ds → VDs K H c (vs.take n) (ds.take n)
  | _, _, 0, r => by simp [VDs]
  | _, [], n + 1, r => by unfold VDs at r; subst r; simp [VDs]
  | _, e :: ds, n + 1, r => by
    unfold VDs at r
    obtain ⟨w, t, h1, h2, h3⟩ := r
    subst h1
    show VDs K H c (w :: t.take n) (e :: ds.take n)
    unfold VDs
    exact ⟨w, _, rfl, h2, VDs.take n h3⟩
theorem VDs.one {K : KW} {H : Hp} {c : Anc} {v : V} {d : D} (h : VD K H c v d) : VDs K H c [v] [d] := by
  unfold VDs
  exact ⟨v, [], rfl, h, by unfold VDs; rfl⟩
theorem VDs.ofp {K : KW} {H : Hp} {c : Anc} : ∀ {vs : List V} {ds : List PyData}, DpZs K H vs ds → VDs K H c vs (ds.map D.p)
  | _, _, .nil => by simp [VDs]
  | _, _, .cons h r => by
    show VDs K H c _ (D.p _ :: _)
    unfold VDs
    exact ⟨_, _, rfl, by unfold VD; exact h, VDs.ofp r⟩
theorem VDs.top {K : KW} {H : Hp} {c : Anc} : ∀ {vs : List V} {ds : List PyData}, VDs K H c vs (ds.map D.p) → DpZs K H vs ds
  | _, [], r => by
    simp [VDs] at r
    subst r
    exact .nil
  | _, d :: ds, r => by
    simp only [List.map_cons] at r
    unfold VDs at r
    obtain ⟨w, t, h1, h2, h3⟩ := r
    subst h1
    unfold VD at h2
    exact .cons h2 (VDs.top h3)
/-- what a dict's entries are as data -/
structure DctR (K : KW) (H : Hp) (c : Anc) (es : List (NestedKey × V × V)) (kvs : List (PyData × D)) : Prop where
  key : es.map (fun e => some e.1) = kvs.map (fun q => nk q.1)
  dp : ∀ e ∈ es, e.1.depth ≤ 8
  nd : (es.map (·.1)).Nodup
  kd : DpZs K H (es.map (·.2.1)) (kvs.map (·.1))
  vd : VDs K H c (es.map (·.2.2)) (kvs.map (·.2))
theorem DctR.mono {K : KW} {H H' : Hp} {c c' : Anc} {es : List (NestedKey × V × V)} {kvs : List (PyData × D)} (r : DctR K H c es kvs) (ex : Ext H H') (p : Pre c c') : DctR K H' c' es kvs := ⟨r.key, r.dp, r.nd, r.kd.ext ex, VDs.mono ex p _ r.vd⟩
def CellR (K : KW) (H : Hp) (c : Anc) (a : Addr) : Cell → Prop
  | .lst ds => ∃ xs, H a = some (.lst xs) ∧ VDs K H c xs ds
  | .dct kvs => ∃ es, H a = some (gdO K.w a es) ∧ DctR K H c es kvs
  | .ins C fs => ∃ Ca dx vs, H a = some (.ins Ca dx vs) ∧ K.mg C = some (.ref Ca) ∧ vs.map (·.1) = fs.map (·.1) ∧ VDs K H c (vs.map (·.2)) (fs.map (·.2))
  | .gone => ∃ o u, H a = some (.frz o u)
/-- what the contents of a cell may name: a global cell no cell of the def's own -/
def glob {α : Type} (c : Two α) : Two α := ⟨c.g, []⟩
def forI (c : Anc) : Ix → Anc
  | .g _ => glob c
  | .l _ => c
theorem glob_pre (c : Anc) : Pre (glob c) c := ⟨List.prefix_refl _, List.nil_prefix⟩
theorem forI_pre {c c' : Anc} (p : Pre c c') : ∀ i, Pre (forI c i) (forI c' i)
  | .g _ => ⟨p.1, List.prefix_refl _⟩
  | .l _ => p
theorem forI_le (c : Anc) : ∀ i, Pre (forI c i) c
  | .g _ => glob_pre c
  | .l _ => Pre.refl c
mutual
/-- names no cell of the def's own -/
def nl : D → Bool
  | .p _ => true
  | .cell (.g _) => true
  | .cell (.l _) => false
  | .tup xs => nls xs
  | .lst xs => nls xs
  | .dct _ xs => nls xs
  | .obj _ _ xs => nls xs
  | .exn _ _ _ => false
  | .fn _ => true
  | .ty _ => true
def nls : List D → Bool
  | [] => true
  | d :: ds => nl d && nls ds
end
mutual
theorem VD.nl {K : KW} {H : Hp} {c : Anc} : ∀ {v : V} (d : D), VD K H c v d → nl d = true → VD K H (glob c) v d
  | v, .p d, r, _ => by unfold VD at r ⊢; exact r
  | v, .cell (.g i), r, _ => by unfold VD at r ⊢; exact r
  | v, .cell (.l i), r, e => by simp [Dn.nl] at e
  | v, .tup xs, r, e => by
    unfold VD at r ⊢
    obtain ⟨a, vs, h1, h2, h3⟩ := r
    exact ⟨a, vs, h1, h2, VDs.nl xs h3 (by simpa [Dn.nl] using e)⟩
  | v, .lst xs, r, e => by
    unfold VD at r ⊢
    obtain ⟨a, vs, h1, h2, h3⟩ := r
    exact ⟨a, vs, h1, h2, VDs.nl xs h3 (by simpa [Dn.nl] using e)⟩
  | v, .dct ks xs, r, e => by
    unfold VD at r ⊢
    obtain ⟨a, o, es, h1, h2, h3, h4⟩ := r
    exact ⟨a, o, es, h1, h2, h3, VDs.nl xs h4 (by simpa [Dn.nl] using e)⟩
  | v, .obj C ns xs, r, e => by
    unfold VD at r ⊢
    obtain ⟨a, o, Ca, dx, fs, h1, h2, h3, h4, h5⟩ := r
    exact ⟨a, o, Ca, dx, fs, h1, h2, h3, h4, VDs.nl xs h5 (by simpa [Dn.nl] using e)⟩
  | v, .exn C ns xs, r, e => by simp [Dn.nl] at e
  | v, .fn x, r, _ => by unfold VD at r ⊢; exact r
  | v, .ty n, r, _ => by unfold VD at r ⊢; exact r
theorem VDs.nl {K : KW} {H : Hp} {c : Anc} : ∀ {vs : List V} (ds : List D), VDs K H c vs ds → nls ds = true → VDs K H (glob c) vs ds
  | vs, [], r, _ => by unfold VDs at r ⊢; exact r
  | vs, d :: ds, r, e => by
    unfold VDs at r ⊢
    obtain ⟨v, q, h1, h2, h3⟩ := r
    simp only [nls, Bool.and_eq_true] at e
    exact ⟨v, q, h1, VD.nl d h2 e.1, VDs.nl ds h3 e.2⟩
end
mutual
/-- names no exception that is being handled -/
def nx : D → Bool
  | .tup xs => nxs xs
  | .lst xs => nxs xs
  | .dct _ xs => nxs xs
  | .obj _ _ xs => nxs xs
  | .exn _ _ _ => false
  | _ => true
def nxs : List D → Bool
  | [] => true
  | d :: ds => nx d && nxs ds
end
mutual
theorem VD.kw {K K' : KW} {H : Hp} {c : Anc} (hk : K'.K = K.K) (hw : K'.w = K.w) (hm : K'.mg = K.mg) : ∀ {v : V} (d : D), VD K H c v d → nx d = true → VD K' H c v d
  | v, .p d, r, _ => by unfold VD at r ⊢; exact r.kw hk hw
  | v, .cell i, r, _ => by unfold VD at r ⊢; exact r
  | v, .tup xs, r, e => by
    unfold VD at r ⊢
    obtain ⟨a, vs, h1, h2, h3⟩ := r
    exact ⟨a, vs, h1, by rw [hk]; exact h2, VDs.kw hk hw hm xs h3 (by simpa [nx] using e)⟩
  | v, .lst xs, r, e => by
    unfold VD at r ⊢
    obtain ⟨a, vs, h1, h2, h3⟩ := r
    exact ⟨a, vs, h1, by rw [hk]; exact h2, VDs.kw hk hw hm xs h3 (by simpa [nx] using e)⟩
  | v, .dct ks xs, r, e => by
    unfold VD at r ⊢
    obtain ⟨a, o, es, h1, h2, h3, h4⟩ := r
    exact ⟨a, o, es, h1, by rw [hw]; exact h2, h3.kw hk hw, VDs.kw hk hw hm xs h4 (by simpa [nx] using e)⟩
  | v, .obj C ns xs, r, e => by
    unfold VD at r ⊢
    obtain ⟨a, o, Ca, dx, fs, h1, h2, h3, h4, h5⟩ := r
    exact ⟨a, o, Ca, dx, fs, h1, by rw [hm]; exact h2, h3, h4, VDs.kw hk hw hm xs h5 (by simpa [nx] using e)⟩
  | v, .exn C ns xs, r, e => by simp [nx] at e
  | v, .fn x, r, _ => by unfold VD at r ⊢; rw [hm]; exact r
  | v, .ty n, r, _ => by unfold VD at r ⊢; exact r
theorem VDs.kw {K K' : KW} {H : Hp} {c : Anc} (hk : K'.K = K.K) (hw : K'.w = K.w) (hm : K'.mg = K.mg) : ∀ {vs : List V} (ds : List D), VDs K H c vs ds → nxs ds = true → VDs K' H c vs ds
  | vs, [], r, _ => by unfold VDs at r ⊢; exact r
  | vs, d :: ds, r, e => by
    unfold VDs at r ⊢
    obtain ⟨v, q, h1, h2, h3⟩ := r
    simp only [nxs, Bool.and_eq_true] at e
    exact ⟨v, q, h1, VD.kw hk hw hm d h2 e.1, VDs.kw hk hw hm ds h3 e.2⟩
end
mutual
theorem VD.nx {K : KW} (hh : K.hd = none) {H : Hp} {c : Anc} : ∀ {v : V} (d : D), VD K H c v d → nx d = true
  | v, .p d, r => by simp [Dn.nx]
  | v, .cell i, r => by simp [Dn.nx]
  | v, .tup xs, r => by
    unfold VD at r
    obtain ⟨a, vs, h1, h2, h3⟩ := r
    simpa [Dn.nx] using VDs.nx hh xs h3
  | v, .lst xs, r => by
    unfold VD at r
    obtain ⟨a, vs, h1, h2, h3⟩ := r
    simpa [Dn.nx] using VDs.nx hh xs h3
  | v, .dct ks xs, r => by
    unfold VD at r
    obtain ⟨a, o, es, h1, h2, h3, h4⟩ := r
    simpa [Dn.nx] using VDs.nx hh xs h4
  | v, .obj C ns xs, r => by
    unfold VD at r
    obtain ⟨a, o, Ca, dx, fs, h1, h2, h3, h4, h5⟩ := r
    simpa [Dn.nx] using VDs.nx hh xs h5
  | v, .exn C ns xs, r => by
    unfold VD at r
    obtain ⟨a, oe, Ca, d, fs, h1, _⟩ := r
    rw [hh] at h1
    cases h1
  | v, .fn x, r => by simp [Dn.nx]
  | v, .ty n, r => by simp [Dn.nx]
theorem VDs.nx {K : KW} (hh : K.hd = none) {H : Hp} {c : Anc} : ∀ {vs : List V} (ds : List D), VDs K H c vs ds → nxs ds = true
  | vs, [], r => by simp [nxs]
  | vs, d :: ds, r => by
    unfold VDs at r
    obtain ⟨v, q, h1, h2, h3⟩ := r
    simp only [nxs, Bool.and_eq_true]
    exact ⟨VD.nx hh d h2, VDs.nx hh ds h3⟩
end
mutual
theorem nx_of_nl : ∀ d : D, nl d = true → nx d = true
  | .p d, _ => by simp [nx]
  | .cell i, _ => by simp [nx]
  | .tup xs, e => by simp only [nl, nx] at e ⊢; exact nxs_of_nls xs e
  | .lst xs, e => by simp only [nl, nx] at e ⊢; exact nxs_of_nls xs e
  | .dct ks xs, e => by simp only [nl, nx] at e ⊢; exact nxs_of_nls xs e
  | .obj C ns xs, e => by simp only [nl, nx] at e ⊢; exact nxs_of_nls xs e
  | .exn C ns xs, e => by simp [nl] at e
  | .fn x, _ => by simp [nx]
  | .ty n, _ => by simp [nx]
theorem nxs_of_nls : ∀ ds : List D, nls ds = true → nxs ds = true
  | [], _ => by simp [nxs]
  | d :: ds, e => by
    simp only [nls, nxs, Bool.and_eq_true] at e ⊢
    exact ⟨nx_of_nl d e.1, nxs_of_nls ds e.2⟩
end
theorem VD.cold {K : KW} {H : Hp} {c : Anc} {v : V} {d : D} (h : VD K H c v d) (e : Dn.nx d = true) : VD K.cold H c v d := VD.kw (K := K) (K' := K.cold) rfl rfl rfl d h e
theorem VDs.cold {K : KW} {H : Hp} {c : Anc} {v : List V} {d : List D} (h : VDs K H c v d) (e : nxs d = true) : VDs K.cold H c v d := VDs.kw (K := K) (K' := K.cold) rfl rfl rfl d h e
theorem VD.warm {K : KW} {H : Hp} {c : Anc} {v : V} {d : D} (h : VD K.cold H c v d) : VD K H c v d := VD.kw (K := K.cold) (K' := K) rfl rfl rfl d h (VD.nx rfl d h)
theorem VDs.warm {K : KW} {H : Hp} {c : Anc} {v : List V} {d : List D} (h : VDs K.cold H c v d) : VDs K H c v d := VDs.kw (K := K.cold) (K' := K) rfl rfl rfl d h (VDs.nx rfl d h)
def Has (c : Anc) (a : Addr) : Prop := ∃ i, c.at_ i = some a
structure RelS (K : KW) (c : Anc) (m : Store) (H : Hp) : Prop where
  len : c.g.length = m.g.length ∧ c.l.length = m.l.length
  inj : ∀ (i j : Ix) (a : Addr), c.at_ i = some a → c.at_ j = some a → i = j
  at_ : ∀ (i : Ix) (a : Addr) (x : Cell), c.at_ i = some a → m.at_ i = some x → CellR K.cold H (forI c i) a x
structure Gd (K : KW) (c c' : Anc) (m' : Store) (H H' : Hp) : Prop where
  pre : Pre c c'
  ext : Ext H H'
  new : ∀ a, Has c' a → Has c a ∨ H a = none
  frame : ∀ b o, ¬ Has c b → H b = some o → H' b = some o
  rel : RelS K c' m' H'
theorem Has.pre {c c' : Anc} {a : Addr} (h : Has c a) (p : Pre c c') : Has c' a := let ⟨i, e⟩ := h; ⟨i, pre_get p e⟩
theorem Gd.refl {K : KW} {c : Anc} {m : Store} {H : Hp} (r : RelS K c m H) : Gd K c c m H H := ⟨Pre.refl _, Ext.refl _, fun _ h => .inl h, fun _ _ _ h => h, r⟩
theorem Gd.trans {K : KW} {c c1 c2 : Anc} {m1 m2 : Store} {H H1 H2 : Hp} (a : Gd K c c1 m1 H H1) (b : Gd K c1 c2 m2 H1 H2) : Gd K c c2 m2 H H2 := by
  refine ⟨a.pre.trans b.pre, a.ext.trans b.ext, fun p hp => ?_, fun p o hn ho => ?_, b.rel⟩
  · rcases b.new p hp with h | h
    · exact a.new p h
    · by_cases hc : Has c p
      · exact .inl hc
      · right
        cases e : H p with
        | none => rfl
        | some o => rw [a.frame p o hc e] at h; cases h
  · have h1 := a.frame p o hn ho
    refine b.frame p o (fun z => ?_) h1
    rcases a.new p z with q | q
    · exact hn q
    · rw [ho] at q; cases q
theorem Gd.vd {K : KW} {c c' : Anc} {m' : Store} {H H' : Hp} (g : Gd K c c' m' H H') {v : V} {d : D} (h : VD K H c v d) : VD K H' c' v d := VD.mono g.ext g.pre d h
theorem Gd.vds {K : KW} {c c' : Anc} {m' : Store} {H H' : Hp} (g : Gd K c c' m' H H') {vs : List V} {ds : List D} (h : VDs K H c vs ds) : VDs K H' c' vs ds := VDs.mono g.ext g.pre ds h
structure Slo (K : KW) (H : Hp) (c : Anc) (ρ : Rho) (σ : St) : Prop where
  len : ρ.length = σ.length
  at_ : ∀ (i : Nat) (d : D), ρ[i]? = some (some d) → ∃ v, σ[i]? = some (some v) ∧ VD K H c v d
theorem Gd.slots {K : KW} {c c' : Anc} {m' : Store} {H H' : Hp} {ρ : Rho} {σ : St} (g : Gd K c c' m' H H') (s : Slo K H c ρ σ) : Slo K H' c' ρ σ :=
  ⟨s.len, fun i d e => let ⟨v, h1, h2⟩ := s.at_ i d e; ⟨v, h1, g.vd h2⟩⟩
theorem Slo.set {K : KW} {H : Hp} {c : Anc} {ρ : Rho} {σ : St} (s : Slo K H c ρ σ) (i : Nat) {v : V} {d : D} (h : VD K H c v d) : Slo K H c (ρ.set i (some d)) (σ.set i (some v)) := by
  refine ⟨by simp [s.len], fun j d' e => ?_⟩
  by_cases hj : j = i
  · subst hj
    by_cases hl : j < ρ.length
    · rw [List.getElem?_set_self hl] at e
      cases e
      exact ⟨v, List.getElem?_set_self (by rw [← s.len]; exact hl), h⟩
    · rw [List.getElem?_eq_none (by simpa using Nat.le_of_not_lt hl)] at e
      cases e
  · rw [List.getElem?_set_ne (Ne.symm hj)] at e ⊢
    exact s.at_ j d' e
theorem RelS.trk {K : KW} {c : Anc} {m : Store} {H : Hp} (r : RelS K c m H) {a : Addr} (h : Has c a) : ∃ o, H a = some o := by
  obtain ⟨i, e⟩ := h
  have hm : ∃ x, m.at_ i = some x := by
    cases i with
    | g i =>
      have : i < m.g.length := by rw [← r.len.1]; exact (List.getElem?_eq_some_iff.mp e).1
      exact ⟨_, List.getElem?_eq_getElem this⟩
    | l i =>
      have : i < m.l.length := by rw [← r.len.2]; exact (List.getElem?_eq_some_iff.mp e).1
      exact ⟨_, List.getElem?_eq_getElem this⟩
  obtain ⟨x, hx⟩ := hm
  have q := r.at_ i a x e hx
  cases x with
  | lst ds => obtain ⟨xs, h, _⟩ := q; exact ⟨_, h⟩
  | dct kvs => obtain ⟨xs, h, _⟩ := q; exact ⟨_, h⟩
  | ins C fs => obtain ⟨_, _, xs, h, _⟩ := q; exact ⟨_, h⟩
  | gone => obtain ⟨o, u, h⟩ := q; exact ⟨_, h⟩
theorem RelS.not {K : KW} {c : Anc} {m : Store} {H : Hp} (r : RelS K c m H) {a : Addr} (h : H a = none) : ¬ Has c a := fun z => by
  obtain ⟨o, e⟩ := r.trk z
  rw [h] at e; cases e
theorem push_pre (c : Anc) (a : Addr) (loc : Bool) : Pre c (c.push a loc) := by
  cases loc with
  | true => exact ⟨List.prefix_refl _, List.prefix_append _ _⟩
  | false => exact ⟨List.prefix_append _ _, List.prefix_refl _⟩
theorem app_split {α : Type} {l : List α} {x y : α} {i : Nat} (h : (l ++ [x])[i]? = some y) : l[i]? = some y ∨ (i = l.length ∧ y = x) := by
  by_cases hi : i < l.length
  · rw [List.getElem?_append_left hi] at h
    exact .inl h
  · have hl : i < (l ++ [x]).length := (List.getElem?_eq_some_iff.mp h).1
    have e : i = l.length := by simp at hl; omega
    subst e
    rw [List.getElem?_append_right (Nat.le_refl _)] at h
    simp at h
    exact .inr ⟨rfl, h.symm⟩
theorem push_split {α : Type} {t : Two α} {x y : α} {loc : Bool} {i : Ix} (h : (t.push x loc).at_ i = some y) : t.at_ i = some y ∨ (i = t.next loc ∧ y = x) := by
  cases loc with
  | true =>
    cases i with
    | g i => exact .inl h
    | l i =>
      rcases app_split (l := t.l) h with q | ⟨q1, q2⟩
      · exact .inl q
      · exact .inr ⟨by rw [q1]; rfl, q2⟩
  | false =>
    cases i with
    | l i => exact .inl h
    | g i =>
      rcases app_split (l := t.g) h with q | ⟨q1, q2⟩
      · exact .inl q
      · exact .inr ⟨by rw [q1]; rfl, q2⟩
theorem push_next {α : Type} (t : Two α) (x : α) (loc : Bool) : (t.push x loc).at_ (t.next loc) = some x := by
  cases loc with
  | true => show (t.l ++ [x])[t.l.length]? = some x; simp
  | false => show (t.g ++ [x])[t.g.length]? = some x; simp
theorem next_none {α : Type} (t : Two α) (loc : Bool) : t.at_ (t.next loc) = none := by
  cases loc with
  | true => show t.l[t.l.length]? = none; simp
  | false => show t.g[t.g.length]? = none; simp
theorem next_eq {K : KW} {c : Anc} {m : Store} {H : Hp} (r : RelS K c m H) (loc : Bool) : c.next loc = m.next loc := by
  cases loc with
  | true => show Ix.l _ = Ix.l _; rw [r.len.2]
  | false => show Ix.g _ = Ix.g _; rw [r.len.1]
theorem set_split {t : Store} {x y : Cell} {i j : Ix} (h : (t.set x i).at_ j = some y) : (j = i ∧ y = x) ∨ (j ≠ i ∧ t.at_ j = some y) := by
  cases i with
  | g i =>
    cases j with
    | l j => exact .inr ⟨(by intro z; cases z), h⟩
    | g j =>
      by_cases hj : j = i
      · subst hj
        have h' : (t.g.set j x)[j]? = some y := h
        have hl : j < (t.g.set j x).length := (List.getElem?_eq_some_iff.mp h').1
        rw [List.getElem?_set_self (by simpa using hl)] at h'
        exact .inl ⟨rfl, (Option.some.inj h').symm⟩
      · have h' : (t.g.set i x)[j]? = some y := h
        rw [List.getElem?_set_ne (Ne.symm hj)] at h'
        exact .inr ⟨(by intro z; cases z; exact hj rfl), h'⟩
  | l i =>
    cases j with
    | g j => exact .inr ⟨(by intro z; cases z), h⟩
    | l j =>
      by_cases hj : j = i
      · subst hj
        have h' : (t.l.set j x)[j]? = some y := h
        have hl : j < (t.l.set j x).length := (List.getElem?_eq_some_iff.mp h').1
        rw [List.getElem?_set_self (by simpa using hl)] at h'
        exact .inl ⟨rfl, (Option.some.inj h').symm⟩
      · have h' : (t.l.set i x)[j]? = some y := h
        rw [List.getElem?_set_ne (Ne.symm hj)] at h'
        exact .inr ⟨(by intro z; cases z; exact hj rfl), h'⟩
theorem set_len (t : Store) (x : Cell) (i : Ix) : (t.set x i).g.length = t.g.length ∧ (t.set x i).l.length = t.l.length := by
  cases i with
  | g i => exact ⟨List.length_set .., rfl⟩
  | l i => exact ⟨rfl, List.length_set ..⟩
theorem CellR.mono {K : KW} {H H' : Hp} {c c' : Anc} {a : Addr} {x : Cell} (h : CellR K H c a x) (ex : Ext H H') (p : Pre c c') (k : ∀ u, liveO u = true → H a = some u → H' a = some u) : CellR K H' c' a x := by
  cases x with
  | lst ds => obtain ⟨xs, e, hv⟩ := h; exact ⟨xs, k _ rfl e, VDs.mono ex p _ hv⟩
  | dct kvs => obtain ⟨es, e, hv⟩ := h; exact ⟨es, k _ rfl e, hv.mono ex p⟩
  | ins C fs => obtain ⟨Ca, dx, vs, e, e1, e2, hv⟩ := h; exact ⟨Ca, dx, vs, k _ rfl e, e1, e2, VDs.mono ex p _ hv⟩
  | gone => obtain ⟨o, u, e⟩ := h; exact ⟨o, u, ex _ _ rfl e⟩
/-- a tracked object becomes a cell -/
theorem RelS.adoptC {K : KW} {c : Anc} {m : Store} {H : Hp} (r : RelS K c m H) (loc : Bool) {a : Addr} {x0 : Cell} (hn : ¬ Has c a) (h : CellR K.cold H (forI c (c.next loc)) a x0) : RelS K (c.push a loc) (m.push x0 loc) H := by
  have pr := push_pre c a loc
  refine ⟨?_, fun i j b h1 h2 => ?_, fun i b x h1 h2 => ?_⟩
  · cases loc with
    | true => exact ⟨r.len.1, by show (c.l ++ [a]).length = (m.l ++ [_]).length; simp [r.len.2]⟩
    | false => exact ⟨by show (c.g ++ [a]).length = (m.g ++ [_]).length; simp [r.len.1], r.len.2⟩
  · rcases push_split h1 with p1 | ⟨p1, p2⟩
    · rcases push_split h2 with q1 | ⟨q1, q2⟩
      · exact r.inj i j b p1 q1
      · subst q2; exact absurd ⟨i, p1⟩ hn
    · rcases push_split h2 with q1 | ⟨q1, q2⟩
      · subst p2; exact absurd ⟨j, q1⟩ hn
      · rw [p1, q1]
  · rcases push_split h2 with q1 | ⟨q1, q2⟩
    · rcases push_split h1 with p1 | ⟨p1, p2⟩
      · exact (r.at_ i b x p1 q1).mono (Ext.refl _) (forI_pre pr i) fun _ _ e => e
      · rw [p1, next_eq r, next_none] at q1; cases q1
    · rcases push_split h1 with p1 | ⟨p1, p2⟩
      · rw [q1, ← next_eq r, next_none] at p1; cases p1
      · subst p2 q2 p1
        exact h.mono (Ext.refl _) (forI_pre pr _) fun _ _ e => e
/-- a tracked list becomes a cell -/
theorem RelS.adopt {K : KW} {c : Anc} {m : Store} {H : Hp} (r : RelS K c m H) (loc : Bool) {a : Addr} {xs : List V} {ds : List D} (hn : ¬ Has c a) (ha : H a = some (.lst xs)) (h : VDs K.cold H (forI c (c.next loc)) xs ds) : RelS K (c.push a loc) (m.push (.lst ds) loc) H := r.adoptC loc hn ⟨xs, ha, h⟩
theorem has_push {c : Anc} {a b : Addr} {loc : Bool} (h : Has (c.push a loc) b) : Has c b ∨ b = a := by
  obtain ⟨i, e⟩ := h
  rcases push_split e with q | ⟨_, q⟩
  · exact .inl ⟨i, q⟩
  · exact .inr q
/-- a new object that is no cell -/
theorem RelS.lay {K : KW} {c : Anc} {m : Store} {H : Hp} (r : RelS K c m H) {a : Addr} {o : HO} (hn : H a = none) : Gd K c c m H (upd H a o) := by
  have ex : Ext H (upd H a o) := Ext.new hn
  exact ⟨Pre.refl _, ex, fun _ h => .inl h, fun b u _ e => by rw [upd_ne (ne_of_none e hn)]; exact e, r.len, r.inj, fun i b x h1 h2 => (r.at_ i b x h1 h2).mono ex (Pre.refl _) fun u _ e => by rw [upd_ne (ne_of_none e hn)]; exact e⟩
/-- a cell is new -/
theorem RelS.new {K : KW} {c : Anc} {m : Store} {H : Hp} (r : RelS K c m H) (loc : Bool) {a : Addr} {xs : List V} {ds : List D} (hn : H a = none) (h : VDs K.cold H (forI c (c.next loc)) xs ds) : Gd K c (c.push a loc) (m.push (.lst ds) loc) H (upd H a (.lst xs)) := by
  have g : Gd K c c m H (upd H a (.lst xs)) := r.lay hn
  have r2 := g.rel.adopt loc (r.not hn) upd_same (VDs.mono g.ext (Pre.refl _) _ h)
  exact ⟨push_pre _ _ _, g.ext, fun b hb => (has_push hb).elim .inl fun e => .inr (by rw [e]; exact hn), g.frame, r2⟩
/-- a cell of any form is new -/
theorem RelS.newC {K : KW} {c : Anc} {m : Store} {H : Hp} (r : RelS K c m H) (loc : Bool) {a : Addr} {u : HO} {x0 : Cell} (hn : H a = none) (h : CellR K.cold (upd H a u) (forI c (c.next loc)) a x0) : Gd K c (c.push a loc) (m.push x0 loc) H (upd H a u) := by
  have g : Gd K c c m H (upd H a u) := r.lay hn
  exact ⟨push_pre _ _ _, g.ext, fun b hb => (has_push hb).elim .inl fun e => .inr (by rw [e]; exact hn), g.frame, g.rel.adoptC loc (r.not hn) h⟩
theorem RelS.other {K : KW} {c : Anc} {m : Store} {H : Hp} (r : RelS K c m H) {i j : Ix} {a b : Addr} {x y : Cell} {o : HO} (hi : c.at_ i = some a) (hx : m.at_ i = some x) (lx : x ≠ .gone) (hj : c.at_ j = some b) (hy : m.at_ j = some y) (h : j ≠ i) :
    ∀ u, liveO u = true → H b = some u → (upd H a o) b = some u := fun zs lz e => by
  have ne : b ≠ a := fun z => h (r.inj j i b hj (z ▸ hi))
  rw [upd_ne ne]
  exact e
/-- a cell is written, whatever it is -/
theorem RelS.putC {K : KW} {c : Anc} {m : Store} {H : Hp} (r : RelS K c m H) {i : Ix} {a : Addr} {u0 u1 : HO} {x0 x1 : Cell} (hi : c.at_ i = some a) (hm : m.at_ i = some x0) (lx : x0 ≠ .gone) (ha : H a = some u0) (l0 : liveO u0 = true) (h : CellR K.cold (upd H a u1) (forI c i) a x1) :
    Gd K c c (m.set x1 i) H (upd H a u1) := by
  have ex : Ext H (upd H a u1) := Ext.putO ha l0
  refine ⟨Pre.refl _, ex, fun _ h => .inl h, fun b u hb e => ?_, ?_, fun j k b h1 h2 => ?_, fun j b x h1 h2 => ?_⟩
  · rw [upd_ne (fun z => hb ⟨i, by rw [z]; exact hi⟩)]; exact e
  · rw [(set_len m x1 i).1, (set_len m x1 i).2]; exact r.len
  · exact r.inj j k b h1 h2
  · rcases set_split h2 with ⟨p1, p2⟩ | ⟨p1, p2⟩
    · subst p1 p2
      rw [hi] at h1
      cases h1
      exact h
    · exact (r.at_ j b x h1 p2).mono ex (Pre.refl _) (r.other hi hm lx h1 p2 p1)
/-- a list is written -/
theorem RelS.put {K : KW} {c : Anc} {m : Store} {H : Hp} (r : RelS K c m H) {i : Ix} {a : Addr} {ys xs : List V} {ds es : List D} (hi : c.at_ i = some a) (hm : m.at_ i = some (.lst es)) (ha : H a = some (.lst ys)) (h : VDs K.cold H (forI c i) xs ds) :
    Gd K c c (m.set (.lst ds) i) H (upd H a (.lst xs)) := r.putC hi hm (by intro z; cases z) ha rfl ⟨xs, upd_same, VDs.mono (Ext.put ha) (Pre.refl _) _ h⟩
/-- a cell is frozen -/
theorem RelS.freezeC {K : KW} {c : Anc} {m : Store} {H : Hp} (r : RelS K c m H) {i : Ix} {a : Addr} {u : HO} {x0 : Cell} {o : Obj} (hi : c.at_ i = some a) (hm : m.at_ i = some x0) (lx : x0 ≠ .gone) (ha : H a = some u) (lu : liveO u = true) :
    Gd K c c (m.set .gone i) H (upd H a (.frz o u)) := by
  have ex : Ext H (upd H a (.frz o u)) := Ext.putO ha lu
  refine ⟨Pre.refl _, ex, fun _ h => .inl h, fun b u hb e => ?_, ?_, fun j k b h1 h2 => ?_, fun j b x h1 h2 => ?_⟩
  · rw [upd_ne (fun z => hb ⟨i, by rw [z]; exact hi⟩)]; exact e
  · rw [(set_len m .gone i).1, (set_len m .gone i).2]; exact r.len
  · exact r.inj j k b h1 h2
  · rcases set_split h2 with ⟨p1, p2⟩ | ⟨p1, p2⟩
    · subst p1 p2
      rw [hi] at h1
      cases h1
      exact ⟨o, _, upd_same⟩
    · exact (r.at_ j b x h1 p2).mono ex (Pre.refl _) (r.other hi hm lx h1 p2 p1)
end L2.Dn
namespace L2.Dn
open PySem PySem.Spec PyProof.Rows L2
/-! ### access -/
def lstOf : D → Store → Option (List D)
  | .p (.list ds), _ => some (ds.map D.p)
  | .lst xs, _ => some xs
  | .cell i, m => match m.at_ i with
    | some (.lst xs) => some xs
    | _ => none
  | _, _ => none
def tupOf : D → Option (List D)
  | .p (.tuple ds) => some (ds.map D.p)
  | .tup xs => some xs
  | _ => none
section
variable {K : KW} {H : Hp} {c : Anc} {m : Store} {v : V} {d : D} {ds : List D}
theorem VD.int {i : Int} : VD K H c v (.p (.int i)) ↔ v = .int i := by
  unfold VD
  exact ⟨fun h => by cases h; rfl, fun h => by subst h; exact .int i⟩
theorem VD.str {x : Str} : VD K H c v (.p (.str x)) ↔ v = .str x := by
  unfold VD
  exact ⟨fun h => by cases h; rfl, fun h => by subst h; exact .str x⟩
theorem VD.bl {b : Bool} : VD K H c v (.p (.bool b)) ↔ v = .bl b := by
  unfold VD
  exact ⟨fun h => by cases h; rfl, fun h => by subst h; exact .bl b⟩
theorem VD.non : VD K H c v (.p .none) ↔ v = .non := by
  unfold VD
  exact ⟨fun h => by cases h; rfl, fun h => by subst h; exact .non⟩
theorem lstOf_ok (r : RelS K c m H) (h : VD K H c v d) (e : lstOf d m = some ds) : ∃ a vs, v = .ref a ∧ RdL K H a vs ∧ VDs K H c vs ds := by
  unfold lstOf at e
  split at e
  · cases e
    unfold VD at h
    cases h with
    | lst f q => exact ⟨_, _, rfl, f.rd, VDs.ofp q⟩
  · cases e
    unfold VD at h
    obtain ⟨a, vs, h1, h2, h3⟩ := h
    exact ⟨a, vs, h1, h2.rd, h3⟩
  · unfold VD at h
    obtain ⟨a, h1, h2⟩ := h
    split at e
    · rename_i h3
      cases e
      obtain ⟨xs, h4, h5⟩ := r.at_ _ _ _ h1 h3
      exact ⟨a, xs, h2, .inl h4, VDs.mono (Ext.refl _) (forI_le _ _) _ h5.warm⟩
    · cases e
  · cases e
theorem tupOf_ok (h : VD K H c v d) (e : tupOf d = some ds) : ∃ a vs, v = .ref a ∧ SqT K H a vs ∧ VDs K H c vs ds := by
  unfold tupOf at e
  split at e
  · cases e
    unfold VD at h
    cases h with
    | tup f q => exact ⟨_, _, rfl, f, VDs.ofp q⟩
  · cases e
    unfold VD at h
    obtain ⟨a, vs, h1, h2, h3⟩ := h
    exact ⟨a, vs, h1, h2, h3⟩
  · cases e
end
/-! ### making -/
def pures : List D → Option (List PyData)
  | [] => some []
  | .p d :: r => match pures r with
    | some ds => some (d :: ds)
    | none => none
  | _ :: _ => none
theorem pures_map : ∀ ds : List PyData, pures (ds.map D.p) = some ds
  | [] => rfl
  | d :: ds => by simp [pures, pures_map ds]
theorem of_pures : ∀ {xs : List D} {ds : List PyData}, pures xs = some ds → xs = ds.map D.p
  | [], ds, e => by simp [pures] at e; subst e; rfl
  | .p d :: r, ds, e => by
    unfold pures at e
    split at e
    · rename_i es h
      cases e
      rw [of_pures h]
      rfl
    · cases e
  | .cell _ :: _, _, e => by simp [pures] at e
  | .tup _ :: _, _, e => by simp [pures] at e
  | .lst _ :: _, _, e => by simp [pures] at e
  | .dct _ _ :: _, _, e => by simp [pures] at e
  | .obj _ _ _ :: _, _, e => by simp [pures] at e
  | .exn _ _ _ :: _, _, e => by simp [pures] at e
  | .fn _ :: _, _, e => by simp [pures] at e
  | .ty _ :: _, _, e => by simp [pures] at e
def mkLst (xs : List D) : D := match pures xs with
  | some ds => .p (.list ds)
  | none => .lst xs
def mkTup (xs : List D) : D := match pures xs with
  | some ds => .p (.tuple ds)
  | none => .tup xs
theorem mkLst_p (ds : List PyData) : mkLst (ds.map D.p) = .p (.list ds) := by unfold mkLst; rw [pures_map]
theorem mkTup_p (ds : List PyData) : mkTup (ds.map D.p) = .p (.tuple ds) := by unfold mkTup; rw [pures_map]
theorem mkLst_ok {K : KW} {H : Hp} {c : Anc} {a : Addr} {vs : List V} {xs : List D} (h : VDs K H c vs xs) (f : FzL K H a vs) : VD K H c (.ref a) (mkLst xs) := by
  unfold mkLst
  split
  · rename_i ds e
    have := of_pures e
    subst this
    unfold VD
    exact .lst f (VDs.top h)
  · unfold VD
    exact ⟨a, vs, rfl, f, h⟩
theorem mkTup_ok {K : KW} {H : Hp} {c : Anc} {a : Addr} {vs : List V} {xs : List D} (h : VDs K H c vs xs) (f : SqT K H a vs) : VD K H c (.ref a) (mkTup xs) := by
  unfold mkTup
  split
  · rename_i ds e
    have := of_pures e
    subst this
    unfold VD
    exact .tup f (VDs.top h)
  · unfold VD
    exact ⟨a, vs, rfl, f, h⟩
/-- how a new list is kept: frozen at once, a cell of the def, a global cell -/
inductive Md where
  | z | l | g
def newL : Md → List D → Store → Res D
  | .z, xs, m => .ok (mkLst xs) m
  | .l, xs, m => if nxs xs then .ok (.cell (m.next true)) (m.push (.lst xs) true) else .stuck
  | .g, xs, m => if nls xs then .ok (.cell (m.next false)) (m.push (.lst xs) false) else .stuck
/-! ### the ghost step -/
section
variable {X : Cx} {pins : List (Addr × Obj)} {σ : St} {H : Hp} {s : Shared}
/-- Q, or Q behind the freezing of the value -/
def QF (Q : VK) : VK := fun v H => Q v H ∨ ∃ a u, v = .ref a ∧ H a = some u ∧ Mut (some u) ∧ ∀ o, Q v (upd H a (.frz o u))
theorem EP.frz {Q : VK} {u : Value} (h : EP X pins σ (QF Q) u s) : EP X pins σ Q u s := by
  obtain ⟨v, H', I, r, q | ⟨a, xs, e, h1, mu, q⟩⟩ := h
  · exact ⟨v, H', I, r, q⟩
  · obtain ⟨o, I'⟩ := Inv.lock I h1 mu
    exact ⟨v, _, I', r, q o⟩
end
/-! ### what is wanted -/
def ExcV (K : KW) (H : Hp) (c : Anc) (x : Exn) (cls : Value) (dd : Option Addr) : Prop :=
  ∃ C, K.mg x.cls = some (.ref C) ∧ cls = .ref C ∧ ((x.fs = [] ∧ dd = none) ∨ ∃ dx vs, dd = some dx ∧ H dx = some (.xd vs) ∧ vs.map (·.1) = x.fs.map (·.1) ∧ VDs K H c (vs.map (·.2)) (x.fs.map (·.2)))
/-- what is wanted behind r -/
def Want (X : Cx) (W : WX) (c : Anc) (H : Hp) (σ : St) (r : Res D) (Q : VK) : Prop := match r with
  | .ok d m' => ∀ c' v H', Gd X.kw c c' m' H H' → VD X.kw H' c' v d → Q v H'
  | .exc x m' => ∀ c' cls dd H', Gd X.kw c c' m' H H' → ExcV X.kw H' c' x cls dd → W cls dd σ H'
  | .stuck => False
def WantL (X : Cx) (W : WX) (c : Anc) (H : Hp) (σ : St) (r : Res (List D)) (Q : List V → Hp → Prop) : Prop := match r with
  | .ok ds m' => ∀ c' vs H', Gd X.kw c c' m' H H' → VDs X.kw H' c' vs ds → Q vs H'
  | .exc x m' => ∀ c' cls dd H', Gd X.kw c c' m' H H' → ExcV X.kw H' c' x cls dd → W cls dd σ H'
  | .stuck => False
def WantB (X : Cx) (W : WX) (c : Anc) (H : Hp) (σ : St) (r : Res Bool) (Q : Bool → Hp → Prop) : Prop := match r with
  | .ok b m' => ∀ c' H', Gd X.kw c c' m' H H' → Q b H'
  | .exc x m' => ∀ c' cls dd H', Gd X.kw c c' m' H H' → ExcV X.kw H' c' x cls dd → W cls dd σ H'
  | .stuck => False
section
variable {X : Cx} {W : WX} {c c' : Anc} {H H' : Hp} {σ : St} {m m' : Store}
theorem Want.shift {r : Res D} {Q : VK} (g : Gd X.kw c c' m' H H') (h : Want X W c H σ r Q) : Want X W c' H' σ r Q := by
  cases r with
  | ok d m1 => exact fun c1 v H1 g1 hv => h c1 v H1 (g.trans g1) hv
  | exc x m1 => exact fun c1 cls dd H1 g1 hv => h c1 cls dd H1 (g.trans g1) hv
  | stuck => exact h
theorem WantL.shift {r : Res (List D)} {Q : List V → Hp → Prop} (g : Gd X.kw c c' m' H H') (h : WantL X W c H σ r Q) : WantL X W c' H' σ r Q := by
  cases r with
  | ok d m1 => exact fun c1 v H1 g1 hv => h c1 v H1 (g.trans g1) hv
  | exc x m1 => exact fun c1 cls dd H1 g1 hv => h c1 cls dd H1 (g.trans g1) hv
  | stuck => exact h
theorem WantB.shift {r : Res Bool} {Q : Bool → Hp → Prop} (g : Gd X.kw c c' m' H H') (h : WantB X W c H σ r Q) : WantB X W c' H' σ r Q := by
  cases r with
  | ok d m1 => exact fun c1 H1 g1 => h c1 H1 (g.trans g1)
  | exc x m1 => exact fun c1 cls dd H1 g1 hv => h c1 cls dd H1 (g.trans g1) hv
  | stuck => exact h
/-- at once -/
theorem Want.now {Q : VK} {v : V} {d : D} (r : RelS X.kw c m H) (h : Want X W c H σ (.ok d m) Q) (hv : VD X.kw H c v d) : Q v H := h c v H (Gd.refl r) hv
theorem newL_ok {z : Md} {ds : List D} {xs : List V} {Q : VK} (r : RelS X.kw c m H) (hv : VDs X.kw H c xs ds) (h : Want X W c H σ (newL z ds m) Q) : ∀ p, H p = none → QF Q (.ref p) (upd H p (.lst xs)) := by
  intro p hp
  cases z with
  | z =>
    right
    refine ⟨p, _, rfl, upd_same, trivial, fun o => ?_⟩
    rw [upd_upd]
    have g : Gd X.kw c c m H (upd H p (.frz o (.lst xs))) := r.lay hp
    exact h c _ _ g (mkLst_ok (g.vds hv) (.inl ⟨o, upd_same⟩))
  | l =>
    left
    cases hn : nxs ds with
    | false => rw [newL, hn] at h; exact h.elim
    | true =>
      rw [newL, hn] at h
      have g := r.new true (ds := ds) hp (hv.cold hn)
      refine h _ _ _ g ?_
      unfold VD
      exact ⟨p, by rw [← next_eq r]; exact push_next _ _ _, rfl⟩
  | g =>
    left
    cases hn : nls ds with
    | false => rw [newL, hn] at h; exact h.elim
    | true =>
      rw [newL, hn] at h
      have g := r.new false (ds := ds) hp ((VDs.nl ds hv hn).cold (nxs_of_nls _ hn))
      refine h _ _ _ g ?_
      unfold VD
      exact ⟨p, by rw [← next_eq r]; exact push_next _ _ _, rfl⟩
theorem newT_ok {ds : List D} {xs : List V} {Q : VK} (r : RelS X.kw c m H) (hv : VDs X.kw H c xs ds) (h : Want X W c H σ (.ok (mkTup ds) m) Q) : ∀ p, H p = none → Q (.ref p) (upd H p (.tup xs)) := by
  intro p hp
  have g : Gd X.kw c c m H (upd H p (.tup xs)) := r.lay hp
  exact h c _ _ g (mkTup_ok (g.vds hv) (SqT.of upd_same))
end
/-! ### the judgements -/
structure WE (X : Cx) (e : Expr) (σ : St) (H : Hp) (Q : VK) : Prop where
  go : ∀ (pins : List (Addr × Obj)) (s : Shared), Inv X pins σ H s → wpAny (model X.prog X.w) X.A (eval e X.env) (EP X pins σ Q) X.xe s
structure WT (X : Cx) (e : Expr) (σ : St) (H : Hp) (Q : Bool → Hp → Prop) : Prop where
  go : ∀ (pins : List (Addr × Obj)) (s : Shared), Inv X pins σ H s → wpAny (model X.prog X.w) X.A (isTrue e X.env (eval e X.env)) (TP X pins σ Q) X.xe s
structure WW (X : Cx) (e : Expr) (σ : St) (H : Hp) (Q : Bool → Hp → Prop) : Prop where
  go : ∀ (whole : Sem Value) (pins : List (Addr × Obj)) (s : Shared), Inv X pins σ H s → wpAny (model X.prog X.w) X.A (isTrue e X.env whole) (TP X pins σ Q) X.xe s
structure WA (X : Cx) (es : List Expr) (σ : St) (H : Hp) (Q : List V → Hp → Prop) : Prop where
  go : ∀ (pos : Pos) (pins : List (Addr × Obj)) (s : Shared), Inv X pins σ H s → wpAny (model X.prog X.w) X.A (spliced (backTo pos (starEach es X.env))) (AP X pins σ Q) X.xe s
structure WSt (X : Cx) (st : Stmt) (D : Ends) (σ : St) (H : Hp) : Prop where
  go : ∀ (pins : List (Addr × Obj)) (s : Shared), Inv X pins σ H s → wpAny (model X.prog X.w) X.A (exec st X.env) (SP X pins D) X.xe s
structure WSs (X : Cx) (st : List Stmt) (D : Ends) (σ : St) (H : Hp) : Prop where
  go : ∀ (pins : List (Addr × Obj)) (s : Shared), Inv X pins σ H s → wpAny (model X.prog X.w) X.A (execs st X.env) (SP X pins D) X.xe s
section
variable {X : Cx} {e : Expr} {es : List Expr} {st : Stmt} {sts : List Stmt} {σ : St} {H : Hp}
theorem pe_w : PE X e (WE X e) := ⟨fun pins s σ H Q I h => h.go pins s I⟩
theorem pt_w : PT X e (WT X e) := ⟨fun pins s σ H Q I h => h.go pins s I⟩
theorem pw_w : PW X e (WW X e) := ⟨fun w pins s σ H Q I h => h.go w pins s I⟩
theorem pa_w : PA X es (WA X es) := ⟨fun pos pins s σ H Q I h => h.go pos pins s I⟩
theorem ps_w : PS X st (WSt X st) := ⟨fun pins s σ H D I h => h.go pins s I⟩
theorem pss_w : PSs X sts (WSs X sts) := ⟨fun pins s σ H D I h => h.go pins s I⟩
theorem we_of {t : TE} (h : PE X e t) {Q : VK} (q : t σ H Q) : WE X e σ H Q := ⟨fun pins s I => h.run pins s σ H Q I q⟩
theorem wt_of {t : TT} (h : PT X e t) {Q : Bool → Hp → Prop} (q : t σ H Q) : WT X e σ H Q := ⟨fun pins s I => h.run pins s σ H Q I q⟩
theorem ww_of {t : TT} (h : PW X e t) {Q : Bool → Hp → Prop} (q : t σ H Q) : WW X e σ H Q := ⟨fun w pins s I => h.run w pins s σ H Q I q⟩
theorem wa_of {t : TA} (h : PA X es t) {Q : List V → Hp → Prop} (q : t σ H Q) : WA X es σ H Q := ⟨fun pos pins s I => h.run pos pins s σ H Q I q⟩
theorem wst_of {t : TS} (h : PS X st t) {D : Ends} (q : t D σ H) : WSt X st D σ H := ⟨fun pins s I => h.run pins s σ H D I q⟩
theorem wss_of {t : TS} (h : PSs X sts t) {D : Ends} (q : t D σ H) : WSs X sts D σ H := ⟨fun pins s I => h.run pins s σ H D I q⟩
theorem WE.mono {Q Q' : VK} (h : WE X e σ H Q) (hq : ∀ v H', Q v H' → Q' v H') : WE X e σ H Q' := ⟨fun pins s I => thn (h.go pins s I) fun u s' ⟨v, H', I', r, q⟩ => ⟨v, H', I', r, hq v H' q⟩⟩
theorem WE.frz {Q : VK} (h : WE X e σ H (QF Q)) : WE X e σ H Q := ⟨fun pins s I => thn (h.go pins s I) fun u s' q => EP.frz q⟩
theorem WA.mono {Q Q' : List V → Hp → Prop} (h : WA X es σ H Q) (hq : ∀ v H', Q v H' → Q' v H') : WA X es σ H Q' := ⟨fun pos pins s I => thn (h.go pos pins s I) fun u s' ⟨v, H', I', r, q⟩ => ⟨v, H', I', r, hq v H' q⟩⟩
theorem WT.mono {Q Q' : Bool → Hp → Prop} (h : WT X e σ H Q) (hq : ∀ v H', Q v H' → Q' v H') : WT X e σ H Q' := ⟨fun pins s I => thn (h.go pins s I) fun u s' ⟨H', I', q⟩ => ⟨H', I', hq u H' q⟩⟩
end
def DE (X : Cx) (W : WX) (e : Expr) (f : FE) : Prop := ∀ (c : Anc) (ρ : Rho) (m : Store) (σ : St) (H : Hp) (Q : VK), RelS X.kw c m H → Slo X.kw H c ρ σ → Want X W c H σ (f ρ m) Q → WE X e σ H Q
def DT (X : Cx) (W : WX) (e : Expr) (f : Rho → Store → Res Bool) : Prop := ∀ (c : Anc) (ρ : Rho) (m : Store) (σ : St) (H : Hp) (Q : Bool → Hp → Prop), RelS X.kw c m H → Slo X.kw H c ρ σ → WantB X W c H σ (f ρ m) Q → WT X e σ H Q
def DW (X : Cx) (W : WX) (e : Expr) (f : Rho → Store → Res Bool) : Prop := ∀ (c : Anc) (ρ : Rho) (m : Store) (σ : St) (H : Hp) (Q : Bool → Hp → Prop), RelS X.kw c m H → Slo X.kw H c ρ σ → WantB X W c H σ (f ρ m) Q → WW X e σ H Q
def DA (X : Cx) (W : WX) (es : List Expr) (f : Rho → Store → Res (List D)) : Prop := ∀ (c : Anc) (ρ : Rho) (m : Store) (σ : St) (H : Hp) (Q : List V → Hp → Prop), RelS X.kw c m H → Slo X.kw H c ρ σ → WantL X W c H σ (f ρ m) Q → WA X es σ H Q
section
variable {X : Cx} {W : WX} {a b e : Expr} {es : List Expr} {fa fb f : FE} {pos : Pos} {c : Anc} {ρ : Rho} {m : Store} {σ : St} {H : Hp}
/-- first a, then on -/
theorem DE.then_ {β : Type} {k : D → Store → Res β} {WB : Anc → Hp → Res β → Prop} {Q : VK} (h : DE X W a fa) (r : RelS X.kw c m H) (s : Slo X.kw H c ρ σ) (hb : WB c H ((fa ρ m).bind k))
    (hs : ∀ c H, WB c H .stuck → False) (he : ∀ c H x m1, WB c H (.exc x m1) → ∀ c' cls dd H', Gd X.kw c c' m1 H H' → ExcV X.kw H' c' x cls dd → W cls dd σ H') (hsh : ∀ {c c' : Anc} {H H' : Hp} {m' : Store} {r : Res β}, Gd X.kw c c' m' H H' → WB c H r → WB c' H' r)
    (q : ∀ d m1 c1 v H1, RelS X.kw c1 m1 H1 → Slo X.kw H1 c1 ρ σ → Gd X.kw c c1 m1 H H1 → VD X.kw H1 c1 v d → WB c1 H1 (k d m1) → Q v H1) : WE X a σ H Q := by
  refine h c ρ m σ H Q r s ?_
  cases e : fa ρ m with
  | ok d m1 =>
    rw [e] at hb
    exact fun c1 v H1 g hv => q d m1 c1 v H1 g.rel (g.slots s) g hv (hsh g hb)
  | exc x m1 =>
    rw [e] at hb
    exact he c H x m1 hb
  | stuck =>
    rw [e] at hb
    exact hs c H hb
theorem DE.thenE {k : D → Store → Res D} {Q Q' : VK} (h : DE X W a fa) (r : RelS X.kw c m H) (s : Slo X.kw H c ρ σ) (hb : Want X W c H σ ((fa ρ m).bind k) Q')
    (q : ∀ d m1 c1 v H1, RelS X.kw c1 m1 H1 → Slo X.kw H1 c1 ρ σ → Gd X.kw c c1 m1 H H1 → VD X.kw H1 c1 v d → Want X W c1 H1 σ (k d m1) Q' → Q v H1) : WE X a σ H Q :=
  h.then_ (WB := fun c H r => Want X W c H σ r Q') r s hb (fun _ _ z => z) (fun _ _ _ _ z => z) (fun g z => z.shift g) q
theorem DE.thenL {k : D → Store → Res (List D)} {Q : VK} {Q' : List V → Hp → Prop} (h : DE X W a fa) (r : RelS X.kw c m H) (s : Slo X.kw H c ρ σ) (hb : WantL X W c H σ ((fa ρ m).bind k) Q')
    (q : ∀ d m1 c1 v H1, RelS X.kw c1 m1 H1 → Slo X.kw H1 c1 ρ σ → Gd X.kw c c1 m1 H H1 → VD X.kw H1 c1 v d → WantL X W c1 H1 σ (k d m1) Q' → Q v H1) : WE X a σ H Q :=
  h.then_ (WB := fun c H r => WantL X W c H σ r Q') r s hb (fun _ _ z => z) (fun _ _ _ _ z => z) (fun g z => z.shift g) q
theorem DE.thenB {k : D → Store → Res Bool} {Q : VK} {Q' : Bool → Hp → Prop} (h : DE X W a fa) (r : RelS X.kw c m H) (s : Slo X.kw H c ρ σ) (hb : WantB X W c H σ ((fa ρ m).bind k) Q')
    (q : ∀ d m1 c1 v H1, RelS X.kw c1 m1 H1 → Slo X.kw H1 c1 ρ σ → Gd X.kw c c1 m1 H H1 → VD X.kw H1 c1 v d → WantB X W c1 H1 σ (k d m1) Q' → Q v H1) : WE X a σ H Q :=
  h.then_ (WB := fun c H r => WantB X W c H σ r Q') r s hb (fun _ _ z => z) (fun _ _ _ _ z => z) (fun g z => z.shift g) q
theorem DA.thenE {fl : Rho → Store → Res (List D)} {k : List D → Store → Res D} {Q : List V → Hp → Prop} {Q' : VK} (h : DA X W es fl) (r : RelS X.kw c m H) (s : Slo X.kw H c ρ σ) (hb : Want X W c H σ ((fl ρ m).bind k) Q')
    (q : ∀ d m1 c1 v H1, RelS X.kw c1 m1 H1 → Slo X.kw H1 c1 ρ σ → Gd X.kw c c1 m1 H H1 → VDs X.kw H1 c1 v d → Want X W c1 H1 σ (k d m1) Q' → Q v H1) : WA X es σ H Q := by
  refine h c ρ m σ H Q r s ?_
  cases e : fl ρ m with
  | ok d m1 =>
    rw [e] at hb
    exact fun c1 v H1 g hv => q d m1 c1 v H1 g.rel (g.slots s) g hv (Want.shift g hb)
  | exc x m1 => rw [e] at hb; exact hb
  | stuck => rw [e] at hb; exact hb
theorem DA.thenL {fl : Rho → Store → Res (List D)} {k : List D → Store → Res (List D)} {Q : List V → Hp → Prop} {Q' : List V → Hp → Prop} (h : DA X W es fl) (r : RelS X.kw c m H) (s : Slo X.kw H c ρ σ) (hb : WantL X W c H σ ((fl ρ m).bind k) Q')
    (q : ∀ d m1 c1 v H1, RelS X.kw c1 m1 H1 → Slo X.kw H1 c1 ρ σ → Gd X.kw c c1 m1 H H1 → VDs X.kw H1 c1 v d → WantL X W c1 H1 σ (k d m1) Q' → Q v H1) : WA X es σ H Q := by
  refine h c ρ m σ H Q r s ?_
  cases e : fl ρ m with
  | ok d m1 =>
    rw [e] at hb
    exact fun c1 v H1 g hv => q d m1 c1 v H1 g.rel (g.slots s) g hv (WantL.shift g hb)
  | exc x m1 => rw [e] at hb; exact hb
  | stuck => rw [e] at hb; exact hb
theorem DT.thenE {ft : Rho → Store → Res Bool} {k : Bool → Store → Res D} {Q : Bool → Hp → Prop} {Q' : VK} (h : DT X W a ft) (r : RelS X.kw c m H) (s : Slo X.kw H c ρ σ) (hb : Want X W c H σ ((ft ρ m).bind k) Q')
    (q : ∀ d m1 c1 H1, RelS X.kw c1 m1 H1 → Slo X.kw H1 c1 ρ σ → Gd X.kw c c1 m1 H H1 → Want X W c1 H1 σ (k d m1) Q' → Q d H1) : WT X a σ H Q := by
  refine h c ρ m σ H Q r s ?_
  cases e : ft ρ m with
  | ok d m1 =>
    rw [e] at hb
    exact fun c1 H1 g => q d m1 c1 H1 g.rel (g.slots s) g (Want.shift g hb)
  | exc x m1 => rw [e] at hb; exact hb
  | stuck => rw [e] at hb; exact hb
theorem DT.thenB {ft : Rho → Store → Res Bool} {k : Bool → Store → Res Bool} {Q Q' : Bool → Hp → Prop} (h : DT X W a ft) (r : RelS X.kw c m H) (s : Slo X.kw H c ρ σ) (hb : WantB X W c H σ ((ft ρ m).bind k) Q')
    (q : ∀ d m1 c1 H1, RelS X.kw c1 m1 H1 → Slo X.kw H1 c1 ρ σ → Gd X.kw c c1 m1 H H1 → WantB X W c1 H1 σ (k d m1) Q' → Q d H1) : WT X a σ H Q := by
  refine h c ρ m σ H Q r s ?_
  cases e : ft ρ m with
  | ok d m1 =>
    rw [e] at hb
    exact fun c1 H1 g => q d m1 c1 H1 g.rel (g.slots s) g (WantB.shift g hb)
  | exc x m1 => rw [e] at hb; exact hb
  | stuck => rw [e] at hb; exact hb
/-! ### constants, names -/
def cE (d : PyData) : FE := fun _ m => .ok (.p d) m
theorem de_int {i : Int} {j : Nat} : DE X W (.Constant (.int i) j pos) (cE (.int i)) := fun c ρ m σ H Q r s h => we_of pe_int (h.now r (VD.int.mpr rfl))
theorem de_bl {i : Bool} {j : Nat} : DE X W (.Constant (.bool i) j pos) (cE (.bool i)) := fun c ρ m σ H Q r s h => we_of pe_bl (h.now r (VD.bl.mpr rfl))
theorem de_non {j : Nat} : DE X W (.Constant .none j pos) (cE .none) := fun c ρ m σ H Q r s h => we_of pe_non (h.now r (VD.non.mpr rfl))
theorem de_str {x : Str} {j : Nat} : DE X W (.Constant (.str x) j pos) (cE (.str x)) := fun c ρ m σ H Q r s h => we_of pe_str (h.now r (VD.str.mpr rfl))
def vE (i : Nat) : FE := fun ρ m => match ρ[i]? with
  | some (some d) => .ok d m
  | _ => .stuck
theorem de_var (i : Nat) {x : Str} (hN : X.N[i]? = some x := by rfl) (hv : Vis X.env.scope x := by first | exact Or.inl rfl | exact Or.inr (Or.inl rfl) | exact Or.inr (Or.inr rfl)) (hd : (x == ("__debug__" : Str)) = false := by decide)
    (hcd : (x == ("__classdict__" : Str)) = false := by decide) : DE X W (.Name x pos) (vE i) := fun c ρ m σ H Q r s h => by
  unfold vE at h
  cases e : ρ[i]? with
  | none => rw [e] at h; exact h.elim
  | some o =>
    cases o with
    | none => rw [e] at h; exact h.elim
    | some d =>
      rw [e] at h
      obtain ⟨v, h1, h2⟩ := s.at_ i d e
      exact we_of (pe_var hN hv hd hcd) ⟨v, h1, h.now r h2⟩
/-- a name of the module whose value is a datum that stands in the written part -/
theorem de_glob {x : Str} {v : V} {u : Value} {d : PyData} (hg : Gl X x) (hm : X.mg x = some u) (r : RelV v u) (hv : ∀ H, DpZ X.kw H v d) (hd : (x == ("__debug__" : Str)) = false := by decide) : DE X W (.Name x pos) (cE d) := fun c ρ m σ H Q rr s h =>
  we_of (pe_glob hg hm r hd) (h.now rr (by unfold VD; exact hv H))
def tyE (n : String) : FE := fun _ m => .ok (.ty n) m
theorem de_ty {x : Str} {n : String} (hg : Gl X x) (hm : X.mg x = none) (hv : bootBuiltins x = some (.type n)) (hn : x ≠ "__name__" := by decide) (hd : (x == ("__debug__" : Str)) = false := by decide) : DE X W (.Name x pos) (tyE n) := fun c ρ m σ H Q rr s h =>
  we_of (pe_bltn hg hm hv (v := .ty n) rfl hn hd) (h.now rr (by unfold VD; rfl))
/-! ### arguments, displays -/
def nilA : Rho → Store → Res (List D) := fun _ m => .ok [] m
def consA (f : FE) (g : Rho → Store → Res (List D)) : Rho → Store → Res (List D) := fun ρ m => (f ρ m).bind fun d m1 => (g ρ m1).bind fun ds m2 => .ok (d :: ds) m2
theorem da_nil : DA X W [] nilA := fun c ρ m σ H Q r s h => wa_of pa_nil (h c [] H (Gd.refl r) (by unfold VDs; rfl))
theorem da_cons {g : Rho → Store → Res (List D)} (ha : DE X W e f) (hr : DA X W es g) (hs : starEach (e :: es) X.env = (false, eval e X.env) :: starEach es X.env := by rfl) : DA X W (e :: es) (consA f g) := fun c ρ m σ H Q r s h =>
  wa_of (pa_cons pe_w pa_w hs) (ha.thenL r s h fun d m1 c1 v H1 r1 s1 g1 h1 w1 => hr.thenL r1 s1 w1 fun ds m2 c2 vs H2 r2 s2 g2 h2 w2 =>
    w2 c2 _ H2 (Gd.refl r2) (by unfold VDs; exact ⟨v, vs, rfl, g2.vd h1, h2⟩))
def tupE (g : Rho → Store → Res (List D)) : FE := fun ρ m => (g ρ m).bind fun ds m1 => if ds.length ≤ sizeLine then .ok (mkTup ds) m1 else .stuck
theorem de_tup {g : Rho → Store → Res (List D)} {x1 : Nat} (h : DA X W es g) : DE X W (.Tuple es x1 pos) (tupE g) := fun c ρ m σ H Q r s w =>
  we_of (pe_tup pa_w) (h.thenE r s w fun ds m1 c1 vs H1 r1 s1 g1 h1 w1 => by
    by_cases hl : ds.length ≤ sizeLine
    · rw [if_pos hl] at w1
      exact ⟨by rw [h1.length]; exact hl, newT_ok r1 h1 w1⟩
    · rw [if_neg hl] at w1
      exact w1.elim)
def lstE (z : Md) (g : Rho → Store → Res (List D)) : FE := fun ρ m => (g ρ m).bind fun ds m1 => if ds.length ≤ sizeLine then newL z ds m1 else .stuck
theorem de_lst (z : Md) {g : Rho → Store → Res (List D)} (h : DA X W es g) : DE X W (.List es pos) (lstE z g) := fun c ρ m σ H Q r s w =>
  WE.frz (we_of (pe_lst pa_w) (h.thenE r s w fun ds m1 c1 vs H1 r1 s1 g1 h1 w1 => by
    by_cases hl : ds.length ≤ sizeLine
    · rw [if_pos hl] at w1
      exact ⟨by rw [h1.length]; exact hl, newL_ok r1 h1 w1⟩
    · rw [if_neg hl] at w1
      exact w1.elim))
end
end L2.Dn
namespace L2.Dn
open PySem PySem.Spec PyProof.Rows L2
abbrev OD := Option (D × Store)
def lift : OD → Res D
  | some (d, m) => .ok d m
  | none => .stuck
/-- d, m is wanted behind c, H -/
def WantO (K : KW) (c : Anc) (H : Hp) (o : OD) (Q : VK) : Prop := match o with
  | some (d, m') => ∀ c' v H', Gd K c c' m' H H' → VD K H' c' v d → Q v H'
  | none => False
theorem Want.o {X : Cx} {W : WX} {c : Anc} {H : Hp} {σ : St} {o : OD} {Q : VK} (h : Want X W c H σ (lift o) Q) : WantO X.kw c H o Q := by
  cases o with
  | none => exact h
  | some p => exact h
theorem WantO.now {K : KW} {c : Anc} {H : Hp} {m : Store} {Q : VK} {v : V} {d : D} (r : RelS K c m H) (h : WantO K c H (some (d, m)) Q) (hv : VD K H c v d) : Q v H := h c v H (Gd.refl r) hv
def newO : Md → List D → Store → OD
  | .z, xs, m => some (mkLst xs, m)
  | .l, xs, m => if nxs xs then some (.cell (m.next true), m.push (.lst xs) true) else none
  | .g, xs, m => if nls xs then some (.cell (m.next false), m.push (.lst xs) false) else none
theorem newO_ok {K : KW} {c : Anc} {H : Hp} {m : Store} {z : Md} {ds : List D} {xs : List V} {Q : VK} (r : RelS K c m H) (hv : VDs K H c xs ds) (h : WantO K c H (newO z ds m) Q) : ∀ p, H p = none → QF Q (.ref p) (upd H p (.lst xs)) := by
  intro p hp
  cases z with
  | z =>
    right
    refine ⟨p, _, rfl, upd_same, trivial, fun o => ?_⟩
    rw [upd_upd]
    have g : Gd K c c m H (upd H p (.frz o (.lst xs))) := r.lay hp
    exact h c _ _ g (mkLst_ok (g.vds hv) (.inl ⟨o, upd_same⟩))
  | l =>
    left
    cases hn : nxs ds with
    | false => rw [newO, hn] at h; exact h.elim
    | true =>
      rw [newO, hn] at h
      have g := r.new true (ds := ds) hp (hv.cold hn)
      refine h _ _ _ g ?_
      unfold VD
      exact ⟨p, by rw [← next_eq r]; exact push_next _ _ _, rfl⟩
  | g =>
    left
    cases hn : nls ds with
    | false => rw [newO, hn] at h; exact h.elim
    | true =>
      rw [newO, hn] at h
      have g := r.new false (ds := ds) hp ((VDs.nl ds hv hn).cold (nxs_of_nls _ hn))
      refine h _ _ _ g ?_
      unfold VD
      exact ⟨p, by rw [← next_eq r]; exact push_next _ _ _, rfl⟩
theorem newTO_ok {K : KW} {c : Anc} {H : Hp} {m : Store} {ds : List D} {xs : List V} {Q : VK} (r : RelS K c m H) (hv : VDs K H c xs ds) (h : WantO K c H (some (mkTup ds, m)) Q) : ∀ p, H p = none → Q (.ref p) (upd H p (.tup xs)) := by
  intro p hp
  have g : Gd K c c m H (upd H p (.tup xs)) := r.lay hp
  exact h c _ _ g (mkTup_ok (g.vds hv) (SqT.of upd_same))
theorem QF.in_ {Q : VK} {v : V} {H : Hp} (h : Q v H) : QF Q v H := .inl h
/-! ### readings from functions over data -/
def rOf (K : KW) (g : D → D → Store → OD) : R2 := fun x y H Q => ∃ c m dx dy, RelS K c m H ∧ VD K H c x dx ∧ VD K H c y dy ∧ WantO K c H (g dx dy m) Q
def rOf1 (K : KW) (g : D → Store → OD) : V → Hp → VK → Prop := fun x H Q => ∃ c m dx, RelS K c m H ∧ VD K H c x dx ∧ WantO K c H (g dx m) Q
def rOfL (K : KW) (g : List D → Store → OD) : List V → Hp → VK → Prop := fun xs H Q => ∃ c m ds, RelS K c m H ∧ VDs K H c xs ds ∧ WantO K c H (g ds m) Q
def rOfM (K : KW) (g : D → List D → Store → OD) : V → List V → Hp → VK → Prop := fun x xs H Q => ∃ c m dx ds, RelS K c m H ∧ VD K H c x dx ∧ VDs K H c xs ds ∧ WantO K c H (g dx ds m) Q
def rOfS (K : KW) (g : D → Option Int → Option Int → Store → OD) : V → Option Int → Option Int → Hp → VK → Prop := fun x lo hi H Q => ∃ c m dx, RelS K c m H ∧ VD K H c x dx ∧ WantO K c H (g dx lo hi m) Q
section
variable {X : Cx} {W : WX} {a b e e3 : Expr} {es : List Expr} {fa fb fc f : FE} {pos : Pos} {c : Anc} {ρ : Rho} {m : Store} {σ : St} {H : Hp}
theorem OpR.by_ {fn : Value → Value → Sem Value} {r r' : R2} (ho : OpR X fn r) (h : ∀ x y H Q, r' x y H Q → r x y H (QF Q)) : OpR X fn r' :=
  fun pins s σ H x y v u Q I rx ry w => thn (ho pins s σ H x y v u (QF Q) I rx ry (h x y H Q w)) fun _ _ q => EP.frz q
theorem CallR.by_ {fv : Value} {r r' : List V → Hp → VK → Prop} (ho : CallR X fv r) (h : ∀ x H Q, r' x H Q → r x H (QF Q)) : CallR X fv r' :=
  fun pins s σ H x v Q I rx w => thn (ho pins s σ H x v (QF Q) I rx (h x H Q w)) fun _ _ q => EP.frz q
theorem UnR.by_ {fv : Value → Sem Value} {r r' : V → Hp → VK → Prop} (ho : UnR X fv r) (h : ∀ x H Q, r' x H Q → r x H (QF Q)) : UnR X fv r' :=
  fun pins s σ H x v Q I rx w => thn (ho pins s σ H x v (QF Q) I rx (h x H Q w)) fun _ _ q => EP.frz q
theorem MtR.by_ {id : String} {r r' : V → List V → Hp → VK → Prop} (ho : MtR X id r) (h : ∀ x xs H Q, r' x xs H Q → r x xs H (QF Q)) : MtR X id r' :=
  fun pins s σ H x xs v us Q I rx rs w => thn (ho pins s σ H x xs v us (QF Q) I rx rs (h x xs H Q w)) fun _ _ q => EP.frz q
theorem IxR.by_ {r r' : R2} (ho : IxR X r) (h : ∀ x y H Q, r' x y H Q → r x y H (QF Q)) : IxR X r' :=
  fun value slice pins s σ H x y v u Q I rx ry w hs => thn (ho value slice pins s σ H x y v u (QF Q) I rx ry (h x y H Q w) hs) fun _ _ q => EP.frz q
theorem SlR.by_ {r r' : V → Option Int → Option Int → Hp → VK → Prop} (ho : SlR X r) (h : ∀ x lo hi H Q, r' x lo hi H Q → r x lo hi H (QF Q)) : SlR X r' :=
  fun pins s σ H x v vl vu lo hi sl Q I rx hs pl pu w => by
    obtain ⟨T, id, h1, h2, h3⟩ := ho pins s σ H x v vl vu lo hi sl (QF Q) I rx hs pl pu (h x lo hi H Q w)
    exact ⟨T, id, h1, h2, thn h3 fun _ _ q => EP.frz q⟩
/-! ### two-place operations -/
def opE (g : D → D → Store → OD) (fa fb : FE) : FE := fun ρ m => (fa ρ m).bind fun x m1 => (fb ρ m1).bind fun y m2 => lift (g x y m2)
theorem two {g : D → D → Store → OD} (ha : DE X W a fa) (hb : DE X W b fb) {Q : VK} (r : RelS X.kw c m H) (s : Slo X.kw H c ρ σ) (w : Want X W c H σ (opE g fa fb ρ m) Q) : tOp (rOf X.kw g) (WE X a) (WE X b) σ H Q :=
  ha.thenE r s w fun x m1 c1 vx H1 r1 s1 g1 h1 w1 => hb.thenE r1 s1 w1 fun y m2 c2 vy H2 r2 s2 g2 h2 w2 => ⟨c2, m2, x, y, r2, g2.vd h1, h2, w2.o⟩
theorem de_op {op : Operator} {g : D → D → Store → OD} (ho : OpR X (binaryOp op) (rOf X.kw g)) (ha : DE X W a fa) (hb : DE X W b fb) : DE X W (.BinOp a op b pos) (opE g fa fb) := fun c ρ m σ H Q r s w =>
  we_of (pe_op ho pe_w pe_w) (two ha hb r s w)
theorem de_cmp {op : CmpOp} {g : D → D → Store → OD} (ho : OpR X (compareOp op) (rOf X.kw g)) (ha : DE X W a fa) (hb : DE X W b fb) (hm : behindInMarks op b = false := by first | exact nomark _ | rfl) : DE X W (.Compare a [op] [b] pos) (opE g fa fb) := fun c ρ m σ H Q r s w =>
  we_of (pe_cmpR ho pe_w pe_w hm) (two ha hb r s w)
theorem de_ix {g : D → D → Store → OD} (ho : IxR X (rOf X.kw g)) (ha : DE X W a fa) (hb : DE X W b fb) (hs : PlainIx b := by exact fun _ _ => rfl) : DE X W (.Subscript a b pos) (opE g fa fb) := fun c ρ m σ H Q r s w =>
  we_of (pe_ix ho pe_w pe_w hs) (two ha hb r s w)
def testR : Res D → Res Bool
  | .ok (.p (.bool b)) m => .ok b m
  | .ok _ _ => .stuck
  | .exc x m => .exc x m
  | .stuck => .stuck
def testE (f : FE) : Rho → Store → Res Bool := fun ρ m => testR (f ρ m)
/-- what is wanted of a test by a value -/
theorem WantB.val {r : Res D} {Q : Bool → Hp → Prop} (h : WantB X W c H σ (testR r) Q) : Want X W c H σ r (fun v H' => ∃ k, v = .bl k ∧ Q k H') := by
  unfold testR at h
  split at h
  · intro c' v H' g hv
    exact ⟨_, VD.bl.mp hv, h c' H' g⟩
  · exact h.elim
  · exact h
  · exact h.elim
theorem dt_cmp {op : CmpOp} {g : D → D → Store → OD} (ho : OpR X (compareOp op) (rOf X.kw g)) (ha : DE X W a fa) (hb : DE X W b fb) (hm : behindInMarks op b = false := by first | exact nomark _ | rfl) : DT X W (.Compare a [op] [b] pos) (testE (opE g fa fb)) := fun c ρ m σ H Q r s w =>
  wt_of (pt_cmpR ho pe_w pe_w hm) (two ha hb r s w.val)
def chE (g g' : D → D → Store → OD) (fa fb fc : FE) : FE := fun ρ m => (fa ρ m).bind fun x m1 => (fb ρ m1).bind fun y m2 => (lift (g x y m2)).bind fun t m3 => match t with
  | .p (.bool true) => (fc ρ m3).bind fun z m4 => lift (g' y z m4)
  | .p (.bool false) => .ok (.p (.bool false)) m3
  | _ => .stuck
theorem three {g g' : D → D → Store → OD} (ha : DE X W a fa) (hb : DE X W b fb) (hc : DE X W e3 fc) {Q : VK} (r : RelS X.kw c m H) (s : Slo X.kw H c ρ σ) (w : Want X W c H σ (chE g g' fa fb fc ρ m) Q) : tChain (rOf X.kw g) (rOf X.kw g') (WE X a) (WE X b) (WE X e3) σ H Q :=
  ha.thenE r s w fun x m1 c1 vx H1 r1 s1 g1 h1 w1 => hb.thenE r1 s1 w1 fun y m2 c2 vy H2 r2 s2 g2 h2 w2 => by
    cases e : g x y m2 with
    | none => rw [e] at w2; exact w2.elim
    | some p =>
      obtain ⟨t, m3⟩ := p
      rw [e] at w2
      refine ⟨c2, m2, x, y, r2, g2.vd h1, h2, ?_⟩
      rw [e]
      intro c3 v H3 g3 hv
      have w3 := Want.shift g3 w2
      simp only [lift, Res.bind] at w3
      split at w3
      · refine ⟨true, VD.bl.mp hv, ?_⟩
        rw [if_pos rfl]
        exact hc.thenE g3.rel (g3.slots s2) w3 fun z m4 c4 vz H4 r4 s4 g4 h4 w4 => ⟨c4, m4, y, z, r4, g4.vd (g3.vd h2), h4, w4.o⟩
      · refine ⟨false, VD.bl.mp hv, ?_⟩
        rw [if_neg Bool.false_ne_true]
        exact w3.now g3.rel (VD.bl.mpr rfl)
      · exact w3.elim
theorem de_chain {op op' : CmpOp} {g g' : D → D → Store → OD} (ho : OpR X (compareOp op) (rOf X.kw g)) (ho' : OpR X (compareOp op') (rOf X.kw g')) (ha : DE X W a fa) (hb : DE X W b fb) (hc : DE X W e3 fc)
    (hm : lastMarks [op, op'] [b, e3] = false := by with_unfolding_all rfl) : DE X W (.Compare a [op, op'] [b, e3] pos) (chE g g' fa fb fc) := fun c ρ m σ H Q r s w =>
  we_of (pe_chain ho ho' pe_w pe_w pe_w hm) (three ha hb hc r s w)
theorem dt_chain {op op' : CmpOp} {g g' : D → D → Store → OD} (ho : OpR X (compareOp op) (rOf X.kw g)) (ho' : OpR X (compareOp op') (rOf X.kw g')) (ha : DE X W a fa) (hb : DE X W b fb) (hc : DE X W e3 fc)
    (hm : lastMarks [op, op'] [b, e3] = false := by with_unfolding_all rfl) : DT X W (.Compare a [op, op'] [b, e3] pos) (testE (chE g g' fa fb fc)) := fun c ρ m σ H Q r s w =>
  wt_of (pt_chain ho ho' pe_w pe_w pe_w hm) (three ha hb hc r s w.val)
def unE (g : D → Store → OD) (fa : FE) : FE := fun ρ m => (fa ρ m).bind fun x m1 => lift (g x m1)
theorem de_un {op : UnaryOp} {g : D → Store → OD} (ho : UnR X (unaryOp op) (rOf1 X.kw g)) (ha : DE X W a fa) : DE X W (.UnaryOp op a pos) (unE g fa) := fun c ρ m σ H Q r s w =>
  we_of (pe_un ho pe_w) (ha.thenE r s w fun x m1 c1 vx H1 r1 s1 g1 h1 w1 => ⟨c1, m1, x, r1, h1, w1.o⟩)
/-! ### tests -/
def andT (f g : Rho → Store → Res Bool) : Rho → Store → Res Bool := fun ρ m => (f ρ m).bind fun b m1 => if b then g ρ m1 else .ok false m1
def orT (f g : Rho → Store → Res Bool) : Rho → Store → Res Bool := fun ρ m => (f ρ m).bind fun b m1 => if b then .ok true m1 else g ρ m1
def notT (f : Rho → Store → Res Bool) : Rho → Store → Res Bool := fun ρ m => (f ρ m).bind fun b m1 => .ok (!b) m1
variable {ft gt : Rho → Store → Res Bool} {rest : List Expr}
theorem DW.dt (h : DW X W e ft) : DT X W e ft := fun c ρ m σ H Q r s w => .mk fun pins st I => (h c ρ m σ H Q r s w).go _ pins st I
theorem dw_and1 (h : DT X W a ft) : DW X W (.BoolOp .And [a] pos) ft := fun c ρ m σ H Q r s w => ww_of (pw_and1 pt_w) (h c ρ m σ H Q r s w)
theorem dw_or1 (h : DT X W a ft) : DW X W (.BoolOp .Or [a] pos) ft := fun c ρ m σ H Q r s w => ww_of (pw_or1 pt_w) (h c ρ m σ H Q r s w)
theorem dw_and (h : DT X W a ft) (h2 : DW X W (.BoolOp .And (b :: rest) pos) gt) : DW X W (.BoolOp .And (a :: b :: rest) pos) (andT ft gt) := fun c ρ m σ H Q r s w =>
  ww_of (pw_and pt_w pw_w) (h.thenB r s w fun k m1 c1 H1 r1 s1 g1 w1 => by
    cases k with
    | true => rw [if_pos rfl]; exact h2 c1 ρ m1 σ H1 Q r1 s1 w1
    | false => rw [if_neg Bool.false_ne_true]; exact w1 c1 H1 (Gd.refl r1))
theorem dw_or (h : DT X W a ft) (h2 : DW X W (.BoolOp .Or (b :: rest) pos) gt) : DW X W (.BoolOp .Or (a :: b :: rest) pos) (orT ft gt) := fun c ρ m σ H Q r s w =>
  ww_of (pw_or pt_w pw_w) (h.thenB r s w fun k m1 c1 H1 r1 s1 g1 w1 => by
    cases k with
    | true => rw [if_pos rfl]; exact w1 c1 H1 (Gd.refl r1)
    | false => rw [if_neg Bool.false_ne_true]; exact h2 c1 ρ m1 σ H1 Q r1 s1 w1)
theorem dt_not (h : DT X W a ft) : DT X W (.UnaryOp .Not a pos) (notT ft) := fun c ρ m σ H Q r s w =>
  wt_of (pt_not pt_w) (h.thenB r s w fun k m1 c1 H1 r1 s1 g1 w1 => w1 c1 H1 (Gd.refl r1))
/-- truth of a datum -/
def truD : D → Store → Option Bool
  | .p .none, _ => some false
  | .p (.bool b), _ => some b
  | .p (.int i), _ => some (i != 0)
  | .p (.str x), _ => if x.length ≤ sizeLine then some ((x.length : Int) != 0) else none
  | .p (.tuple ds), _ => some (!ds.isEmpty)
  | .tup ds, _ => some (!ds.isEmpty)
  | d, m => match lstOf d m with
    | some xs => some (!xs.isEmpty)
    | none => none
theorem truD_ok {v : V} {d : D} {k : Bool} (r : RelS X.kw c m H) (hv : VD X.kw H c v d) (e : truD d m = some k) : TruV X.K v H k := by
  have emp : ∀ {vs : List V} {ds : List D}, VDs X.kw H c vs ds → (!ds.isEmpty) = !vs.isEmpty := fun {vs ds} h => by
    have := h.length
    cases vs <;> cases ds <;> simp at this <;> rfl
  unfold truD at e
  split at e
  · cases VD.non.mp hv; cases e; rfl
  · cases VD.bl.mp hv; cases e; rfl
  · cases VD.int.mp hv; cases e; rfl
  · cases VD.str.mp hv
    split at e
    · rename_i h; cases e; exact ⟨h, rfl⟩
    · cases e
  · rename_i ds
    obtain ⟨a, vs, h1, h2, h3⟩ := tupOf_ok (ds := ds.map D.p) hv rfl
    subst h1
    cases e
    refine .inr (.inl ⟨vs, h2, ?_⟩)
    rw [← emp h3]
    cases ds <;> rfl
  · rename_i ds
    obtain ⟨a, vs, h1, h2, h3⟩ := tupOf_ok (ds := ds) hv rfl
    subst h1
    cases e
    exact .inr (.inl ⟨vs, h2, emp h3⟩)
  · split at e
    · rename_i xs h
      obtain ⟨a, vs, h1, h2, h3⟩ := lstOf_ok r hv h
      subst h1
      cases e
      exact .inl ⟨vs, RdL.sq h2, emp h3⟩
    · cases e
def truE (f : FE) : Rho → Store → Res Bool := fun ρ m => (f ρ m).bind fun d m1 => match truD d m1 with
  | some k => .ok k m1
  | none => .stuck
theorem dt_val (h : DE X W e f) (he : ∀ whole, isTrue e X.env whole = (do let v ← whole; standAt e.pos; holding [v] (truthy v)) := by intro _; rfl) : DT X W e (truE f) := fun c ρ m σ H Q r s w =>
  wt_of (pt_truth pe_w he) (h.thenB r s w fun d m1 c1 v H1 r1 s1 g1 h1 w1 => by
    cases q : truD d m1 with
    | none => rw [q] at w1; exact w1.elim
    | some k => rw [q] at w1; exact ⟨k, truD_ok r1 h1 q, w1 c1 H1 (Gd.refl r1)⟩)
/-! ### and, or, not, if as values -/
def oneE (f : FE) : FE := f
def andE (f g : FE) : FE := fun ρ m => (f ρ m).bind fun x m1 => match x with
  | .p (.bool true) => g ρ m1
  | .p (.bool false) => .ok (.p (.bool false)) m1
  | _ => .stuck
def orE (f g : FE) : FE := fun ρ m => (f ρ m).bind fun x m1 => match x with
  | .p (.bool true) => .ok (.p (.bool true)) m1
  | .p (.bool false) => g ρ m1
  | _ => .stuck
def notE (f : FE) : FE := fun ρ m => (f ρ m).bind fun x m1 => match x with
  | .p (.bool b) => .ok (.p (.bool (!b))) m1
  | _ => .stuck
theorem de_one {op : BoolOp} (h : DE X W a fa) : DE X W (.BoolOp op [a] pos) fa := fun c ρ m σ H Q r s w => we_of (pe_one pe_w) (h c ρ m σ H Q r s w)
theorem de_and (h : DE X W a fa) (h2 : DE X W (.BoolOp .And (b :: rest) pos) fb) : DE X W (.BoolOp .And (a :: b :: rest) pos) (andE fa fb) := fun c ρ m σ H Q r s w =>
  we_of (pe_and pe_w pe_w) (h.thenE r s w fun x m1 c1 v H1 r1 s1 g1 h1 w1 => by
    split at w1
    · exact ⟨true, VD.bl.mp h1, by rw [if_pos rfl]; exact h2 c1 ρ m1 σ H1 Q r1 s1 w1⟩
    · exact ⟨false, VD.bl.mp h1, by rw [if_neg Bool.false_ne_true]; exact w1.now r1 (VD.bl.mpr rfl)⟩
    · exact w1.elim)
theorem de_or (h : DE X W a fa) (h2 : DE X W (.BoolOp .Or (b :: rest) pos) fb) : DE X W (.BoolOp .Or (a :: b :: rest) pos) (orE fa fb) := fun c ρ m σ H Q r s w =>
  we_of (pe_or pe_w pe_w) (h.thenE r s w fun x m1 c1 v H1 r1 s1 g1 h1 w1 => by
    split at w1
    · exact ⟨true, VD.bl.mp h1, by rw [if_pos rfl]; exact w1.now r1 (VD.bl.mpr rfl)⟩
    · exact ⟨false, VD.bl.mp h1, by rw [if_neg Bool.false_ne_true]; exact h2 c1 ρ m1 σ H1 Q r1 s1 w1⟩
    · exact w1.elim)
theorem de_not (h : DE X W a fa) : DE X W (.UnaryOp .Not a pos) (notE fa) := fun c ρ m σ H Q r s w =>
  we_of (pe_not pe_w) (h.thenE r s w fun x m1 c1 v H1 r1 s1 g1 h1 w1 => by
    split at w1
    · exact ⟨_, VD.bl.mp h1, w1.now r1 (VD.bl.mpr rfl)⟩
    · exact w1.elim)
def ifE (t : Rho → Store → Res Bool) (fa fb : FE) : FE := fun ρ m => (t ρ m).bind fun k m1 => if k then fa ρ m1 else fb ρ m1
theorem de_if (h : DT X W e ft) (ha : DE X W a fa) (hb : DE X W b fb) : DE X W (.IfExp e a b pos) (ifE ft fa fb) := fun c ρ m σ H Q r s w =>
  we_of (pe_ifExp pt_w pe_w pe_w) (h.thenE r s w fun k m1 c1 H1 r1 s1 g1 w1 => by
    cases k with
    | true => rw [if_pos rfl]; exact ha c1 ρ m1 σ H1 Q r1 s1 w1
    | false => rw [if_neg Bool.false_ne_true]; exact hb c1 ρ m1 σ H1 Q r1 s1 w1)
/-! ### built-in functions, types, methods -/
def calE (g : List D → Store → OD) (fl : Rho → Store → Res (List D)) : FE := fun ρ m => (fl ρ m).bind fun ds m1 => lift (g ds m1)
variable {fl : Rho → Store → Res (List D)} {x : Str} {p : Pos}
theorem de_callB {id : String} {g : List D → Store → OD} (hc : CallR X (.builtin id) (rOfL X.kw g)) (hg : Gl X x) (hm : X.mg x = none) (hv : bootBuiltins x = some (.builtin id)) (ha : DA X W (e :: es) fl) (hn : x ≠ "__name__" := by decide) (hdb : (x == ("__debug__" : Str)) = false := by decide)
    (he : starEach (e :: es) X.env = (false, eval e X.env) :: starEach es X.env := by rfl) (hpl : (backTo pos (starEach es X.env)).any (·.1) = false := by rfl) : DE X W (.Call (.Name x p) (e :: es) [] pos) (calE g fl) := fun c ρ m σ H Q r s w =>
  we_of (pe_callB hc hg hm hv pa_w hn hdb he hpl) (ha.thenE r s w fun ds m1 c1 vs H1 r1 s1 g1 h1 w1 => ⟨c1, m1, ds, r1, h1, w1.o⟩)
theorem de_callTy {T : String} {g : List D → Store → OD} (hc : CallR X (.type T) (rOfL X.kw g)) (hg : Gl X x) (hm : X.mg x = none) (hv : bootBuiltins x = some (.type T)) (ha : DA X W (e :: es) fl) (hn : x ≠ "__name__" := by decide) (hdb : (x == ("__debug__" : Str)) = false := by decide)
    (he : starEach (e :: es) X.env = (false, eval e X.env) :: starEach es X.env := by rfl) (hpl : (backTo pos (starEach es X.env)).any (·.1) = false := by rfl) : DE X W (.Call (.Name x p) (e :: es) [] pos) (calE g fl) := fun c ρ m σ H Q r s w =>
  we_of (pe_callTy hc hg hm hv pa_w hn hdb he hpl) (ha.thenE r s w fun ds m1 c1 vs H1 r1 s1 g1 h1 w1 => ⟨c1, m1, ds, r1, h1, w1.o⟩)
/-- the type that a method is looked up in -/
def isTy (T : String) : D → Store → Bool
  | .p (.str _), _ => T == "str"
  | .p (.int _), _ => T == "int"
  | d, m => T == "list" && (lstOf d m).isSome
theorem isTy_ok {T : String} {d : D} {v : V} (r : RelS X.kw c m H) (hv : VD X.kw H c v d) (e : isTy T d m = true) : tyV X.K T v H := by
  unfold isTy at e
  split at e
  · cases VD.str.mp hv; exact beq_iff_eq.mp e
  · cases VD.int.mp hv; exact beq_iff_eq.mp e
  · rw [Bool.and_eq_true] at e
    obtain ⟨xs, q⟩ := Option.isSome_iff_exists.mp e.2
    obtain ⟨a, vs, h1, h2, h3⟩ := lstOf_ok r hv q
    subst h1
    exact .inl ⟨beq_iff_eq.mp e.1, vs, RdL.sq h2⟩
def metE (T : String) (g : D → List D → Store → OD) (fo : FE) (fl : Rho → Store → Res (List D)) : FE := fun ρ m => (fo ρ m).bind fun d m1 => if isTy T d m1 then (fl ρ m1).bind fun ds m2 => lift (g d ds m2) else .stuck
variable {o : Expr} {fo : FE} {name : Str} {apos cpos : Pos}
theorem de_bm {T id : String} {g : D → List D → Store → OD} (pa : PlainAttrs T) (slot : Slot T name id) (hty : typeOf (.builtin id) = pure (.type "method_descriptor")) (hm : MtR X id (rOfM X.kw g)) (ho : DE X W o fo) (ha : DA X W (e :: es) fl)
    (hbase : attributeBase o name X.env (eval o X.env) = eval o X.env := by rfl)
    (hfew : ((backTo cpos (starEach (e :: es) X.env)).all (fun x => !x.1) && (backToKw cpos (keywordEach [] X.env)).all (fun x => x.1.isSome)
      && decide ((e :: es).length + ([] : List Keyword).length + (if ([] : List Keyword).isEmpty then 0 else 1) < 30)) = true := by rfl)
    (hline : (apos.endLine == cpos.line) = true := by rfl) (hs : starEach (e :: es) X.env = (false, eval e X.env) :: starEach es X.env := by rfl) (hplain : (backTo cpos (starEach es X.env)).any (·.1) = false := by rfl) :
    DE X W (.Call (.Attribute o name apos) (e :: es) [] cpos) (metE T g fo fl) := fun c ρ m σ H Q r s w =>
  we_of (pe_bm pa slot hty hm pe_w pa_w hbase hfew hline hs hplain) (ho.thenE r s w fun d m1 c1 v H1 r1 s1 g1 h1 w1 => by
    cases q : isTy T d m1 with
    | false => rw [q] at w1; exact w1.elim
    | true =>
      rw [q] at w1
      exact ⟨isTy_ok r1 h1 q, ha.thenE r1 s1 w1 fun ds m2 c2 vs H2 r2 s2 g2 h2 w2 => ⟨c2, m2, d, ds, r2, g2.vd h1, h2, w2.o⟩⟩)
theorem de_bm0 {T id : String} {g : D → List D → Store → OD} (pa : PlainAttrs T) (slot : Slot T name id) (hty : typeOf (.builtin id) = pure (.type "method_descriptor")) (hm : MtR X id (rOfM X.kw g)) (ho : DE X W o fo)
    (hbase : attributeBase o name X.env (eval o X.env) = eval o X.env := by rfl) (hline : (apos.endLine == cpos.line) = true := by rfl) : DE X W (.Call (.Attribute o name apos) [] [] cpos) (metE T g fo nilA) := fun c ρ m σ H Q r s w =>
  we_of (pe_bm0 pa slot hty hm pe_w hbase hline) (ho.thenE r s w fun d m1 c1 v H1 r1 s1 g1 h1 w1 => by
    cases q : isTy T d m1 with
    | false => rw [q] at w1; exact w1.elim
    | true =>
      rw [q] at w1
      exact ⟨isTy_ok r1 h1 q, c1, m1, d, [], r1, h1, (by unfold VDs; rfl), Want.o w1⟩)
/-! ### slices -/
def FO := Rho → Store → Res (Option Int)
def noO : FO := fun _ m => .ok none m
def someO (f : FE) : FO := fun ρ m => (f ρ m).bind fun d m1 => match d with
  | .p (.int i) => .ok (some i) m1
  | _ => .stuck
def slE (g : D → Option Int → Option Int → Store → OD) (fa : FE) (fl fh : FO) : FE := fun ρ m => (fa ρ m).bind fun d m1 => (fl ρ m1).bind fun lo m2 => (fh ρ m2).bind fun hi m3 => lift (g d lo hi m3)
/-- a slice's part -/
def DO (X : Cx) (W : WX) (e : Option Expr) (f : FO) : Prop := ∀ {c : Anc} {ρ : Rho} {m : Store} {σ : St} {H : Hp} {Q : VK} {k : Option Int → Store → Res D} {R : Option Int → Hp → Prop}, RelS X.kw c m H → Slo X.kw H c ρ σ → Want X W c H σ ((f ρ m).bind k) Q →
  (∀ i m1 c1 H1, RelS X.kw c1 m1 H1 → Slo X.kw H1 c1 ρ σ → Gd X.kw c c1 m1 H H1 → Want X W c1 H1 σ (k i m1) Q → R i H1) → ∃ t, PO X e t ∧ t σ H R
theorem do_none : DO X W none noO := fun {c ρ m σ H Q k R} r s w q => ⟨_, po_none, q none m c H r s (Gd.refl r) w⟩
theorem do_some (h : DE X W e f) : DO X W (some e) (someO f) := fun {c ρ m σ H Q k R} r s w q => by
  refine ⟨_, po_some pe_w, ?_⟩
  have w' : Want X W c H σ ((f ρ m).bind fun d m1 => match d with | .p (.int i) => k (some i) m1 | _ => .stuck) Q := by
    have e1 : ((someO f ρ m).bind k) = ((f ρ m).bind fun d m1 => match d with | .p (.int i) => k (some i) m1 | _ => .stuck) := by
      unfold someO
      cases f ρ m with
      | ok d m1 =>
        show Res.bind (match d with | .p (.int i) => Res.ok (some i) m1 | _ => .stuck) k = (match d with | .p (.int i) => k (some i) m1 | _ => .stuck)
        split <;> rfl
      | exc x m1 => rfl
      | stuck => rfl
    rw [← e1]
    exact w
  exact h.thenE r s w' fun d m1 c1 v H1 r1 s1 g1 h1 w1 => by
    split at w1
    · exact ⟨_, VD.int.mp h1, q _ m1 c1 H1 r1 s1 g1 w1⟩
    · exact w1.elim
variable {lo hi : Option Expr} {flo fhi : FO} {p2 : Pos}
theorem de_slice {g : D → Option Int → Option Int → Store → OD} (hr : SlR X (rOfS X.kw g)) (ha : DE X W a fa) (hl : DO X W lo flo) (hh : DO X W hi fhi) : DE X W (.Subscript a (.Slice lo hi none p2) pos) (slE g fa flo fhi) := fun c ρ m σ H Q r s w => by
  -- the parts' readings hang on the state: go by the run
  have PL : PO X lo (fun σ H R => ∀ (pins : List (Addr × Obj)) (s : Shared), Inv X pins σ H s → wpAny (model X.prog X.w) X.A (evalPart lo X.env) (fun u s' => ∃ o H', Inv X pins σ H' s' ∧ IsPart u o ∧ R o H') X.xe s) := ⟨fun pins s σ H Q I h => h pins s I⟩
  have PH : PO X hi (fun σ H R => ∀ (pins : List (Addr × Obj)) (s : Shared), Inv X pins σ H s → wpAny (model X.prog X.w) X.A (evalPart hi X.env) (fun u s' => ∃ o H', Inv X pins σ H' s' ∧ IsPart u o ∧ R o H') X.xe s) := ⟨fun pins s σ H Q I h => h pins s I⟩
  refine we_of (pe_slice hr pe_w PL PH) (ha.thenE r s w fun d m1 c1 v H1 r1 s1 g1 h1 w1 => ?_)
  intro pins st I
  obtain ⟨t, P, q⟩ := hl (R := fun l H2 => ∀ (pins : List (Addr × Obj)) (s : Shared), Inv X pins σ H2 s → wpAny (model X.prog X.w) X.A (evalPart hi X.env) (fun u s' => ∃ o H', Inv X pins σ H' s' ∧ IsPart u o ∧ rOfS X.kw g v l o H' Q) X.xe s) r1 s1 w1 (fun i m2 c2 H2 r2 s2 g2 w2 => by
    intro pins2 st2 I2
    obtain ⟨t, P, q⟩ := hh (R := fun u H3 => rOfS X.kw g v i u H3 Q) r2 s2 w2 (fun j m3 c3 H3 r3 s3 g3 w3 => ⟨c3, m3, d, r3, g3.vd (g2.vd h1), w3.o⟩)
    exact P.run pins2 st2 σ H2 _ I2 q)
  exact P.run pins st σ H1 _ I q
end
end L2.Dn
namespace L2.Dn
open PySem PySem.Spec PyProof.Rows L2
/-! ### ghost steps upon a value -/
def mkDct (kvs : List (PyData × D)) : D := match pures (kvs.map (·.2)) with
  | some vs => .p (.dict ((kvs.map (·.1)).zip vs))
  | none => .dct (kvs.map (·.1)) (kvs.map (·.2))
theorem pures_len : ∀ {xs : List D} {ds : List PyData}, pures xs = some ds → ds.length = xs.length := fun {xs ds} e => by rw [of_pures e, List.length_map]
theorem mkDct_ok {K : KW} {H : Hp} {c : Anc} {a : Addr} {o : Obj} {es : List (NestedKey × V × V)} {kvs : List (PyData × D)} (h : DctR K H c es kvs) (f : H a = some (.frz o (gdO K.w a es))) : VD K H c (.ref a) (mkDct kvs) := by
  unfold mkDct
  split
  · rename_i vs e
    have e1 := of_pures e
    have hv := h.vd
    rw [e1] at hv
    have hl : vs.length = kvs.length := by rw [pures_len e, List.length_map]
    have z1 : ((kvs.map (·.1)).zip vs).map (·.1) = kvs.map (·.1) := List.map_fst_zip (by rw [List.length_map]; omega)
    have z2 : ((kvs.map (·.1)).zip vs).map (·.2) = vs := List.map_snd_zip (by rw [List.length_map]; omega)
    unfold VD
    refine .dG f ?_ h.dp h.nd ?_ ?_
    · have := congrArg (List.map nk) z1
      simp only [List.map_map] at this
      rw [h.key]
      exact this.symm
    · rw [z1]; exact h.kd
    · rw [z2]; exact VDs.top hv
  · unfold VD
    exact ⟨a, o, es, rfl, f, ⟨by rw [h.key, List.map_map]; rfl, h.dp, h.nd, h.kd⟩, h.vd⟩
def frzC (x : Cell) : Option D := match x with
  | .lst xs => some (mkLst xs)
  | .dct kvs => some (mkDct kvs)
  | .ins C fs => some (.obj C (fs.map (·.1)) (fs.map (·.2)))
  | .gone => none
def frzR : Res D → Res D
  | .ok (.cell i) m => match m.at_ i with
    | some x => match frzC x with
      | some d => .ok d (m.set .gone i)
      | none => .stuck
    | none => .stuck
  | r => r
def frzE (f : FE) : FE := fun ρ m => frzR (f ρ m)
theorem DctR.warm {K : KW} {H : Hp} {c : Anc} {es : List (NestedKey × V × V)} {kvs : List (PyData × D)} (h : DctR K.cold H c es kvs) : DctR K H c es kvs := ⟨h.key, h.dp, h.nd, DpZs.kw (K := K.cold) (K' := K) rfl rfl h.kd, h.vd.warm⟩
/-- a live cell's object, and what it is once it is frozen -/
theorem frzC_ok {K : KW} {H : Hp} {c : Anc} {m : Store} {i : Ix} {a : Addr} {x : Cell} {d : D} (r : RelS K c m H) (h1 : c.at_ i = some a) (h2 : m.at_ i = some x) (e : frzC x = some d) :
    ∃ u, H a = some u ∧ Mut (some u) ∧ ∀ o, Gd K c c (m.set .gone i) H (upd H a (.frz o u)) ∧ VD K (upd H a (.frz o u)) c (.ref a) d := by
  have q := r.at_ i a x h1 h2
  cases x with
  | lst xs =>
    cases e
    obtain ⟨vs, h3, h4⟩ := q
    refine ⟨_, h3, trivial, fun o => ?_⟩
    have g := r.freezeC (o := o) h1 h2 (by intro z; cases z) h3 rfl
    exact ⟨g, mkLst_ok (VDs.mono g.ext (forI_le _ _) _ h4.warm) (.inl ⟨o, upd_same⟩)⟩
  | dct kvs =>
    cases e
    obtain ⟨es, h3, h4⟩ := q
    refine ⟨_, h3, trivial, fun o => ?_⟩
    have g := r.freezeC (o := o) h1 h2 (by intro z; cases z) h3 rfl
    exact ⟨g, mkDct_ok (h4.warm.mono g.ext (forI_le _ _)) upd_same⟩
  | ins C fs =>
    cases e
    obtain ⟨Ca, dx, vs, h3, h4, h5, h6⟩ := q
    refine ⟨_, h3, trivial, fun o => ?_⟩
    have g := r.freezeC (o := o) h1 h2 (by intro z; cases z) h3 rfl
    refine ⟨g, ?_⟩
    unfold VD
    exact ⟨a, o, Ca, dx, vs, rfl, h4, upd_same, h5, VDs.mono g.ext (forI_le _ _) _ h6.warm⟩
  | gone => cases e
section
variable {X : Cx} {W : WX} {a b e : Expr} {es : List Expr} {fa fb f : FE} {pos : Pos} {c : Anc} {ρ : Rho} {m : Store} {σ : St} {H : Hp}
theorem de_frz (h : DE X W e f) : DE X W e (frzE f) := fun c ρ m σ H Q r s w => by
  refine WE.frz (h c ρ m σ H (QF Q) r s ?_)
  unfold frzE at w
  cases q : f ρ m with
  | stuck => rw [q] at w; exact w
  | exc x m1 => rw [q] at w; exact w
  | ok d m1 =>
    rw [q] at w
    intro c1 v H1 g hv
    cases d with
    | cell i =>
      unfold VD at hv
      obtain ⟨b, h1, rfl⟩ := hv
      cases q2 : m1.at_ i with
      | none => simp only [frzR, q2] at w; exact w.elim
      | some x =>
        cases q3 : frzC x with
        | none => simp only [frzR, q2, q3] at w; exact w.elim
        | some d =>
          simp only [frzR, q2, q3] at w
          obtain ⟨u, h3, mu, k⟩ := frzC_ok g.rel h1 q2 q3
          exact .inr ⟨b, u, rfl, h3, mu, fun o => w _ _ _ (g.trans (k o).1) (k o).2⟩
    | p d => exact .inl (w c1 v H1 g hv)
    | tup d => exact .inl (w c1 v H1 g hv)
    | lst d => exact .inl (w c1 v H1 g hv)
    | dct d d' => exact .inl (w c1 v H1 g hv)
    | obj d d' d'' => exact .inl (w c1 v H1 g hv)
    | exn d d' d'' => exact .inl (w c1 v H1 g hv)
    | fn d => exact .inl (w c1 v H1 g hv)
    | ty d => exact .inl (w c1 v H1 g hv)
end
/-! ### statements -/
inductive SRes where
  | nx (ρ : Rho) (m : Store)
  | rt (d : Dn.D) (m : Store)
  | bk (ρ : Rho) (m : Store)
  | ct (ρ : Rho) (m : Store)
  | exc (x : Exn) (ρ : Rho) (m : Store)
  | stuck
abbrev FS := Rho → Store → SRes
def Res.bindS {α : Type} (r : Res α) (ρ : Rho) (k : α → Store → SRes) : SRes := match r with
  | .ok a m => k a m
  | .exc x m => .exc x ρ m
  | .stuck => .stuck
def WantS (X : Cx) (W : WX) (c : Anc) (H : Hp) (r : SRes) (En : Ends) : Prop := match r with
  | .nx ρ' m' => ∀ c' σ' H', Gd X.kw c c' m' H H' → Slo X.kw H' c' ρ' σ' → En.nx σ' H'
  | .rt d m' => ∀ c' v H', Gd X.kw c c' m' H H' → VD X.kw H' c' v d → En.rt v H'
  | .bk ρ' m' => ∀ c' σ' H', Gd X.kw c c' m' H H' → Slo X.kw H' c' ρ' σ' → En.bk σ' H'
  | .ct ρ' m' => ∀ c' σ' H', Gd X.kw c c' m' H H' → Slo X.kw H' c' ρ' σ' → En.ct σ' H'
  | .exc x ρ' m' => ∀ c' σ' cls dd H', Gd X.kw c c' m' H H' → Slo X.kw H' c' ρ' σ' → ExcV X.kw H' c' x cls dd → W cls dd σ' H'
  | .stuck => False
def DS (X : Cx) (W : WX) (st : Stmt) (g : FS) : Prop := ∀ (c : Anc) (ρ : Rho) (m : Store) (σ : St) (H : Hp) (En : Ends), RelS X.kw c m H → Slo X.kw H c ρ σ → WantS X W c H (g ρ m) En → WSt X st En σ H
def DSs (X : Cx) (W : WX) (st : List Stmt) (g : FS) : Prop := ∀ (c : Anc) (ρ : Rho) (m : Store) (σ : St) (H : Hp) (En : Ends), RelS X.kw c m H → Slo X.kw H c ρ σ → WantS X W c H (g ρ m) En → WSs X st En σ H
section
variable {X : Cx} {W : WX} {a b e : Expr} {es : List Expr} {fa fb f : FE} {pos : Pos} {c c' : Anc} {ρ : Rho} {m m' : Store} {σ : St} {H H' : Hp} {En : Ends} {st : Stmt} {sts els : List Stmt} {g gs ge : FS}
theorem WantS.shift {r : SRes} (gd : Gd X.kw c c' m' H H') (h : WantS X W c H r En) : WantS X W c' H' r En := by
  cases r with
  | nx ρ m1 => exact fun c1 v H1 g1 hv => h c1 v H1 (gd.trans g1) hv
  | rt d m1 => exact fun c1 v H1 g1 hv => h c1 v H1 (gd.trans g1) hv
  | bk ρ m1 => exact fun c1 v H1 g1 hv => h c1 v H1 (gd.trans g1) hv
  | ct ρ m1 => exact fun c1 v H1 g1 hv => h c1 v H1 (gd.trans g1) hv
  | exc x ρ m1 => exact fun c1 σ1 cls dd H1 g1 hs hv => h c1 σ1 cls dd H1 (gd.trans g1) hs hv
  | stuck => exact h
theorem DE.thenS {k : Dn.D → Store → SRes} {Q : VK} (h : DE X W a fa) (r : RelS X.kw c m H) (s : Slo X.kw H c ρ σ) (hb : WantS X W c H ((fa ρ m).bindS ρ k) En)
    (q : ∀ d m1 c1 v H1, RelS X.kw c1 m1 H1 → Slo X.kw H1 c1 ρ σ → Gd X.kw c c1 m1 H H1 → VD X.kw H1 c1 v d → WantS X W c1 H1 (k d m1) En → Q v H1) : WE X a σ H Q := by
  refine h c ρ m σ H Q r s ?_
  cases e : fa ρ m with
  | ok d m1 =>
    rw [e] at hb
    exact fun c1 v H1 g hv => q d m1 c1 v H1 g.rel (g.slots s) g hv (WantS.shift g hb)
  | exc x m1 =>
    rw [e] at hb
    exact fun c1 cls dd H1 g hv => hb c1 σ cls dd H1 g (g.slots s) hv
  | stuck => rw [e] at hb; exact hb
theorem DA.thenS {fl : Rho → Store → Res (List Dn.D)} {k : List Dn.D → Store → SRes} {Q : List V → Hp → Prop} (h : DA X W es fl) (r : RelS X.kw c m H) (s : Slo X.kw H c ρ σ) (hb : WantS X W c H ((fl ρ m).bindS ρ k) En)
    (q : ∀ d m1 c1 v H1, RelS X.kw c1 m1 H1 → Slo X.kw H1 c1 ρ σ → Gd X.kw c c1 m1 H H1 → VDs X.kw H1 c1 v d → WantS X W c1 H1 (k d m1) En → Q v H1) : WA X es σ H Q := by
  refine h c ρ m σ H Q r s ?_
  cases e : fl ρ m with
  | ok d m1 =>
    rw [e] at hb
    exact fun c1 v H1 g hv => q d m1 c1 v H1 g.rel (g.slots s) g hv (WantS.shift g hb)
  | exc x m1 =>
    rw [e] at hb
    exact fun c1 cls dd H1 g hv => hb c1 σ cls dd H1 g (g.slots s) hv
  | stuck => rw [e] at hb; exact hb
theorem DT.thenS {ft : Rho → Store → Res Bool} {k : Bool → Store → SRes} {Q : Bool → Hp → Prop} (h : DT X W a ft) (r : RelS X.kw c m H) (s : Slo X.kw H c ρ σ) (hb : WantS X W c H ((ft ρ m).bindS ρ k) En)
    (q : ∀ d m1 c1 H1, RelS X.kw c1 m1 H1 → Slo X.kw H1 c1 ρ σ → Gd X.kw c c1 m1 H H1 → WantS X W c1 H1 (k d m1) En → Q d H1) : WT X a σ H Q := by
  refine h c ρ m σ H Q r s ?_
  cases e : ft ρ m with
  | ok d m1 =>
    rw [e] at hb
    exact fun c1 H1 g => q d m1 c1 H1 g.rel (g.slots s) g (WantS.shift g hb)
  | exc x m1 =>
    rw [e] at hb
    exact fun c1 cls dd H1 g hv => hb c1 σ cls dd H1 g (g.slots s) hv
  | stuck => rw [e] at hb; exact hb
theorem WantS.now {En : Ends} (r : RelS X.kw c m H) (s : Slo X.kw H c ρ σ) (h : WantS X W c H (.nx ρ m) En) : En.nx σ H := h c σ H (Gd.refl r) s
def nilS : FS := fun ρ m => .nx ρ m
def SRes.seq (r : SRes) (k : FS) : SRes := match r with
  | .nx ρ m => k ρ m
  | r => r
def seqS (g h : FS) : FS := fun ρ m => (g ρ m).seq h
theorem dss_nil : DSs X W [] nilS := fun c ρ m σ H En r s w => wss_of pss_nil (w.now r s)
theorem dss_cons (h1 : DS X W st g) (h2 : DSs X W sts gs) : DSs X W (st :: sts) (seqS g gs) := fun c ρ m σ H En r s w => by
  refine wss_of (pss_cons ps_w pss_w) (h1 c ρ m σ H _ r s ?_)
  unfold seqS at w
  cases e : g ρ m with
  | nx ρ1 m1 => rw [e] at w; exact fun c1 σ1 H1 g1 s1 => h2 c1 ρ1 m1 σ1 H1 En g1.rel s1 (WantS.shift g1 w)
  | rt d m1 => rw [e] at w; exact w
  | bk d m1 => rw [e] at w; exact w
  | ct d m1 => rw [e] at w; exact w
  | exc x d m1 => rw [e] at w; exact w
  | stuck => rw [e] at w; exact w
theorem dss_one (h1 : DS X W st g) : DSs X W [st] g := fun c ρ m σ H En r s w => wss_of (pss_one ps_w) (h1 c ρ m σ H En r s w)
theorem ds_pass : DS X W (.Pass pos) nilS := fun c ρ m σ H En r s w => wst_of ps_pass (w.now r s)
def bkS : FS := fun ρ m => .bk ρ m
def ctS : FS := fun ρ m => .ct ρ m
theorem ds_break : DS X W (.Break pos) bkS := fun c ρ m σ H En r s w => wst_of ps_break (w c σ H (Gd.refl r) s)
theorem ds_continue : DS X W (.Continue pos) ctS := fun c ρ m σ H En r s w => wst_of ps_continue (w c σ H (Gd.refl r) s)
def exprS (f : FE) : FS := fun ρ m => (f ρ m).bindS ρ fun _ m1 => .nx ρ m1
theorem ds_expr (h : DE X W e f) (hs : swapsWith e none pos.line X.env = pure false := by rfl) : DS X W (.Expr e pos) (exprS f) := fun c ρ m σ H En r s w =>
  wst_of (ps_expr pe_w hs) (h.thenS r s w fun d m1 c1 v H1 r1 s1 g1 h1 w1 => w1.now r1 s1)
def retS (f : FE) : FS := fun ρ m => (f ρ m).bindS ρ fun d m1 => .rt d m1
theorem ds_ret (h : DE X W e f) : DS X W (.Return (some e) pos) (retS f) := fun c ρ m σ H En r s w =>
  wst_of (ps_ret pe_w) (h.thenS r s w fun d m1 c1 v H1 r1 s1 g1 h1 w1 => w1 c1 v H1 (Gd.refl r1) h1)
def retN : FS := fun ρ m => .rt (.p .none) m
theorem ds_retN : DS X W (.Return none pos) retN := fun c ρ m σ H En r s w => wst_of ps_retN (w c .non H (Gd.refl r) (VD.non.mpr rfl))
def ifS (t : Rho → Store → Res Bool) (g h : FS) : FS := fun ρ m => (t ρ m).bindS ρ fun b m1 => if b then g ρ m1 else h ρ m1
theorem ds_if {ft : Rho → Store → Res Bool} (h : DT X W e ft) (h1 : DSs X W sts gs) (h2 : DSs X W els ge) : DS X W (.If e sts els pos) (ifS ft gs ge) := fun c ρ m σ H En r s w =>
  wst_of (ps_if pt_w pss_w pss_w) (h.thenS r s w fun k m1 c1 H1 r1 s1 g1 w1 => by
    cases k with
    | true => rw [if_pos rfl]; exact h1 c1 ρ m1 σ H1 En r1 s1 w1
    | false => rw [if_neg Bool.false_ne_true]; exact h2 c1 ρ m1 σ H1 En r1 s1 w1)
def setS (i : Nat) (f : FE) : FS := fun ρ m => (f ρ m).bindS ρ fun d m1 => .nx (ρ.set i (some d)) m1
theorem ds_set (i : Nat) {x : Str} {pos' : Pos} (hN : X.N.Nodup) (he : DE X W e f) (hi : X.N[i]? = some x := by rfl) (hx : Loc X.env.scope x := by first | exact Or.inl rfl | exact Or.inr rfl) (hs : swapsWith e (some (.Name x pos')) pos.line X.env = pure false := by rfl)
    (hf : X.fn x = true ∨ X.env.scope.names.lookup x = some .local := by first | exact .inl rfl | exact .inr rfl | assumption) : DS X W (.Assign [.Name x pos'] e pos) (setS i f) := fun c ρ m σ H En r s w =>
  wst_of (ps_set hN hi hx pe_w hs hf) (he.thenS r s w fun d m1 c1 v H1 r1 s1 g1 h1 w1 => w1 c1 _ H1 (Gd.refl r1) (s1.set i h1))
def parS (i j : Nat) (fl : Rho → Store → Res (List Dn.D)) : FS := fun ρ m => (fl ρ m).bindS ρ fun ds m1 => match ds with
  | [d, d'] => .nx ((ρ.set i (some d)).set j (some d')) m1
  | _ => .stuck
theorem VDs.two {K : KW} {vs : List V} {d d' : Dn.D} (h : VDs K H c vs [d, d']) : ∃ v v', vs = [v, v'] ∧ VD K H c v d ∧ VD K H c v' d' := by
  unfold VDs at h
  obtain ⟨v, r, h1, h2, h3⟩ := h
  unfold VDs at h3
  obtain ⟨v', r', h4, h5, h6⟩ := h3
  unfold VDs at h6
  subst h6 h4 h1
  exact ⟨v, v', rfl, h2, h5⟩
theorem VDs.onlyOne {K : KW} {vs : List V} {d : Dn.D} (h : VDs K H c vs [d]) : ∃ v, vs = [v] ∧ VD K H c v d := by
  unfold VDs at h
  obtain ⟨v, r, h1, h2, h3⟩ := h
  unfold VDs at h3
  subst h3 h1
  exact ⟨v, rfl, h2⟩
theorem ds_par (i j : Nat) {x y : Str} {fl : Rho → Store → Res (List Dn.D)} {px py pt : Pos} {kt k2 pt2} (hN : X.N.Nodup) (ha : DA X W [a, b] fl) (hw : swappedStores [.Tuple [.Name x px, .Name y py] kt pt] (.Tuple [a, b] k2 pt2) X.env = pure (some [x, y]) := by rfl)
    (hc : X.calm = true := by rfl) (hi : X.N[i]? = some x := by rfl) (hj : X.N[j]? = some y := by rfl) (hij : i ≠ j := by decide)
    (hx : X.env.scope.names.lookup x = some .local := by rfl) (hy : X.env.scope.names.lookup y = some .local := by rfl)
    (hs : swapsWithSole [.Tuple [.Name x px, .Name y py] kt pt] (.Tuple [a, b] k2 pt2) pos.line X.env = pure false := by rfl) :
    DS X W (.Assign [.Tuple [.Name x px, .Name y py] kt pt] (.Tuple [a, b] k2 pt2) pos) (parS i j fl) := fun c ρ m σ H En r s w =>
  wst_of (ps_par hc hN hi hj hij hx hy pa_w hw hs) (ha.thenS r s w fun ds m1 c1 vs H1 r1 s1 g1 h1 w1 => by
    split at w1
    · obtain ⟨v, v', h2, h3, h4⟩ := VDs.two h1
      exact ⟨v, v', h2, w1 c1 _ H1 (Gd.refl r1) ((s1.set i h3).set j h4)⟩
    · exact w1.elim)
def par3S (i j l : Nat) (fl : Rho → Store → Res (List Dn.D)) : FS := fun ρ m => (fl ρ m).bindS ρ fun ds m1 => match ds with
  | [d, d', d''] => .nx (((ρ.set i (some d)).set j (some d')).set l (some d'')) m1
  | _ => .stuck
theorem ds_par3 (i j l : Nat) {x y z : Str} {e3 : Expr} {fl : Rho → Store → Res (List Dn.D)} {px py pz pt : Pos} {kt k2 pt2} (hN : X.N.Nodup) (ha : DA X W [a, b, e3] fl) (hw : swappedStores [.Tuple [.Name x px, .Name y py, .Name z pz] kt pt] (.Tuple [a, b, e3] k2 pt2) X.env = pure (some [x, y, z]) := by rfl)
    (hc : X.calm = true := by rfl) (hi : X.N[i]? = some x := by rfl) (hj : X.N[j]? = some y := by rfl) (hl : X.N[l]? = some z := by rfl) (hij : i ≠ j := by decide) (hil : i ≠ l := by decide) (hjl : j ≠ l := by decide)
    (hx : X.env.scope.names.lookup x = some .local := by rfl) (hy : X.env.scope.names.lookup y = some .local := by rfl) (hz : X.env.scope.names.lookup z = some .local := by rfl)
    (hs : swapsWithSole [.Tuple [.Name x px, .Name y py, .Name z pz] kt pt] (.Tuple [a, b, e3] k2 pt2) pos.line X.env = pure false := by rfl) :
    DS X W (.Assign [.Tuple [.Name x px, .Name y py, .Name z pz] kt pt] (.Tuple [a, b, e3] k2 pt2) pos) (par3S i j l fl) := fun c ρ m σ H En r s w =>
  wst_of (ps_par3 hc hN hi hj hl hij hil hjl hx hy hz pa_w hw hs) (ha.thenS r s w fun ds m1 c1 vs H1 r1 s1 g1 h1 w1 => by
    split at w1
    · unfold VDs at h1
      obtain ⟨v, r0, e1, h2, h3⟩ := h1
      obtain ⟨v', v'', e2, h4, h5⟩ := VDs.two h3
      subst e1 e2
      exact ⟨v, v', v'', rfl, w1 c1 _ H1 (Gd.refl r1) (((s1.set i h2).set j h4).set l h5)⟩
    · exact w1.elim)
/-! ### targets -/
structure WG (X : Cx) (tg : Expr) (v : V) (σ : St) (H : Hp) (R : St → Hp → Prop) : Prop where
  go : ∀ (pins : List (Addr × Obj)) (s : Shared) (u : Value), Inv X pins σ H s → RelV v u → wpAny (model X.prog X.w) X.A (assign tg X.env u) (fun _ s' => ∃ σ' H', Inv X pins σ' H' s' ∧ R σ' H') X.xe s
theorem pg_w {tg : Expr} : PG X tg (WG X tg) := ⟨fun pins s σ H v u Q I r h => h.go pins s u I r⟩
theorem wg_of {tg : Expr} {t : TG} {v : V} {R : St → Hp → Prop} (h : PG X tg t) (q : t v σ H R) : WG X tg v σ H R := ⟨fun pins s u I r => h.run pins s σ H v u R I r q⟩
abbrev FG := Dn.D → Rho → Store → SRes
def endN (R : St → Hp → Prop) : Ends := { nx := R, rt := fun _ _ => False }
def DG (X : Cx) (W : WX) (tg : Expr) (ga : FG) : Prop := ∀ (c : Anc) (ρ : Rho) (m : Store) (σ : St) (H : Hp) (v : V) (d : Dn.D) (En : Ends), RelS X.kw c m H → Slo X.kw H c ρ σ → VD X.kw H c v d → WantS X W c H (ga d ρ m) En → WG X tg v σ H En.nx
def nameG (i : Nat) : FG := fun d ρ m => .nx (ρ.set i (some d)) m
theorem dg_name (i : Nat) {x : Str} (hN : X.N.Nodup) (hi : X.N[i]? = some x := by rfl) (hx : Loc X.env.scope x := by first | exact Or.inl rfl | exact Or.inr rfl) (hf : X.fn x = true ∨ X.env.scope.names.lookup x = some .local := by first | exact .inl rfl | exact .inr rfl | assumption) : DG X W (.Name x pos) (nameG i) :=
  fun c ρ m σ H v d En r s hv w => wg_of (pg_name hN hi hx hf) (w c _ H (Gd.refl r) (s.set i hv))
/-- several names -/
structure WGs (X : Cx) (ts : List Expr) (vs : List V) (σ : St) (H : Hp) (R : St → Hp → Prop) : Prop where
  go : ∀ (pins : List (Addr × Obj)) (s : Shared) (us : List Value), Inv X pins σ H s → Vals vs us → wpAny (model X.prog X.w) X.A (assignInOrder ((assignEach ts X.env).map (·.2)) us) (fun _ s' => ∃ σ' H', Inv X pins σ' H' s' ∧ R σ' H') X.xe s
theorem pgs_w {ts : List Expr} : PGs X ts (WGs X ts) := ⟨fun pins s σ H v u Q I r h => h.go pins s u I r⟩
theorem wgs_of {ts : List Expr} {t : TGs} {v : List V} {R : St → Hp → Prop} (h : PGs X ts t) (q : t v σ H R) : WGs X ts v σ H R := ⟨fun pins s u I r => h.run pins s σ H v u R I r q⟩
abbrev FGs := List Dn.D → Rho → Store → SRes
def DGs (X : Cx) (W : WX) (ts : List Expr) (ga : FGs) : Prop := ∀ (c : Anc) (ρ : Rho) (m : Store) (σ : St) (H : Hp) (v : List V) (d : List Dn.D) (En : Ends), RelS X.kw c m H → Slo X.kw H c ρ σ → VDs X.kw H c v d → WantS X W c H (ga d ρ m) En → WGs X ts v σ H En.nx
def nilG : FGs := fun ds ρ m => match ds with
  | [] => .nx ρ m
  | _ => .stuck
def consG (g : FG) (h : FGs) : FGs := fun ds ρ m => match ds with
  | d :: r => (g d ρ m).seq (h r)
  | _ => .stuck
theorem dgs_nil : DGs X W [] nilG := fun c ρ m σ H v d En r s hv w => by
  cases d with
  | nil => unfold VDs at hv; subst hv; exact wgs_of pgs_nil ⟨rfl, w.now r s⟩
  | cons => exact w.elim
theorem dgs_cons {ts : List Expr} {g : FG} {h : FGs} (h1 : DG X W e g) (h2 : DGs X W ts h) (hs : (assignEach (e :: ts) X.env).map (·.2) = assign e X.env :: (assignEach ts X.env).map (·.2) := by rfl) : DGs X W (e :: ts) (consG g h) := fun c ρ m σ H v d En r s hv w => by
  cases d with
  | nil => exact w.elim
  | cons d ds =>
    unfold VDs at hv
    obtain ⟨v1, vr, e1, hv1, hvr⟩ := hv
    subst e1
    refine wgs_of (pgs_cons pg_w pgs_w hs) ⟨v1, vr, rfl, ?_⟩
    refine h1 c ρ m σ H v1 d { nx := fun σ' H' => WGs X ts vr σ' H' En.nx, rt := En.rt, bk := En.bk, ct := En.ct } r s hv1 ?_
    change WantS X W c H ((g d ρ m).seq (h ds)) En at w
    cases q : g d ρ m with
    | nx ρ1 m1 => rw [q] at w; exact fun c1 σ1 H1 g1 s1 => h2 c1 ρ1 m1 σ1 H1 vr ds En g1.rel s1 (g1.vds hvr) (WantS.shift g1 w)
    | rt x m1 => rw [q] at w; exact w
    | bk x m1 => rw [q] at w; exact w
    | ct x m1 => rw [q] at w; exact w
    | exc y x m1 => rw [q] at w; exact w
    | stuck => rw [q] at w; exact w
def tupG (n : Nat) (h : FGs) : FG := fun d ρ m => match tupOf d with
  | some ds => if ds.length = n then h ds ρ m else .stuck
  | none => .stuck
theorem dg_tup {ts : List Expr} {k n : Nat} {h : FGs} (h1 : DGs X W ts h) (hc : X.calm = true := by rfl) (hn : (assignEach ts X.env).length = n := by rfl) (hst : (assignEach ts X.env).findIdx? (·.1) = none := by rfl) : DG X W (.Tuple ts k pos) (tupG n h) := fun c ρ m σ H v d En r s hv w => by
  unfold tupG at w
  cases q : tupOf d with
  | none => rw [q] at w; exact w.elim
  | some ds =>
    rw [q] at w
    obtain ⟨a, vs, e1, h2, h3⟩ := tupOf_ok hv q
    change WantS X W c H (if ds.length = n then h ds ρ m else .stuck) En at w
    by_cases hl : ds.length = n
    · rw [if_pos hl] at w
      exact wg_of (pg_tup hc pgs_w hn hst) ⟨a, vs, e1, h2, by rw [h3.length]; exact hl, h1 c ρ m σ H vs ds En r s h3 w⟩
    · rw [if_neg hl] at w; exact w.elim
def asgS (f : FE) (g : FG) : FS := fun ρ m => (f ρ m).bindS ρ fun d m1 => g d ρ m1
theorem ds_asg {tg : Expr} {g : FG} (he : DE X W e f) (hg : DG X W tg g) (hs : swapsWithSole [tg] e pos.line X.env = pure false := by rfl) (hw : swappedStores [tg] e X.env = pure none := by rfl) (h1 : (assignEach [tg] X.env).map (·.2) = [assign tg X.env] := by rfl) : DS X W (.Assign [tg] e pos) (asgS f g) := fun c ρ m σ H En r s w =>
  wst_of (ps_asg pe_w pg_w hs hw h1) (he.thenS r s w fun d m1 c1 v H1 r1 s1 g1 h1 w1 => hg c1 ρ m1 σ H1 v d En r1 s1 h1 w1)
/-- o[i] = .., a list -/
def okIn (d : Dn.D) : Ix → Bool
  | .g _ => Dn.nl d
  | .l _ => Dn.nx d
def setItemD (o i d : Dn.D) (m : Store) : Option Store := match o, i with
  | .cell x, .p (.int k) => match m.at_ x with
    | some (.lst xs) => match ixN xs.length k with
      | some j => if okIn d x then some (m.set (.lst (xs.set j d)) x) else none
      | none => none
    | _ => none
  | _, _ => none
theorem VD.forI {K : KW} {v : V} {d : Dn.D} {x : Ix} (h : VD K H c v d) (hn : okIn d x = true) : VD K.cold H (forI c x) v d := by
  cases x with
  | g i => exact (VD.nl d h hn).cold (nx_of_nl d hn)
  | l i => exact h.cold hn
theorem setItemD_ok {vo vi v : V} {o i d : Dn.D} {m2 : Store} {R : Hp → Prop} (r : RelS X.kw c m H) (ho : VD X.kw H c vo o) (hi : VD X.kw H c vi i) (hd : VD X.kw H c v d) (e : setItemD o i d m = some m2) (q : ∀ H', Gd X.kw c c m2 H H' → R H') : rSetL vo vi v H R := by
  unfold setItemD at e
  split at e
  · rename_i x k
    split at e
    · rename_i xs hm
      split at e
      · rename_i j hj
        split at e
        · rename_i hn
          cases e
          unfold VD at ho
          obtain ⟨a, h1, h2⟩ := ho
          obtain ⟨vs, h3, h4⟩ := r.at_ x a _ h1 hm
          refine ⟨a, vs, k, j, h2, VD.int.mp hi, h3, by rw [h4.length]; exact hj, ?_⟩
          exact q _ (r.put h1 hm h3 (h4.set (VD.forI hd hn) j))
        · cases e
      · cases e
    · cases e
  · cases e
/-- o[i] = v, by data -/
abbrev SetD := Dn.D → Dn.D → Dn.D → Store → Option Store
def rSetOf (K : KW) (st : SetD) : V → V → V → Hp → (Hp → Prop) → Prop := fun o i v H R => ∃ (c : Anc) (m m' : Store) (do_ di dd : Dn.D), RelS K c m H ∧ VD K H c o do_ ∧ VD K H c i di ∧ VD K H c v dd ∧ st do_ di dd m = some m' ∧ ∀ H', Gd K c c m' H H' → R H'
theorem set_L : PSet X (rSetOf X.kw setItemD) := fun pins s σ H o i v ov iv u Q I ro ri rv ⟨c, m, m', do_, di, dd, r, h1, h2, h3, e, q⟩ =>
  set_list pins s σ H o i v ov iv u Q I ro ri rv (setItemD_ok r h1 h2 h3 e q)
def subG (st : SetD) (fo fi : FE) : FG := fun d ρ m => (fo ρ m).bindS ρ fun o m1 => (fi ρ m1).bindS ρ fun i m2 => match st o i d m2 with
  | some m3 => .nx ρ m3
  | none => .stuck
theorem dg_sub {st : SetD} {o i : Expr} {fo fi : FE} (hst : PSet X (rSetOf X.kw st)) (ho : DE X W o fo) (hi : DE X W i fi)
    (ha : ∀ v, assign (.Subscript o i pos) X.env v = (do
      let ov ← holding [v] (eval o X.env)
      let iv ← holding [v, ov] (eval i X.env)
      standAt pos
      holding [v, ov, iv] (setItem ov iv v)
      release [v, ov, iv] []) := by intro _; rfl) : DG X W (.Subscript o i pos) (subG st fo fi) := fun c ρ m σ H v d En r s hv w =>
  wg_of (pg_sub pe_w pe_w hst ha) (ho.thenS r s w fun x m1 c1 vx H1 r1 s1 g1 h1 w1 => hi.thenS r1 s1 w1 fun y m2 c2 vy H2 r2 s2 g2 h2 w2 => by
    split at w2
    · rename_i m3 e
      exact ⟨c2, m2, m3, x, y, d, r2, g2.vd h1, h2, g2.vd (g1.vd hv), e, fun H' g3 => w2 c2 σ H' g3 (g3.slots s2)⟩
    · exact w2.elim)
end
end L2.Dn
namespace L2.Dn
open PySem PySem.Spec PyProof.Rows L2
/-! ### walks over frozen dicts of any keys -/
abbrev EsE := List (NestedKey × V × V)
def EnR (w : World) (e : NestedKey × V × V) (x : DictEntry) : Prop := x.hash = e.1.hash w ∧ RelV e.2.1 x.key ∧ RelV e.2.2 x.val
/-- under one lock, or under two -/
def lk2 (b : Bool) (o : Obj) (u : HO) : HO := if b then .frz o u else u
theorem _root_.L2.Inv.frzG {X : Cx} {pins : List (Addr × Obj)} {σ : St} {H : Hp} {s : Shared} {d : Addr} {o : Obj} {b : Bool} {es : EsE} (I : Inv X pins σ H s) (h : H d = some (.frz o (lk2 b o (gdO X.w d es)))) :
    (d == sysModules) = false ∧ ∃ (ens : Array DictEntry) (ep : Nat), o.data = .dict ens ep ∧ s.heap.DictRaw d ens ep ∧ ens.size = es.length ∧ Paired (EnR X.w) es ens.toList := by
  have z : ObjOk X.prog X.w H s.heap d (.frz o (gdO X.w d es)) := by
    have z := I.hok d _ h
    cases b with
    | false => exact z
    | true => exact z.2
  unfold gdO at z
  obtain ⟨e1, ⟨o', ens, ep, h0, h1, h2, h3, h4⟩, _⟩ := z
  rw [e1] at h1
  cases h1
  have l : es.length = ens.toList.length := Paired.length h4
  exact ⟨h0, ens, ep, h3, ⟨o, e1, h2, h3⟩, by simpa using l.symm, h4⟩
theorem en_get {w : World} {es : EsE} {ens : Array DictEntry} (p : Paired (EnR w) es ens.toList) {i : Nat} (hi : i < es.length) (hj : i < ens.size) : EnR w es[i] ens[i] := by
  obtain ⟨b, h1, h2⟩ := paired_get p (List.getElem?_eq_getElem hi)
  rw [Array.getElem?_toList, Array.getElem?_eq_getElem hj] at h1
  cases h1
  exact h2
theorem data_ep {o : Obj} {es es' : Array DictEntry} {ep ep' : Nat} (h : o.data = .dict es ep) (h' : o.data = .dict es' ep') : es' = es ∧ ep' = ep := by
  have := h.symm.trans h'
  cases this
  exact ⟨rfl, rfl⟩
/-- the keys -/
def ItKg (w : World) (d : Addr) (o : Obj) (b : Bool) (es : EsE) : It :=
  ⟨fun i H => H d = some (.frz o (lk2 b o (gdO w d es))) ∧ i < es.length, fun i H x H' => H' = H ∧ ∃ e, es[i]? = some e ∧ x = e.2.1, fun i H => H d = some (.frz o (lk2 b o (gdO w d es))) ∧ es.length ≤ i⟩
/-- the values -/
def ItVg (w : World) (d : Addr) (o : Obj) (b : Bool) (es : EsE) : It :=
  ⟨fun i H => H d = some (.frz o (lk2 b o (gdO w d es))) ∧ i < es.length, fun i H x H' => H' = H ∧ ∃ e, es[i]? = some e ∧ x = e.2.2, fun i H => H d = some (.frz o (lk2 b o (gdO w d es))) ∧ es.length ≤ i⟩
/-- the pairs -/
def ItIg (w : World) (d : Addr) (o : Obj) (b : Bool) (es : EsE) : It :=
  ⟨fun i H => H d = some (.frz o (lk2 b o (gdO w d es))) ∧ i < es.length, fun i H x H' => ∃ T e, es[i]? = some e ∧ x = .ref T ∧ H T = none ∧ H' = upd H T (.tup [e.2.1, e.2.2]), fun i H => H d = some (.frz o (lk2 b o (gdO w d es))) ∧ es.length ≤ i⟩
section
variable {P : Program} {w : World} {K : PySem.W.Frag} {tg : Expr} {d : Addr} {o : Obj} {ens : Array DictEntry} {ep : Nat}
theorem turn_Kg {es : EsE} {b : Bool} (it : Addr) (hod : o.data = .dict ens ep) : Turn P w K tg (ItKg w d o b es) [it] it (fun i h => h.IsKeyIter it d i es.length ep) where
  mem := List.mem_singleton.mpr rfl
  obj := fun i h st b hb => by
    obtain rfl := List.mem_singleton.mp hb
    obtain ⟨oi, e1, _, e2⟩ := st
    exact ⟨oi, e1, fun v z => nomatch (e2.symm.trans z)⟩
  keep := fun i h h' st k => st.at fun oi e => k it (List.mem_singleton.mpr rfl) oi e
  item := by
    intro X hP hw hK hc i pins s σ H E I hf st hg
    cases hP; cases hw; cases hK
    obtain ⟨q1, q2⟩ := hg
    obtain ⟨f0, f1, f2, f3, f4, f5⟩ := hf it (List.mem_singleton.mpr rfl)
    obtain ⟨z0, ens', ep', z1, z2, z3, z4⟩ := I.frzG q1
    obtain ⟨rfl, rfl⟩ := data_ep hod z1
    have hj : i < ens'.size := by omega
    have en := en_get z4 q2 hj
    have st' : s.heap.IsKeyIter it d i ens'.size ep' := by rw [z3]; exact st
    refine wpAny_pyNext_keys_item_raw st' z2 hj fun h1 i1 sb => ?_
    have J : Inv X pins σ H { s with heap := h1 } := I.turned (t' := s.toks) (fun b ob hb e => (sb.2 b hb).trans e) f0 f1 f3 f4 f5
    obtain ⟨oi, e1, e2, e3⟩ := id i1
    exact ⟨_, rfl, go_of (s := { s with heap := h1 }) e1 e2 e3 (by decide) ⟨es[i].2.1, H, J, en.2.1, ⟨rfl, _, List.getElem?_eq_getElem q2, rfl⟩, by rw [← z3]; exact i1, fun b hb => (hf b hb).1⟩⟩
  done := by
    intro X hP hw hK hc i pins s σ H E I hf st hg
    cases hP; cases hw; cases hK
    obtain ⟨q1, q2⟩ := hg
    obtain ⟨f0, f1, f2, f3, f4, f5⟩ := hf it (List.mem_singleton.mpr rfl)
    obtain ⟨z0, ens', ep', z1, z2, z3, z4⟩ := I.frzG q1
    obtain ⟨rfl, rfl⟩ := data_ep hod z1
    have st' : s.heap.IsKeyIter it d i ens'.size ep' := by rw [z3]; exact st
    exact wpAny_pyNext_keys_end_raw (I.ok.hd hc) st' z2 (by omega) fun h1 eb => ⟨rfl, I.turned (t' := s.toks) (fun b ob hb e => eb b ob hb e) f0 f1 f3 f4 f5⟩
  self := fun A i s Q E st h => wpAny_pyIter_keyiter st h
theorem turn_Vg {es : EsE} {b : Bool} (it : Addr) (hod : o.data = .dict ens ep) : Turn P w K tg (ItVg w d o b es) [it] it (fun i h => h.IsValIter it d i es.length ep) where
  mem := List.mem_singleton.mpr rfl
  obj := fun i h st b hb => by
    obtain rfl := List.mem_singleton.mp hb
    obtain ⟨oi, e1, _, e2⟩ := st
    exact ⟨oi, e1, fun v z => nomatch (e2.symm.trans z)⟩
  keep := fun i h h' st k => st.at fun oi e => k it (List.mem_singleton.mpr rfl) oi e
  item := by
    intro X hP hw hK hc i pins s σ H E I hf st hg
    cases hP; cases hw; cases hK
    obtain ⟨q1, q2⟩ := hg
    obtain ⟨f0, f1, f2, f3, f4, f5⟩ := hf it (List.mem_singleton.mpr rfl)
    obtain ⟨z0, ens', ep', z1, z2, z3, z4⟩ := I.frzG q1
    obtain ⟨rfl, rfl⟩ := data_ep hod z1
    have hj : i < ens'.size := by omega
    have en := en_get z4 q2 hj
    have st' : s.heap.IsValIter it d i ens'.size ep' := by rw [z3]; exact st
    refine wpAny_pyNext_values_item_raw st' z2 hj fun h1 i1 sb => ?_
    have J : Inv X pins σ H { s with heap := h1 } := I.turned (t' := s.toks) (fun b ob hb e => (sb.2 b hb).trans e) f0 f1 f3 f4 f5
    obtain ⟨oi, e1, e2, e3⟩ := id i1
    exact ⟨_, rfl, go_of (s := { s with heap := h1 }) e1 e2 e3 (by decide) ⟨es[i].2.2, H, J, en.2.2, ⟨rfl, _, List.getElem?_eq_getElem q2, rfl⟩, by rw [← z3]; exact i1, fun b hb => (hf b hb).1⟩⟩
  done := by
    intro X hP hw hK hc i pins s σ H E I hf st hg
    cases hP; cases hw; cases hK
    obtain ⟨q1, q2⟩ := hg
    obtain ⟨f0, f1, f2, f3, f4, f5⟩ := hf it (List.mem_singleton.mpr rfl)
    obtain ⟨z0, ens', ep', z1, z2, z3, z4⟩ := I.frzG q1
    obtain ⟨rfl, rfl⟩ := data_ep hod z1
    have st' : s.heap.IsValIter it d i ens'.size ep' := by rw [z3]; exact st
    exact wpAny_pyNext_values_end_raw (I.ok.hd hc) st' z2 (by omega) fun h1 eb => ⟨rfl, I.turned (t' := s.toks) (fun b ob hb e => eb b ob hb e) f0 f1 f3 f4 f5⟩
  self := fun A i s Q E st h => wpAny_pyIter_valiter st h
theorem turn_Ig {es : EsE} {b : Bool} {elts : List Expr} {kk : Nat} {tpos : Pos} (it : Addr) (hod : o.data = .dict ens ep) :
    Turn P w K (.Tuple elts kk tpos) (ItIg w d o b es) [it] it (fun i h => ∃ ok ov, IsItemIter h it d i es.length ep ok ov) where
  mem := List.mem_singleton.mpr rfl
  obj := fun i h st b hb => by
    obtain rfl := List.mem_singleton.mp hb
    obtain ⟨ok, ov, e1⟩ := st
    exact ⟨_, e1, fun v z => nomatch z⟩
  keep := fun i h h' ⟨ok, ov, e⟩ k => ⟨ok, ov, k it (List.mem_singleton.mpr rfl) _ e⟩
  item := by
    intro X hP hw hK hc i pins s σ H E I hf st hg
    cases hP; cases hw; cases hK
    obtain ⟨q1, q2⟩ := hg
    obtain ⟨z0, ens', ep', z1, z2, z3, z4⟩ := I.frzG q1
    obtain ⟨rfl, rfl⟩ := data_ep hod z1
    have hj : i < ens'.size := by omega
    have en := en_get z4 q2 hj
    obtain ⟨ok, ov, he⟩ := st
    have he' : IsItemIter s.heap it d i ens'.size ep' ok ov := by rw [z3]; exact he
    have hlt : it < s.heap.objs.size := Heap.lt_size he
    refine wpAny_pyNext_items_item_raw he' z2 hj fun h1 y1 y2 y3 y4 => ?_
    refine ⟨_, rfl, wpAny_letOwnedTupleGo_items (s := { s with heap := h1 }) y1 fun h2 x1 sb => ?_⟩
    have hT := (sb.2 _ (Nat.ne_of_gt hlt)).trans y2
    have new : ObjOk X.prog X.w (upd H s.heap.objs.size (.tup [es[i].2.1, es[i].2.2])) h2 s.heap.objs.size (.tup [es[i].2.1, es[i].2.2]) :=
      ⟨show 2 ≤ sizeLine by decide, [ens'[i].key, ens'[i].val], .cons en.2.1 (.cons en.2.2 .nil), ⟨_, hT, rfl, _, rfl⟩⟩
    have J : Inv X pins σ (upd H s.heap.objs.size (.tup [es[i].2.1, es[i].2.2])) { s with heap := h2 } :=
      I.turnedNew (t' := s.toks) (ch := [it]) (fun b ob hb e => (sb.2 b (fun z => hb (List.mem_singleton.mpr z))).trans (y4 b ob (fun z => hb (List.mem_singleton.mpr z)) e)) hf (Nat.le_refl _) new
    refine ⟨.ref s.heap.objs.size, _, J, rfl, ⟨_, _, List.getElem?_eq_getElem q2, rfl, I.hok.fresh (Nat.le_refl _), rfl⟩, ⟨_, _, by rw [← z3]; exact x1⟩, fun b hb => ?_⟩
    obtain rfl := List.mem_singleton.mp hb
    rw [upd_ne (Nat.ne_of_lt hlt)]
    exact (hf b hb).1
  done := by
    intro X hP hw hK hc i pins s σ H E I hf st hg
    cases hP; cases hw; cases hK
    obtain ⟨q1, q2⟩ := hg
    obtain ⟨f0, f1, f2, f3, f4, f5⟩ := hf it (List.mem_singleton.mpr rfl)
    obtain ⟨z0, ens', ep', z1, z2, z3, z4⟩ := I.frzG q1
    obtain ⟨rfl, rfl⟩ := data_ep hod z1
    obtain ⟨ok, ov, he⟩ := st
    have he' : IsItemIter s.heap it d i ens'.size ep' ok ov := by rw [z3]; exact he
    exact wpAny_pyNext_items_end_raw (I.ok.hd hc) he' z2 (by omega) fun h1 eb => ⟨rfl, I.turned (t' := s.toks) (fun b ob hb e => eb b ob hb e) f0 f1 f3 f4 f5⟩
  self := fun A i s Q E ⟨_, _, e⟩ h => PySem.W.kcp_self e h
end
def iKg (w : World) (td : TE) : TI := fun σ H R => td σ H fun x H1 => ∃ d o b es, x = .ref d ∧ H1 d = some (.frz o (lk2 b o (gdO w d es))) ∧ R (ItKg w d o b es) H1
def iVg (w : World) (td : TE) : TI := fun σ H R => td σ H fun x H1 => ∃ d o b es, x = .ref d ∧ H1 d = some (.frz o (lk2 b o (gdO w d es))) ∧ R (ItVg w d o b es) H1
def iIg (w : World) (td : TE) : TI := fun σ H R => td σ H fun x H1 => ∃ d o b es, x = .ref d ∧ H1 d = some (.frz o (lk2 b o (gdO w d es))) ∧ R (ItIg w d o b es) H1
section
variable {X : Cx} {tg e : Expr} {td : TE} {apos cpos : Pos}
theorem pi_Kg (he : PE X e td) : PI X tg e (iKg X.w td) := by
  refine ⟨fun pins s σ H R I h => thn (he.run pins s σ H _ I h) ?_⟩
  rintro u s1 ⟨x, H1, J, rx, d, o, b, es, rfl, q1, q2⟩
  cases rx
  obtain ⟨z0, ens, ep, z1, z2, z3, z4⟩ := J.frzG q1
  refine wpAny_pyIter_dict_raw z0 z2 (pi_one (tk := s1.toks) J _ (turn_Kg _ z1) ⟨_, Heap.get?_push_size _ rfl, rfl, ?_⟩ q2)
  rw [z3] <;> rfl
theorem DictRaw.pushed {h : Heap} {d : Addr} {es : Array DictEntry} {ep : Nat} (x : h.DictRaw d es ep) (o : Obj) : (h.push o).DictRaw d es ep := x.at fun _ e => Heap.get?_push_of_some _ e
theorem raw_noDict {h : Heap} {d : Addr} {es : Array DictEntry} {ep : Nat} (x : h.DictRaw d es ep) : ∀ b, Value.ref d = .ref b → ∃ ob, h.get? b = some ob ∧ ob.dict = none := fun b z => by
  cases z
  obtain ⟨o, h1, h2, h3⟩ := x
  exact ⟨o, h1, h2.2.1⟩
theorem pi_Vg (he : PE X e td) (hbase : attributeBase e "values" X.env (eval e X.env) = eval e X.env := by rfl) (hline : (apos.endLine == cpos.line) = true := by rfl) :
    PI X tg (.Call (.Attribute e "values" apos) [] [] cpos) (iVg X.w td) := by
  refine ⟨fun pins s σ H R I h => wpAny_Call_method (T := "dict") (id := "dict.values") hbase rfl hline F.plainAttrs_dict F.slot_dict_values F.type_dict_values (thn (he.run pins s σ H _ I h) ?_)⟩
  rintro u s1 ⟨x, H1, J, rx, d, o, b, es, rfl, q1, q2⟩
  cases rx
  obtain ⟨z0, ens, ep, z1, z2, z3, z4⟩ := J.frzG q1
  refine ⟨z2.typeIs, raw_noDict z2, ?_⟩
  have J2 : Inv X pins σ H1 { s1 with heap := s1.heap.push ⟨.type "dict_values", none, .fields #[.ref d], #[]⟩ } := J.kept (t' := s1.toks) fun b ob q => Heap.get?_push_of_some _ q
  have go : wpAny (model X.prog X.w) X.A (pyIter (.ref s1.heap.objs.size)) (PIE X pins σ tg R) X.xe { s1 with heap := s1.heap.push ⟨.type "dict_values", none, .fields #[.ref d], #[]⟩ } := by
    refine wpAny_pyIter_values_raw (d := d) ⟨_, Heap.get?_push_size _ rfl, rfl, rfl⟩ (DictRaw.pushed z2 _) (pi_one (tk := s1.toks) J2 _ (turn_Vg _ z1) ⟨_, Heap.get?_push_size _ rfl, rfl, ?_⟩ q2)
    rw [z3] <;> rfl
  show wpAny _ _ (callWith cpos (.builtin "dict.values") [.ref d] [] []) _ X.xe s1
  exact method_meetsIn F.slot_dict_values F.entry_dict_values rfl (PySem.evalArgs_none ⟨rfl, z2.typeIs, F.args_dict_values_1 _, _, meets_dict_values_raw d z0, ⟨ens, ep, z2⟩, go⟩)
theorem pi_Ig {elts : List Expr} {kk : Nat} {tpos : Pos} (he : PE X e td) (hbase : attributeBase e "items" X.env (eval e X.env) = eval e X.env := by rfl) (hline : (apos.endLine == cpos.line) = true := by rfl) :
    PI X (.Tuple elts kk tpos) (.Call (.Attribute e "items" apos) [] [] cpos) (iIg X.w td) := by
  refine ⟨fun pins s σ H R I h => wpAny_Call_method (T := "dict") (id := "dict.items") hbase rfl hline F.plainAttrs_dict F.slot_dict_items F.type_dict_items (thn (he.run pins s σ H _ I h) ?_)⟩
  rintro u s1 ⟨x, H1, J, rx, d, o, b, es, rfl, q1, q2⟩
  cases rx
  obtain ⟨z0, ens, ep, z1, z2, z3, z4⟩ := J.frzG q1
  refine ⟨z2.typeIs, raw_noDict z2, ?_⟩
  have J2 : Inv X pins σ H1 { s1 with heap := s1.heap.push ⟨.type "dict_items", none, .fields #[.ref d], #[]⟩ } := J.kept (t' := s1.toks) fun b ob q => Heap.get?_push_of_some _ q
  have go : wpAny (model X.prog X.w) X.A (pyIter (.ref s1.heap.objs.size)) (PIE X pins σ (.Tuple elts kk tpos) R) X.xe { s1 with heap := s1.heap.push ⟨.type "dict_items", none, .fields #[.ref d], #[]⟩ } := by
    refine wpAny_pyIter_items_raw (d := d) ⟨_, Heap.get?_push_size _ rfl, rfl, rfl⟩ (DictRaw.pushed z2 _) (pi_one (tk := s1.toks) J2 _ (turn_Ig _ z1) ⟨.none, .none, ?_⟩ q2)
    rw [← z3]
    exact Heap.get?_push_size _ rfl
  show wpAny _ _ (callWith cpos (.builtin "dict.items") [.ref d] [] []) _ X.xe s1
  exact method_meetsIn F.slot_dict_items F.entry_dict_items rfl (PySem.evalArgs_none ⟨rfl, z2.typeIs, F.args_dict_items_1 _, _, meets_dict_items_raw d z0, ⟨ens, ep, z2⟩, go⟩)
end
end L2.Dn
namespace L2.Dn
open PySem PySem.Spec PyProof.Rows L2
/-! ### what is walked -/
def ItD (K : KW) (c : Anc) (H : Hp) (J : It) (ds : List D) : Prop := ∀ (c' : Anc) (m' : Store) (H' : Hp), Pre c c' → Ext H H' → RelS K c' m' H' → ∀ i : Nat,
  (∀ d, ds[i]? = some d → J.go i H' ∧ ∀ x H'', J.yld i H' x H'' → Gd K c' c' m' H' H'' ∧ (∀ b o, H' b = some o → H'' b = some o) ∧ VD K H'' c' x d) ∧ (ds.length ≤ i → J.stop i H')
structure WI (X : Cx) (tg iter : Expr) (σ : St) (H : Hp) (R : It → Hp → Prop) : Prop where
  go : ∀ (pins : List (Addr × Obj)) (s : Shared), Inv X pins σ H s → wpAny (model X.prog X.w) X.A (eval iter X.env) (fun v s1 => wpAny (model X.prog X.w) X.A (pyIter v) (PIE X pins σ tg R) X.xe s1) X.xe s
def WantI (X : Cx) (W : WX) (c : Anc) (H : Hp) (σ : St) (r : Res (List D)) (R : It → Hp → Prop) : Prop := match r with
  | .ok ds m' => ∀ c' J H', Gd X.kw c c' m' H H' → ItD X.kw c' H' J ds → R J H'
  | .exc x m' => ∀ c' cls dd H', Gd X.kw c c' m' H H' → ExcV X.kw H' c' x cls dd → W cls dd σ H'
  | .stuck => False
abbrev FI := Rho → Store → Res (List D)
def DI (X : Cx) (W : WX) (tg iter : Expr) (fi : FI) : Prop := ∀ (c : Anc) (ρ : Rho) (m : Store) (σ : St) (H : Hp) (R : It → Hp → Prop), RelS X.kw c m H → Slo X.kw H c ρ σ → WantI X W c H σ (fi ρ m) R → WI X tg iter σ H R
section
variable {X : Cx} {W : WX} {a b e tg iter : Expr} {es : List Expr} {fa fb f : FE} {pos p : Pos} {c c' : Anc} {ρ : Rho} {m m' : Store} {σ : St} {H H' : Hp}
theorem pi_w : PI X tg iter (WI X tg iter) := ⟨fun pins s σ H R I h => h.go pins s I⟩
theorem wi_of {t : TI} {R : It → Hp → Prop} (h : PI X tg iter t) (q : t σ H R) : WI X tg iter σ H R := ⟨fun pins s I => h.run pins s σ H R I q⟩
theorem VDs.at_ {K : KW} {vs : List V} {ds : List D} {i : Nat} {d : D} {v : V} (h : VDs K H c vs ds) (e : ds[i]? = some d) (e2 : vs[i]? = some v) : VD K H c v d := by
  obtain ⟨v', h1, h2⟩ := h.get e
  rw [e2] at h1
  cases h1
  exact h2
theorem itd_list {K : KW} {a : Addr} {vs : List V} {ds : List D} (hf : FzL K H a vs) (hv : VDs K H c vs ds) : ItD K c H (Itl K a) ds := fun c' m' H' p ex r i => by
  have f := hf.ext ex
  have hv' := VDs.mono ex p _ hv
  refine ⟨fun d e => ?_, fun hl => ⟨vs, f.sq, by rw [hv.length]; exact hl⟩⟩
  obtain ⟨v, h1, h2⟩ := hv'.get e
  refine ⟨⟨vs, v, f.sq, h1⟩, fun x H'' y => ?_⟩
  obtain ⟨e1, y⟩ := y
  subst e1
  exact ⟨Gd.refl r, fun _ _ e => e, hv'.at_ e (y vs f.sq)⟩
theorem itd_tup {K : KW} {a : Addr} {vs : List V} {ds : List D} (hf : SqT K H a vs) (hv : VDs K H c vs ds) : ItD K c H (Itt K a) ds := fun c' m' H' p ex r i => by
  have f := SqT.ext hf ex
  have hv' := VDs.mono ex p _ hv
  refine ⟨fun d e => ?_, fun hl => ⟨vs, f, by rw [hv.length]; exact hl⟩⟩
  obtain ⟨v, h1, h2⟩ := hv'.get e
  refine ⟨⟨vs, v, f, h1⟩, fun x H'' y => ?_⟩
  obtain ⟨e1, y⟩ := y
  subst e1
  exact ⟨Gd.refl r, fun _ _ e => e, hv'.at_ e (y vs f)⟩
def signs (x : Str) : List D := x.cps.toList.map fun n => .p (.str ⟨#[n]⟩)
theorem itd_str {K : KW} {x : Str} : ItD K c H (Its x) (signs x) := fun c' m' H' p ex r i => by
  refine ⟨fun d e => ?_, fun hl => by show x.cps.size ≤ i; simpa [signs] using hl⟩
  simp only [signs, List.getElem?_map, Option.map_eq_some_iff, Array.getElem?_toList] at e
  obtain ⟨n, h1, h2⟩ := e
  refine ⟨(Array.getElem?_eq_some_iff.mp h1).1, fun v H'' y => ?_⟩
  obtain ⟨e1, n', h3, h4⟩ := y
  rw [h1] at h3
  cases h3
  subst e1 h4 h2
  exact ⟨Gd.refl r, fun _ _ e => e, VD.str.mpr rfl⟩
def rngL (lo : Int) (n : Nat) : List D := (List.range n).map fun (k : Nat) => .p (.int (lo + (k : Int)))
theorem itd_range {K : KW} {lo : Int} {n : Nat} : ItD K c H (Itr lo n) (rngL lo n) := fun c' m' H' p ex r i => by
  refine ⟨fun d e => ?_, fun hl => by show n ≤ i; simpa [rngL] using hl⟩
  simp only [rngL, List.getElem?_map, Option.map_eq_some_iff] at e
  obtain ⟨k, h1, h2⟩ := e
  have hk := List.getElem?_eq_some_iff.mp h1
  obtain ⟨hk, e1⟩ := hk
  simp at e1 hk
  subst e1
  refine ⟨hk, fun v H'' y => ?_⟩
  obtain ⟨e1, e2⟩ := y
  subst e1 e2 h2
  exact ⟨Gd.refl r, fun _ _ e => e, VD.int.mpr rfl⟩
/-- a frozen dict's keys and values -/
def dctZ : D → Option (List PyData × List D)
  | .p (.dict kvs) => some (kvs.map (·.1), (kvs.map (·.2)).map D.p)
  | .dct ks xs => some (ks, xs)
  | _ => none
theorem dctZ_ok {K : KW} {v : V} {d : D} {ks : List PyData} {xs : List D} (h : VD K H c v d) (e : dctZ d = some (ks, xs)) : ∃ a o es, v = .ref a ∧ H a = some (.frz o (gdO K.w a es)) ∧ DctK K H es ks ∧ VDs K H c (es.map (·.2.2)) xs := by
  unfold dctZ at e
  split at e
  · cases e
    unfold VD at h
    cases h with
    | dG h1 h2 h3 h4 h5 h6 => exact ⟨_, _, _, rfl, h1, ⟨by rw [h2, List.map_map]; rfl, h3, h4, h5⟩, VDs.ofp h6⟩
  · cases e
    unfold VD at h
    exact h
  · cases e
theorem DctK.len {K : KW} {es : EsE} {ks : List PyData} (h : DctK K H es ks) : es.length = ks.length := by
  have := congrArg List.length h.key
  simpa using this
theorem DpZs.get {K : KW} : ∀ {vs : List V} {ds : List PyData} {i : Nat} {d : PyData}, DpZs K H vs ds → ds[i]? = some d → ∃ v, vs[i]? = some v ∧ DpZ K H v d
  | _, _, i, _, .nil, e => by simp at e
  | _, _, 0, _, .cons h _, e => by simp at e; subst e; exact ⟨_, rfl, h⟩
  | _, _, i + 1, _, .cons _ r, e => by
    obtain ⟨v, h1, h2⟩ := DpZs.get (i := i) r (by simpa using e)
    exact ⟨v, by simpa using h1, h2⟩
theorem itd_Kg {K : KW} {a : Addr} {o : Obj} {b : Bool} {es : EsE} {ks : List PyData} (h1 : H a = some (.frz o (lk2 b o (gdO K.w a es)))) (h2 : DctK K H es ks) : ItD K c H (ItKg K.w a o b es) (ks.map D.p) := fun c' m' H' p ex r i => by
  have f := ex _ _ rfl h1
  have k2 := h2.ext ex
  refine ⟨fun d e => ?_, fun hl => ⟨f, by rw [h2.len]; simpa using hl⟩⟩
  rw [List.getElem?_map, Option.map_eq_some_iff] at e
  obtain ⟨k, e1, rfl⟩ := e
  obtain ⟨v, g1, g2⟩ := k2.kd.get e1
  refine ⟨⟨f, by rw [h2.len]; exact (List.getElem?_eq_some_iff.mp e1).1⟩, fun x H'' y => ?_⟩
  obtain ⟨rfl, en, y1, rfl⟩ := y
  refine ⟨Gd.refl r, fun _ _ e => e, ?_⟩
  rw [List.getElem?_map, y1] at g1
  cases g1
  unfold VD
  exact g2
theorem itd_Vg {K : KW} {a : Addr} {o : Obj} {b : Bool} {es : EsE} {xs : List D} (h1 : H a = some (.frz o (lk2 b o (gdO K.w a es)))) (h2 : VDs K H c (es.map (·.2.2)) xs) : ItD K c H (ItVg K.w a o b es) xs := fun c' m' H' p ex r i => by
  have f := ex _ _ rfl h1
  have k2 := VDs.mono ex p _ h2
  have hl : es.length = xs.length := by rw [← h2.length, List.length_map]
  refine ⟨fun d e => ?_, fun hi => ⟨f, by omega⟩⟩
  obtain ⟨v, g1, g2⟩ := k2.get e
  refine ⟨⟨f, by rw [hl]; exact (List.getElem?_eq_some_iff.mp e).1⟩, fun x H'' y => ?_⟩
  obtain ⟨rfl, en, y1, rfl⟩ := y
  refine ⟨Gd.refl r, fun _ _ e => e, ?_⟩
  rw [List.getElem?_map, y1] at g1
  cases g1
  exact g2
def prs (ks : List PyData) (xs : List D) : List D := (ks.zip xs).map fun q => mkTup [.p q.1, q.2]
theorem itd_Ig {K : KW} {a : Addr} {o : Obj} {b : Bool} {es : EsE} {ks : List PyData} {xs : List D} (h1 : H a = some (.frz o (lk2 b o (gdO K.w a es)))) (h2 : DctK K H es ks) (h3 : VDs K H c (es.map (·.2.2)) xs) : ItD K c H (ItIg K.w a o b es) (prs ks xs) := fun c' m' H' p ex r i => by
  have f := ex _ _ rfl h1
  have k2 := h2.ext ex
  have k3 := VDs.mono ex p _ h3
  have hl : es.length = xs.length := by rw [← h3.length, List.length_map]
  have hk := h2.len
  refine ⟨fun d e => ?_, fun hi => ⟨f, by simp only [prs, List.length_map, List.length_zip] at hi; omega⟩⟩
  simp only [prs, List.getElem?_map, Option.map_eq_some_iff] at e
  obtain ⟨q, e1, rfl⟩ := e
  rw [List.getElem?_zip_eq_some] at e1
  obtain ⟨e1, e2⟩ := e1
  obtain ⟨v1, g1, g2⟩ := k2.kd.get e1
  obtain ⟨v2, g3, g4⟩ := k3.get e2
  refine ⟨⟨f, by rw [hk]; exact (List.getElem?_eq_some_iff.mp e1).1⟩, fun x H'' y => ?_⟩
  obtain ⟨T, en, y1, rfl, y2, rfl⟩ := y
  rw [List.getElem?_map, y1] at g1 g3
  cases g1
  cases g3
  have g : Gd K c' c' m' H' (upd H' T (.tup [en.2.1, en.2.2])) := r.lay y2
  refine ⟨g, fun b o e => by rw [upd_ne (ne_of_none e y2)]; exact e, mkTup_ok (vs := [en.2.1, en.2.2]) ?_ (SqT.of upd_same)⟩
  unfold VDs
  exact ⟨_, _, rfl, by unfold VD; exact g2.ext g.ext, VDs.one (g.vd g4)⟩
/-- the items of a frozen list, a tuple, a text, a frozen dict's keys -/
def itemsZ : D → Option (List D)
  | .p (.dict kvs) => some ((kvs.map (·.1)).map D.p)
  | .dct ks _ => some (ks.map D.p)
  | .p (.list ds) => some (ds.map D.p)
  | .lst ds => some ds
  | .p (.tuple ds) => some (ds.map D.p)
  | .tup ds => some ds
  | .p (.str x) => some (signs x)
  | _ => none
def walkI (f : FE) : FI := fun ρ m => (f ρ m).bind fun d m1 => match itemsZ d with
  | some ds => .ok ds m1
  | none => .stuck
/-- a sequence as it is: which rule serves hangs on the datum -/
theorem di_val (h : DE X W e f) : DI X W tg e (walkI f) := fun c ρ m σ H R r s w => by
  unfold walkI at w
  cases q : f ρ m with
  | stuck => rw [q] at w; exact w.elim
  | exc x m1 =>
    rw [q] at w
    exact wi_of (pi_list pe_w) (h c ρ m σ H _ r s (by rw [q]; exact w))
  | ok d m1 =>
    rw [q] at w
    have go : ∀ {Q : VK}, (∀ c1 v H1, Gd X.kw c c1 m1 H H1 → VD X.kw H1 c1 v d → Q v H1) → WE X e σ H Q := fun {Q} k => h c ρ m σ H Q r s (by rw [q]; exact k)
    cases d with
    | p d =>
      cases d with
      | list ds =>
        refine wi_of (pi_list pe_w) (go fun c1 v H1 g hv => ?_)
        unfold VD at hv
        cases hv with
        | @lst a xs _ hf hq => exact ⟨a, rfl, ⟨xs, hf.sq⟩, w c1 _ H1 g (itd_list hf (VDs.ofp hq))⟩
      | tuple ds =>
        refine wi_of (pi_tup pe_w) (go fun c1 v H1 g hv => ?_)
        unfold VD at hv
        cases hv with
        | @tup a xs _ hf hq => exact ⟨a, rfl, ⟨xs, hf⟩, w c1 _ H1 g (itd_tup hf (VDs.ofp hq))⟩
      | str x => exact wi_of (pi_str pe_w) (go fun c1 v H1 g hv => ⟨x, VD.str.mp hv, w c1 _ H1 g itd_str⟩)
      | none => exact w.elim
      | bool b => exact w.elim
      | int b => exact w.elim
      | dict b =>
        refine wi_of (pi_Kg pe_w) (go fun c1 v H1 g hv => ?_)
        obtain ⟨a, o, es, e1, e2, e3, e4⟩ := dctZ_ok hv rfl
        exact ⟨a, o, false, es, e1, e2, w c1 _ H1 g (itd_Kg (b := false) e2 e3)⟩
    | lst ds =>
      refine wi_of (pi_list pe_w) (go fun c1 v H1 g hv => ?_)
      unfold VD at hv
      obtain ⟨a, xs, e1, hf, hq⟩ := hv
      exact ⟨a, e1, ⟨xs, hf.sq⟩, w c1 _ H1 g (itd_list hf hq)⟩
    | tup ds =>
      refine wi_of (pi_tup pe_w) (go fun c1 v H1 g hv => ?_)
      unfold VD at hv
      obtain ⟨a, xs, e1, hf, hq⟩ := hv
      exact ⟨a, e1, ⟨xs, hf⟩, w c1 _ H1 g (itd_tup hf hq)⟩
    | dct ks xs =>
      refine wi_of (pi_Kg pe_w) (go fun c1 v H1 g hv => ?_)
      obtain ⟨a, o, es, e1, e2, e3, e4⟩ := dctZ_ok hv rfl
      exact ⟨a, o, false, es, e1, e2, w c1 _ H1 g (itd_Kg (b := false) e2 e3)⟩
    | cell i => exact w.elim
    | obj i j k => exact w.elim
    | exn i j k => exact w.elim
    | fn i => exact w.elim
    | ty i => exact w.elim
def valsI (f : FE) : FI := fun ρ m => (f ρ m).bind fun d m1 => match dctZ d with
  | some q => .ok q.2 m1
  | none => .stuck
def itmsI (f : FE) : FI := fun ρ m => (f ρ m).bind fun d m1 => match dctZ d with
  | some q => .ok (prs q.1 q.2) m1
  | none => .stuck
theorem di_vals {apos : Pos} (h : DE X W e f) (hbase : attributeBase e "values" X.env (eval e X.env) = eval e X.env := by rfl) (hline : (apos.endLine == pos.line) = true := by rfl) : DI X W tg (.Call (.Attribute e "values" apos) [] [] pos) (valsI f) := fun c ρ m σ H R r s w => by
  refine wi_of (pi_Vg pe_w hbase hline) (h c ρ m σ H _ r s ?_)
  unfold valsI at w
  cases q : f ρ m with
  | stuck => rw [q] at w; exact w.elim
  | exc x m1 => rw [q] at w; exact w
  | ok d m1 =>
    rw [q] at w
    intro c1 v H1 g hv
    cases q2 : dctZ d with
    | none => simp only [Res.bind, q2] at w; exact w.elim
    | some y =>
      simp only [Res.bind, q2] at w
      obtain ⟨a, o, es, e1, e2, e3, e4⟩ := dctZ_ok (ks := y.1) (xs := y.2) hv q2
      exact ⟨a, o, false, es, e1, e2, w c1 _ H1 g (itd_Vg (b := false) e2 e4)⟩
theorem di_itms {apos : Pos} {elts : List Expr} {kk : Nat} {tpos : Pos} (h : DE X W e f) (hbase : attributeBase e "items" X.env (eval e X.env) = eval e X.env := by rfl) (hline : (apos.endLine == pos.line) = true := by rfl) : DI X W (.Tuple elts kk tpos) (.Call (.Attribute e "items" apos) [] [] pos) (itmsI f) := fun c ρ m σ H R r s w => by
  refine wi_of (pi_Ig pe_w hbase hline) (h c ρ m σ H _ r s ?_)
  unfold itmsI at w
  cases q : f ρ m with
  | stuck => rw [q] at w; exact w.elim
  | exc x m1 => rw [q] at w; exact w
  | ok d m1 =>
    rw [q] at w
    intro c1 v H1 g hv
    cases q2 : dctZ d with
    | none => simp only [Res.bind, q2] at w; exact w.elim
    | some y =>
      simp only [Res.bind, q2] at w
      obtain ⟨a, o, es, e1, e2, e3, e4⟩ := dctZ_ok (ks := y.1) (xs := y.2) hv q2
      exact ⟨a, o, false, es, e1, e2, w c1 _ H1 g (itd_Ig (b := false) e2 e3 e4)⟩
theorem DA.thenI {fl : Rho → Store → Res (List D)} {k : List D → Store → Res (List D)} {Q : List V → Hp → Prop} {R : It → Hp → Prop} (h : DA X W es fl) (r : RelS X.kw c m H) (s : Slo X.kw H c ρ σ) (hb : WantI X W c H σ ((fl ρ m).bind k) R)
    (q : ∀ d m1 c1 v H1, RelS X.kw c1 m1 H1 → Slo X.kw H1 c1 ρ σ → Gd X.kw c c1 m1 H H1 → VDs X.kw H1 c1 v d → WantI X W c H σ (k d m1) R → Q v H1) : WA X es σ H Q := by
  refine h c ρ m σ H Q r s ?_
  cases e : fl ρ m with
  | ok d m1 =>
    rw [e] at hb
    exact fun c1 v H1 g hv => q d m1 c1 v H1 g.rel (g.slots s) g hv hb
  | exc x m1 => rw [e] at hb; exact hb
  | stuck => rw [e] at hb; exact hb
def rng1I (fl : FI) : FI := fun ρ m => (fl ρ m).bind fun ds m1 => match ds with
  | [.p (.int j)] => if -(2 ^ 62) ≤ j ∧ j < 2 ^ 62 then .ok (rngL 0 j.toNat) m1 else .stuck
  | _ => .stuck
theorem di_range1 {fl : FI} (hg : Gl X "range") (hm : X.mg "range" = none) (ha : DA X W [a] fl) (hs : starEach [a] X.env = [(false, eval a X.env)] := by rfl) : DI X W tg (.Call (.Name "range" p) [a] [] pos) (rng1I fl) := fun c ρ m σ H R r s w =>
  wi_of (pi_range1 hg hm pa_w hs) (ha.thenI r s w fun ds m1 c1 vs H1 r1 s1 g1 h1 w1 => by
    split at w1
    · rename_i j
      obtain ⟨v, e1, h2⟩ := VDs.onlyOne h1
      subst e1
      cases VD.int.mp h2
      split at w1
      · rename_i hj
        exact ⟨j, rfl, hj.1, hj.2, w1 c1 _ H1 g1 itd_range⟩
      · exact w1.elim
    · exact w1.elim)
def rng2I (fl : FI) : FI := fun ρ m => (fl ρ m).bind fun ds m1 => match ds with
  | [.p (.int i), .p (.int j)] => if (-(2 ^ 62) ≤ i ∧ i < 2 ^ 62) ∧ -(2 ^ 62) ≤ j ∧ j < 2 ^ 62 then .ok (rngL i (j - i).toNat) m1 else .stuck
  | _ => .stuck
theorem di_range2 {fl : FI} (hg : Gl X "range") (hm : X.mg "range" = none) (ha : DA X W [a, b] fl) (hs : starEach [a, b] X.env = [(false, eval a X.env), (false, eval b X.env)] := by rfl) (hs2 : starEach [b] X.env = [(false, eval b X.env)] := by rfl) : DI X W tg (.Call (.Name "range" p) [a, b] [] pos) (rng2I fl) := fun c ρ m σ H R r s w =>
  wi_of (pi_range2 hg hm pa_w hs hs2) (ha.thenI r s w fun ds m1 c1 vs H1 r1 s1 g1 h1 w1 => by
    split at w1
    · rename_i i j
      obtain ⟨v, v', e1, h2, h3⟩ := VDs.two h1
      subst e1
      cases VD.int.mp h2
      cases VD.int.mp h3
      split at w1
      · rename_i hj
        exact ⟨i, j, rfl, ⟨hj.1.1, hj.1.2, hj.2.1, hj.2.2⟩, w1 c1 _ H1 g1 itd_range⟩
      · exact w1.elim
    · exact w1.elim)
def pairs (k : Nat) : List D → List D
  | [] => []
  | d :: ds => mkTup [.p (.int (k : Nat)), d] :: pairs (k + 1) ds
theorem pairs_get : ∀ (ds : List D) (k i : Nat) (d : D), (pairs k ds)[i]? = some d → ∃ d0, ds[i]? = some d0 ∧ d = mkTup [.p (.int ((k + i : Nat) : Int)), d0]
  | [], k, i, d, e => by simp [pairs] at e
  | d0 :: ds, k, 0, d, e => by
    simp only [pairs, List.getElem?_cons_zero, Option.some.injEq] at e
    exact ⟨d0, rfl, e.symm⟩
  | d0 :: ds, k, i + 1, d, e => by
    simp only [pairs, List.getElem?_cons_succ] at e
    obtain ⟨d1, h1, h2⟩ := pairs_get ds (k + 1) i d e
    refine ⟨d1, by simpa using h1, ?_⟩
    rw [h2]
    congr 5
    omega
theorem pairs_length : ∀ (ds : List D) (k : Nat), (pairs k ds).length = ds.length
  | [], _ => rfl
  | d :: ds, k => by simp [pairs, pairs_length ds]
theorem itd_enum {K : KW} {a : Addr} {vs : List V} {ds : List D} (hf : FzL K H a vs) (hv : VDs K H c vs ds) : ItD K c H (Ite K a) (pairs 0 ds) := fun c' m' H' p ex r i => by
  have f := hf.ext ex
  have hv' := VDs.mono ex p _ hv
  refine ⟨fun d e => ?_, fun hl => ⟨vs, f.sq, by rw [hv.length]; rw [pairs_length] at hl; exact hl⟩⟩
  obtain ⟨d0, h0, e0⟩ := pairs_get ds 0 i d e
  obtain ⟨v, h1, h2⟩ := hv'.get h0
  refine ⟨⟨vs, v, f.sq, h1⟩, fun x H'' y => ?_⟩
  obtain ⟨T, x0, e1, nT, e2, y⟩ := y
  have y0 := y vs f.sq
  rw [h1] at y0
  cases y0
  subst e1 e2
  have g : Gd K c' c' m' H' (upd H' T (.tup [.int (i : Nat), v])) := r.lay nT
  refine ⟨g, fun b o e => by rw [upd_ne (ne_of_none e nT)]; exact e, ?_⟩
  rw [e0]
  refine mkTup_ok (vs := [.int (i : Nat), v]) ?_ (SqT.of upd_same)
  unfold VDs
  refine ⟨_, _, rfl, VD.int.mpr (by simp), ?_⟩
  exact VDs.one (g.vd h2)
def enumI (fl : FI) : FI := fun ρ m => (fl ρ m).bind fun ds m1 => match ds with
  | [.p (.list xs)] => .ok (pairs 0 (xs.map D.p)) m1
  | [.lst xs] => .ok (pairs 0 xs) m1
  | _ => .stuck
theorem di_enum {fl : FI} {elts : List Expr} {kk : Nat} {tpos : Pos} (hg : Gl X "enumerate") (hm : X.mg "enumerate" = none) (ha : DA X W [a] fl) (hs : starEach [a] X.env = [(false, eval a X.env)] := by rfl) :
    DI X W (.Tuple elts kk tpos) (.Call (.Name "enumerate" p) [a] [] pos) (enumI fl) := fun c ρ m σ H R r s w =>
  wi_of (pi_enum hg hm pa_w hs) (ha.thenI r s w fun ds m1 c1 vs H1 r1 s1 g1 h1 w1 => by
    split at w1
    · obtain ⟨v, e1, h2⟩ := VDs.onlyOne h1
      subst e1
      unfold VD at h2
      cases h2 with
      | @lst a xs _ hf hq => exact ⟨a, xs, rfl, hf.sq, w1 c1 _ H1 g1 (itd_enum hf (VDs.ofp hq))⟩
    · obtain ⟨v, e1, h2⟩ := VDs.onlyOne h1
      subst e1
      unfold VD at h2
      obtain ⟨a, xs, e1, hf, hq⟩ := h2
      subst e1
      exact ⟨a, xs, rfl, hf.sq, w1 c1 _ H1 g1 (itd_enum hf hq)⟩
    · exact w1.elim)
end
/-! ### loops -/
def forS (g : FG) (body : FS) : List D → Rho → Store → SRes
  | [], ρ, m => .nx ρ m
  | d :: ds, ρ, m => match (g d ρ m).seq body with
    | .nx ρ1 m1 => forS g body ds ρ1 m1
    | .ct ρ1 m1 => forS g body ds ρ1 m1
    | .bk ρ1 m1 => .nx ρ1 m1
    | r => r
def forE (fi : FI) (g : FG) (body : FS) : FS := fun ρ m => (fi ρ m).bindS ρ fun ds m1 => forS g body ds ρ m1
section
variable {X : Cx} {W : WX} {a b e tg iter : Expr} {es : List Expr} {fa fb f : FE} {pos p : Pos} {c c' : Anc} {ρ : Rho} {m m' : Store} {σ : St} {H H' : Hp} {En : Ends} {body : List Stmt} {g : FG} {gb : FS} {fi : FI}
theorem WantS.bnd {k : List D → Store → SRes} {r : Res (List D)} (s : Slo X.kw H c ρ σ) (h : WantS X W c H (r.bindS ρ k) En) {R : It → Hp → Prop} (q : ∀ ds m1, r = .ok ds m1 → WantS X W c H (k ds m1) En → ∀ c' J H', Gd X.kw c c' m1 H H' → ItD X.kw c' H' J ds → R J H') : WantI X W c H σ r R := by
  cases r with
  | ok ds m1 => exact q ds m1 rfl h
  | exc x m1 => exact fun c1 cls dd H1 g hv => h c1 σ cls dd H1 g (g.slots s) hv
  | stuck => exact h
theorem for_at (hp : PassesOwn (model X.prog X.w) X.A X.env X.xe) (hi : ∀ R, WantI X W c H σ (fi ρ m) R → WI X tg iter σ H R) (hg : DG X W tg g) (hb : DSs X W body gb) (hc : X.calm = true) (hs : ∀ x, foldedSetIterable iter X.env x = pure x) (r : RelS X.kw c m H) (s : Slo X.kw H c ρ σ) (w : WantS X W c H (forE fi g gb ρ m) En) : WSt X (.For tg iter body [] pos) En σ H := by
  refine wst_of (ps_for hp hc pi_w pg_w pss_w hs) (hi _ (WantS.bnd s w fun ds m1 e w1 c1 J H1 g1 hJ => ?_))
  have w1 := WantS.shift g1 w1
  refine ⟨fun i mm σ' H' => ∃ c' ρ' m', Gd X.kw c1 c' m' H1 H' ∧ Slo X.kw H' c' ρ' σ' ∧ i ≤ ds.length ∧ mm = ds.length - i ∧ WantS X W c' H' (forS g gb (ds.drop i) ρ' m') En,
    ⟨ds.length, c1, ρ, m1, Gd.refl g1.rel, g1.slots s, Nat.zero_le _, by simp, by simpa using w1⟩, ?_⟩
  rintro i mm σ2 H2 ⟨c2, ρ2, m2, g2, s2, hi2, hmm, w2⟩
  obtain ⟨hgo, hstop⟩ := hJ c2 m2 H2 g2.pre g2.ext g2.rel i
  by_cases hlt : i < ds.length
  · have ed : ds[i]? = some ds[i] := List.getElem?_eq_getElem hlt
    obtain ⟨go, hy⟩ := hgo _ ed
    have w3 : WantS X W c2 H2 (forS g gb (ds[i] :: ds.drop (i + 1)) ρ2 m2) En := by rw [← List.drop_eq_getElem_cons hlt]; exact w2
    refine .inr ⟨go, fun σ' H' => ∃ c' ρ' m', Gd X.kw c1 c' m' H1 H' ∧ Slo X.kw H' c' ρ' σ' ∧ WantS X W c' H' (forS g gb (ds.drop (i + 1)) ρ' m') En, ?_, ?_⟩
    · rintro σ' H' ⟨c', ρ', m', h1, h2, h3⟩
      exact ⟨ds.length - (i + 1), by omega, c', ρ', m', h1, h2, hlt, rfl, h3⟩
    · intro x H3 yl
      obtain ⟨g3, _, hv⟩ := hy x H3 yl
      have w4 := WantS.shift g3 w3
      let N : St → Hp → Prop := fun σ' H' => ∃ c' ρ' m', Gd X.kw c1 c' m' H1 H' ∧ Slo X.kw H' c' ρ' σ' ∧ WantS X W c' H' (forS g gb (ds.drop (i + 1)) ρ' m') En
      refine hg c2 ρ2 m2 σ2 H3 x ds[i] { nx := fun σ' H' => WSs X body { En with nx := N, ct := N, bk := En.nx } σ' H', rt := En.rt, bk := En.nx, ct := N } g3.rel (g3.slots s2) hv ?_
      have w5 : WantS X W c2 H3 (match (g ds[i] ρ2 m2).seq gb with
        | .nx ρ1 m1 => forS g gb (ds.drop (i + 1)) ρ1 m1
        | .ct ρ1 m1 => forS g gb (ds.drop (i + 1)) ρ1 m1
        | .bk ρ1 m1 => .nx ρ1 m1
        | r => r) En := w4
      cases q : g ds[i] ρ2 m2 with
      | nx ρ4 m4 =>
        rw [q] at w5
        intro c4 σ4 H4 g4 s4
        have w6 := WantS.shift g4 w5
        refine hb c4 ρ4 m4 σ4 H4 _ g4.rel s4 ?_
        change WantS X W c4 H4 (match gb ρ4 m4 with
          | .nx ρ1 m1 => forS g gb (ds.drop (i + 1)) ρ1 m1
          | .ct ρ1 m1 => forS g gb (ds.drop (i + 1)) ρ1 m1
          | .bk ρ1 m1 => .nx ρ1 m1
          | r => r) En at w6
        cases q2 : gb ρ4 m4 with
        | nx ρ5 m5 =>
          rw [q2] at w6
          exact fun c5 σ5 H5 g5 s5 => ⟨c5, ρ5, m5, ((g2.trans g3).trans g4).trans g5, s5, WantS.shift g5 w6⟩
        | ct ρ5 m5 =>
          rw [q2] at w6
          exact fun c5 σ5 H5 g5 s5 => ⟨c5, ρ5, m5, ((g2.trans g3).trans g4).trans g5, s5, WantS.shift g5 w6⟩
        | bk ρ5 m5 => rw [q2] at w6; exact w6
        | rt d m5 => rw [q2] at w6; exact w6
        | exc y ρ5 m5 => rw [q2] at w6; exact w6
        | stuck => rw [q2] at w6; exact w6
      | ct ρ5 m5 =>
        rw [q] at w5
        exact fun c5 σ5 H5 g5 s5 => ⟨c5, ρ5, m5, (g2.trans g3).trans g5, s5, WantS.shift g5 w5⟩
      | bk ρ5 m5 => rw [q] at w5; exact w5
      | rt d m5 => rw [q] at w5; exact w5
      | exc y ρ5 m5 => rw [q] at w5; exact w5
      | stuck => rw [q] at w5; exact w5
  · have e : i = ds.length := by omega
    subst e
    refine .inl ⟨hstop (Nat.le_refl _), ?_⟩
    rw [List.drop_length] at w2
    exact w2 c2 σ2 H2 (Gd.refl g2.rel) s2
theorem ds_for (hp : PassesOwn (model X.prog X.w) X.A X.env X.xe) (hi : DI X W tg iter fi) (hg : DG X W tg g) (hb : DSs X W body gb) (hc : X.calm = true := by rfl) (hs : ∀ x, foldedSetIterable iter X.env x = pure x := by intro _; rfl) : DS X W (.For tg iter body [] pos) (forE fi g gb) := fun c ρ m σ H En r s w =>
  for_at hp (fun R => hi c ρ m σ H R r s) hg hb hc hs r s w
def whileS (t : Rho → Store → Res Bool) (body : FS) : Nat → Rho → Store → SRes
  | 0, _, _ => .stuck
  | n + 1, ρ, m => (t ρ m).bindS ρ fun k m1 => if k then (match body ρ m1 with
      | .nx ρ1 m2 => whileS t body n ρ1 m2
      | .ct ρ1 m2 => whileS t body n ρ1 m2
      | .bk ρ1 m2 => .nx ρ1 m2
      | r => r) else .nx ρ m1
theorem ds_while (n : Nat) {ft : Rho → Store → Res Bool} (hp : PassesOwn (model X.prog X.w) X.A X.env X.xe) (ht : DT X W e ft) (hb : DSs X W body gb) : DS X W (.While e body [] pos) (whileS ft gb n) := fun c ρ m σ H En r s w => by
  refine wst_of (ps_while hp pt_w pss_w) ?_
  refine ⟨fun k σ' H' => ∃ c' ρ' m', RelS X.kw c' m' H' ∧ Slo X.kw H' c' ρ' σ' ∧ WantS X W c' H' (whileS ft gb k ρ' m') En, ⟨n, c, ρ, m, r, s, w⟩, ?_⟩
  rintro k σ1 H1 ⟨c1, ρ1, m1, r1, s1, w1⟩
  cases k with
  | zero => exact w1.elim
  | succ k =>
    refine ht.thenS r1 s1 w1 fun b m2 c2 H2 r2 s2 g2 w2 => ?_
    cases b with
    | false => rw [if_neg Bool.false_ne_true]; exact w2 c2 σ1 H2 (Gd.refl r2) s2
    | true =>
      rw [if_pos rfl]
      refine ⟨fun σ' H' => ∃ c' ρ' m', RelS X.kw c' m' H' ∧ Slo X.kw H' c' ρ' σ' ∧ WantS X W c' H' (whileS ft gb k ρ' m') En, fun σ' H' h => ⟨k, Nat.lt_succ_self _, h⟩, ?_⟩
      refine hb c2 ρ1 m2 σ1 H2 _ r2 s2 ?_
      change WantS X W c2 H2 (match gb ρ1 m2 with
        | .nx ρ1 m2 => whileS ft gb k ρ1 m2
        | .ct ρ1 m2 => whileS ft gb k ρ1 m2
        | .bk ρ1 m2 => .nx ρ1 m2
        | r => r) En at w2
      cases q2 : gb ρ1 m2 with
      | nx ρ5 m5 =>
        rw [q2] at w2
        exact fun c5 σ5 H5 g5 s5 => ⟨c5, ρ5, m5, g5.rel, s5, WantS.shift g5 w2⟩
      | ct ρ5 m5 =>
        rw [q2] at w2
        exact fun c5 σ5 H5 g5 s5 => ⟨c5, ρ5, m5, g5.rel, s5, WantS.shift g5 w2⟩
      | bk ρ5 m5 => rw [q2] at w2; exact w2
      | rt d m5 => rw [q2] at w2; exact w2
      | exc y ρ5 m5 => rw [q2] at w2; exact w2
      | stuck => rw [q2] at w2; exact w2
end
end L2.Dn
namespace L2.Dn
open PySem PySem.Spec PyProof.Rows L2
/-! ### comprehensions -/
abbrev Wno : WX := fun _ _ _ _ => False
/-- a tracked list beside the cells -/
theorem RelS.side {K : KW} {c : Anc} {m : Store} {H : Hp} {a : Addr} {xs ys : List V} (r : RelS K c m H) (hn : ¬ Has c a) (ha : H a = some (.lst xs)) : RelS K c m (upd H a (.lst ys)) := by
  have ex : Ext H (upd H a (.lst ys)) := Ext.put ha
  exact ⟨r.len, r.inj, fun i b x h1 h2 => (r.at_ i b x h1 h2).mono ex (Pre.refl _) fun zs _ e => by rw [upd_ne (fun z => hn ⟨i, by rw [← z]; exact h1⟩)]; exact e⟩
theorem newL_at {X : Cx} {W : WX} {σ : St} {c c' : Anc} {H H' : Hp} {m' : Store} {z : Md} {ds : List D} {xs : List V} {a : Addr} {Q : VK} (g : Gd X.kw c c' m' H H') (h0 : H a = none) (hn : ¬ Has c' a) (ha : H' a = some (.lst xs)) (hv : VDs X.kw H' c' xs ds) (h : Want X W c H σ (newL z ds m') Q) : QF Q (.ref a) H' := by
  have nc : ∀ b, Has c b → b ≠ a := fun b hb e => hn (e ▸ hb.pre g.pre)
  have neF : ∀ b o, H b = some o → b ≠ a := fun b o e z => by rw [z, h0] at e; cases e
  cases z with
  | z =>
    right
    refine ⟨a, _, rfl, ha, trivial, fun o => ?_⟩
    have ex : Ext H' (upd H' a (.frz o (.lst xs))) := Ext.put ha
    have g2 : Gd X.kw c c' m' H (upd H' a (.frz o (.lst xs))) := by
      refine ⟨g.pre, g.ext.trans ex, g.new, fun b u hb e => by rw [upd_ne (neF b u e)]; exact g.frame b u hb e, g.rel.len, g.rel.inj, fun i b x h1 h2 => (g.rel.at_ i b x h1 h2).mono ex (Pre.refl _) fun zs _ e => ?_⟩
      rw [upd_ne (fun z => hn ⟨i, by rw [← z]; exact h1⟩)]
      exact e
    exact h c' _ _ g2 (mkLst_ok (VDs.mono ex (Pre.refl _) _ hv) (.inl ⟨o, upd_same⟩))
  | l =>
    left
    cases hl : nxs ds with
    | false => rw [newL, hl] at h; exact h.elim
    | true =>
      rw [newL, hl] at h
      have g2 : Gd X.kw c (c'.push a true) (m'.push (.lst ds) true) H H' := ⟨g.pre.trans (push_pre _ _ _), g.ext, fun b hb => (has_push hb).elim (g.new b) fun e => .inr (by rw [e]; exact h0), g.frame, g.rel.adopt true hn ha (hv.cold hl)⟩
      refine h _ _ _ g2 ?_
      unfold VD
      exact ⟨a, by rw [← next_eq g.rel]; exact push_next _ _ _, rfl⟩
  | g =>
    left
    cases hl : nls ds with
    | false => rw [newL, hl] at h; exact h.elim
    | true =>
      rw [newL, hl] at h
      have g2 : Gd X.kw c (c'.push a false) (m'.push (.lst ds) false) H H' := ⟨g.pre.trans (push_pre _ _ _), g.ext, fun b hb => (has_push hb).elim (g.new b) fun e => .inr (by rw [e]; exact h0), g.frame, g.rel.adopt false hn ha ((VDs.nl ds hv hl).cold (nxs_of_nls _ hl))⟩
      refine h _ _ _ g2 ?_
      unfold VD
      exact ⟨a, by rw [← next_eq g.rel]; exact push_next _ _ _, rfl⟩
def wipeR (ρ : Rho) : List Nat → Rho
  | [] => ρ
  | v :: vs => (wipeR ρ vs).set v none
/-- the target of a comprehension: one name, or a tuple of names -/
def setAll : List Nat → List D → Rho → Option Rho
  | [], [], ρ => some ρ
  | i :: is, d :: ds, ρ => setAll is ds (ρ.set i (some d))
  | _, _, _ => none
def noX {α : Type} : Res α → Res α
  | .exc _ _ => .stuck
  | r => r
def lcM (g : D → Rho → Option Rho) (t : Rho → Store → Res Bool) (fe : FE) (ρ : Rho) : List D → Store → Res (List D)
  | [], m => .ok [] m
  | d :: ds, m => match g d ρ with
    | some ρ1 => (noX (t ρ1 m)).bind fun b m2 => if b then (noX (fe ρ1 m2)).bind fun y m3 => (lcM g t fe ρ ds m3).bind fun ys m4 => .ok (y :: ys) m4 else lcM g t fe ρ ds m2
    | none => .stuck
def lcE (z : Md) (vs : List Nat) (fi : FI) (g : D → Rho → Option Rho) (t : Rho → Store → Res Bool) (fe : FE) : FE := fun ρ m => (fi ρ m).bind fun ds m1 => if ds.length ≤ sizeLine then (lcM g t fe (wipeR ρ vs) ds m1).bind fun ys m2 => newL z ys m2 else .stuck
def oneG (i : Nat) : D → Rho → Option Rho := fun d ρ => some (ρ.set i (some d))
def manyG (is : List Nat) : D → Rho → Option Rho := fun d ρ => match tupOf d with
  | some ds => setAll is ds ρ
  | none => none
section
variable {X : Cx} {W : WX} {a b e tg iter elt : Expr} {ifs : List Expr} {scope : Scope} {own : List (Str × Nat)} {fa fb f fe : FE} {ft : Rho → Store → Res Bool} {pos p : Pos} {c c' : Anc} {ρ : Rho} {m m' : Store} {σ : St} {H H' : Hp} {fi : FI}
theorem Slo.wipe {K : KW} (s : Slo K H c ρ σ) : ∀ vs : List Nat, Slo K H c (wipeR ρ vs) (wipe σ vs)
  | [] => s
  | v :: vs => by
    have ih := Slo.wipe s vs
    unfold wipeR L2.wipe
    refine ⟨by simp [ih.len], fun j d' q => ?_⟩
    by_cases hj : j = v
    · subst hj
      have hl : j < ((wipeR ρ vs).set j none).length := (List.getElem?_eq_some_iff.mp q).1
      rw [List.getElem?_set_self (by simpa using hl)] at q
      cases q
    · rw [List.getElem?_set_ne (Ne.symm hj)] at q ⊢
      exact ih.at_ j d' q
theorem wipe_len' (σ : St) (vs : List Nat) : (wipe σ vs).length = σ.length := wipe_length σ vs
theorem wipe_get : ∀ {vs : List Nat} {j : Nat}, j ∈ vs → ∀ σ : St, j < σ.length → (wipe σ vs)[j]? = some none
  | v :: vs, j, hj, σ, hl => by
    unfold L2.wipe
    by_cases h : j = v
    · subst h
      exact List.getElem?_set_self (by rw [wipe_length]; exact hl)
    · rw [List.getElem?_set_ne (Ne.symm h)]
      rcases List.mem_cons.mp hj with z | z
      · exact absurd z h
      · exact wipe_get z σ hl
  | [], j, hj, _, _ => by cases hj
theorem wipe_ext {vs : List Nat} {σ σ' : St} (hl : σ'.length = σ.length) (h : ∀ j, j ∉ vs → σ'[j]? = σ[j]?) : wipe σ' vs = wipe σ vs := by
  refine List.ext_getElem? fun j => ?_
  by_cases hj : j ∈ vs
  · by_cases hk : j < σ.length
    · rw [wipe_get hj σ hk, wipe_get hj σ' (by rw [hl]; exact hk)]
    · rw [List.getElem?_eq_none (by rw [wipe_length]; omega), List.getElem?_eq_none (by rw [wipe_length]; omega)]
  · rw [wipe_out hj, wipe_out hj]
    exact h j hj
/-- a target and what it does to the slots -/
def DLg (X : Cx) (tg : Expr) (is : List Nat) (g : D → Rho → Option Rho) : Prop := ∀ (c : Anc) (ρ ρ' : Rho) (σ : St) (H : Hp) (v : V) (d : D) (R : St → Hp → Prop), Slo X.kw H c ρ σ → VD X.kw H c v d → g d ρ = some ρ' →
  (∀ σ', Slo X.kw H c ρ' σ' → σ'.length = σ.length → (∀ j, j ∉ is → σ'[j]? = σ[j]?) → R σ' H) → WG X tg v σ H R
theorem dl_one (i : Nat) {x : Str} (hN : X.N.Nodup) (hi : X.N[i]? = some x := by rfl) (hx : Loc X.env.scope x := by first | exact Or.inl rfl | exact Or.inr rfl) (hf : X.fn x = true ∨ X.env.scope.names.lookup x = some .local := by first | exact .inl rfl | exact .inr rfl | assumption) : DLg X (.Name x pos) [i] (oneG i) :=
  fun c ρ ρ' σ H v d R s hv e q => by
    cases e
    refine wg_of (pg_name hN hi hx hf) (q _ (s.set i hv) (by simp) fun j hj => ?_)
    rw [List.getElem?_set_ne (fun z => hj (by simp [z]))]
def DLgs (X : Cx) (ts : List Expr) (is : List Nat) : Prop := ∀ (c : Anc) (ρ ρ' : Rho) (σ : St) (H : Hp) (vs : List V) (ds : List D) (R : St → Hp → Prop), Slo X.kw H c ρ σ → VDs X.kw H c vs ds → setAll is ds ρ = some ρ' →
  (∀ σ', Slo X.kw H c ρ' σ' → σ'.length = σ.length → (∀ j, j ∉ is → σ'[j]? = σ[j]?) → R σ' H) → WGs X ts vs σ H R
theorem dls_nil : DLgs X [] [] := fun c ρ ρ' σ H vs ds R s hv e q => by
  cases ds with
  | nil =>
    cases e
    unfold VDs at hv
    subst hv
    exact wgs_of pgs_nil ⟨rfl, q σ s rfl fun _ _ => rfl⟩
  | cons d ds => cases e
theorem dls_cons (i : Nat) {x : Str} {ts : List Expr} {is : List Nat} (hr : DLgs X ts is) (hN : X.N.Nodup) (hi : X.N[i]? = some x := by rfl) (hx : Loc X.env.scope x := by first | exact Or.inl rfl | exact Or.inr rfl) (hf : X.fn x = true ∨ X.env.scope.names.lookup x = some .local := by first | exact .inl rfl | exact .inr rfl | assumption)
    (hs : (assignEach (.Name x pos :: ts) X.env).map (·.2) = assign (.Name x pos) X.env :: (assignEach ts X.env).map (·.2) := by rfl) : DLgs X (.Name x pos :: ts) (i :: is) := fun c ρ ρ' σ H vs ds R s hv e q => by
  cases ds with
  | nil => cases e
  | cons d ds =>
    unfold VDs at hv
    obtain ⟨v, vr, e1, h1, h2⟩ := hv
    subst e1
    have e : setAll is ds (ρ.set i (some d)) = some ρ' := e
    refine wgs_of (pgs_cons (pg_name hN hi hx hf) pgs_w hs) ⟨v, vr, rfl, ?_⟩
    refine hr c _ ρ' _ H vr ds R (s.set i h1) h2 e fun σ' s' hl hj => q σ' s' (by simpa using hl) fun j hm => ?_
    rw [hj j (fun z => hm (List.mem_cons_of_mem _ z)), List.getElem?_set_ne (fun z => hm (by rw [z]; exact List.mem_cons_self))]
theorem dl_many {ts : List Expr} {is : List Nat} {k n : Nat} (h : DLgs X ts is) (hn : (assignEach ts X.env).length = n := by rfl) (hni : is.length = n := by rfl) (hc : X.calm = true := by rfl) (hst : (assignEach ts X.env).findIdx? (·.1) = none := by rfl) : DLg X (.Tuple ts k pos) is (manyG is) :=
  fun c ρ ρ' σ H v d R s hv e q => by
    unfold manyG at e
    split at e
    · rename_i ds hd
      obtain ⟨a, vs, e1, h2, h3⟩ := tupOf_ok hv hd
      have hl : ∀ {is : List Nat} {ds : List D} {ρ ρ' : Rho}, setAll is ds ρ = some ρ' → ds.length = is.length := by
        intro is
        induction is with
        | nil => intro ds ρ ρ' e; cases ds with | nil => rfl | cons => cases e
        | cons i is ih => intro ds ρ ρ' e; cases ds with | nil => cases e | cons d ds => simp [ih (show setAll is ds (ρ.set i (some d)) = some ρ' from e)]
      exact wg_of (pg_tup hc pgs_w hn hst) ⟨a, vs, e1, h2, by rw [h3.length, hl e]; exact hni, h c ρ ρ' σ H vs ds R s h3 e q⟩
    · cases e
/-- the tests of a comprehension -/
abbrev testsOf (l : List Expr) (v : Env) : Sem Bool :=
  forIn l true fun x k => if k = true then do
      let w ← isTrue x v (eval x v)
      pure (ForInStep.yield w)
    else pure (ForInStep.yield k)
def DTs (X : Cx) (ifs : List Expr) (ft : Rho → Store → Res Bool) : Prop := ∀ (c : Anc) (ρ : Rho) (m : Store) (σ : St) (H : Hp) (Q : Bool → Hp → Prop), RelS X.kw c m H → Slo X.kw H c ρ σ → WantB X Wno c H σ (ft ρ m) Q →
  ∀ (pins : List (Addr × Obj)) (s : Shared), Inv X pins σ H s → wpAny (model X.prog X.w) X.A (testsOf ifs X.env) (TP X pins σ Q) X.xe s
def yesT : Rho → Store → Res Bool := fun _ m => .ok true m
theorem dts_nil : DTs X [] yesT := fun c ρ m σ H Q r s w pins st I => pts_nil.run pins st σ H Q I (w c H (Gd.refl r))
theorem dts_one (h : DT X Wno e ft) : DTs X [e] ft := fun c ρ m σ H Q r s w pins st I => (pts_one pt_w).run pins st σ H Q I (h c ρ m σ H Q r s w)
theorem noX_want {β : Type} {r : Res Bool} {Q : Bool → Hp → Prop} (h : WantB X W c H σ (noX r) Q) : WantB X Wno c H σ r Q := by
  cases r with
  | ok => exact h
  | exc => exact h.elim
  | stuck => exact h
/-- readings of a comprehension's parts, in whatever block they run -/
def rG (X : Cx) (scope : Scope) (tg : Expr) : TG := fun v σ H R => ∀ s0 H0 C cl fp, WG (X.blk s0 H0 scope (compEnvC scope cl C X.env) fp) tg v σ H R
def rT (X : Cx) (scope : Scope) (ifs : List Expr) : TT := fun σ H Q => ∀ s0 H0 C cl fp (pins : List (Addr × Obj)) (s : Shared), Inv (X.blk s0 H0 scope (compEnvC scope cl C X.env) fp) pins σ H s →
  wpAny (model X.prog X.w) X.A (testsOf ifs (compEnvC scope cl C X.env)) (TP (X.blk s0 H0 scope (compEnvC scope cl C X.env) fp) pins σ Q) (fun _ _ => False) s
def rE (X : Cx) (scope : Scope) (elt : Expr) : TE := fun σ H Q => ∀ s0 H0 C cl fp, WE (X.blk s0 H0 scope (compEnvC scope cl C X.env) fp) elt σ H Q
theorem pg_r (s : Shared) (H : Hp) (C : Addr) (cl : List (Str × Addr)) (fp : List Addr) : PG (X.blk s H scope (compEnvC scope cl C X.env) fp) tg (rG X scope tg) := ⟨fun pins s1 σ H1 v u Q I r h => (h s H C cl fp).go pins s1 u I r⟩
theorem pt_r (s : Shared) (H : Hp) (C : Addr) (cl : List (Str × Addr)) (fp : List Addr) : PTs (X.blk s H scope (compEnvC scope cl C X.env) fp) ifs (rT X scope ifs) := ⟨fun pins s1 σ H1 Q I h => h s H C cl fp pins s1 I⟩
theorem pe_r (s : Shared) (H : Hp) (C : Addr) (cl : List (Str × Addr)) (fp : List Addr) : PE (X.blk s H scope (compEnvC scope cl C X.env) fp) elt (rE X scope elt) := ⟨fun pins s1 σ H1 Q I h => (h s H C cl fp).go pins s1 I⟩
theorem lc_read {z : Md} {is : List Nat} {g : D → Rho → Option Rho} {own : List (Str × Nat)} {Q Q' : VK} (hi : ∀ R, WantI X W c H σ (fi ρ m) R → WI X tg iter σ H R)
    (hg : ∀ (s : Shared) (H : Hp) (C : Addr) (cl : List (Str × Addr)) (fp : List Addr), DLg (X.blk s H scope (compEnvC scope cl C X.env) fp) tg is g)
    (ht : ∀ (s : Shared) (H : Hp) (C : Addr) (cl : List (Str × Addr)) (fp : List Addr), DTs (X.blk s H scope (compEnvC scope cl C X.env) fp) ifs ft)
    (he : ∀ (s : Shared) (H : Hp) (C : Addr) (cl : List (Str × Addr)) (fp : List Addr), DE (X.blk s H scope (compEnvC scope cl C X.env) fp) Wno elt fe)
    (hsub : ∀ i ∈ is, i ∈ own.map (·.2)) (hc : X.calm = true) (r : RelS X.kw c m H) (s : Slo X.kw H c ρ σ) (w : Want X W c H σ (lcE z (own.map (·.2)) fi g ft fe ρ m) Q) (hq : ∀ v H, QF Q v H → Q' v H) :
    tLc (WI X tg iter) (rG X scope tg) (rT X scope ifs) (rE X scope elt) (own.map (·.2)) σ H Q' := by
  have hk : ∀ s0 H0 cenv fp, (X.blk s0 H0 scope cenv fp).kw = X.kw := fun s0 H0 cenv fp => by simp [Cx.kw, hc]
  refine hi _ ?_
  unfold lcE at w
  cases q : fi ρ m with
  | stuck => rw [q] at w; exact w.elim
  | exc x m1 => rw [q] at w; exact w
  | ok ds m1 =>
    rw [q] at w
    intro c1 J H1 g1 hJ D hD
    have w : Want X W c H σ (if ds.length ≤ sizeLine then (lcM g ft fe (wipeR ρ (own.map (·.2))) ds m1).bind fun ys m2 => newL z ys m2 else .stuck) Q := w
    by_cases hz : ds.length ≤ sizeLine
    · rw [if_pos hz] at w
      have w1 := Want.shift g1 w
      have nD : ¬ Has c1 D := g1.rel.not hD
      have s1 := (g1.slots s).wipe (own.map (·.2))
      -- the rest of the run, from the items that are left and those that are made
      let Rest : Nat → Hp → List V → Prop := fun i H' acc => ∃ c' m' ys, Gd X.kw c1 c' m' H1 H' ∧ ¬ Has c' D ∧ H' D = some (.lst acc) ∧ VDs X.kw H' c' acc ys ∧ acc.length ≤ i ∧
        Want X W c1 H1 σ ((lcM g ft fe (wipeR ρ (own.map (·.2))) (ds.drop i) m').bind fun zs m2 => newL z (ys ++ zs) m2) Q
      refine ⟨fun i mm H' => i ≤ ds.length ∧ mm = ds.length - i ∧ ∃ acc, Rest i H' acc, ⟨ds.length, Nat.zero_le _, by simp, [], c1, m1, [], ?_, nD, upd_same, by unfold VDs; rfl, Nat.le_refl _, by simpa using w1⟩, ?_⟩
      · exact g1.rel.lay hD
      · rintro i mm H2 ⟨hi2, hmm, acc, c2, m2, ys, g2, nD2, hD2, hv2, hl2, w2⟩
        obtain ⟨hgo, hstop⟩ := hJ c2 m2 H2 g2.pre g2.ext g2.rel i
        by_cases hlt : i < ds.length
        · have ed : ds[i]? = some ds[i] := List.getElem?_eq_getElem hlt
          obtain ⟨go, hy⟩ := hgo _ ed
          have e1 : ds.drop i = ds[i] :: ds.drop (i + 1) := List.drop_eq_getElem_cons hlt
          rw [e1] at w2
          refine .inr ⟨go, fun H' => ∃ acc, Rest (i + 1) H' acc, fun H' h => ⟨ds.length - (i + 1), by omega, hlt, rfl, h⟩, fun x H3 yl => ?_⟩
          obtain ⟨g3, k3, hv⟩ := hy x H3 yl
          have g23 := g2.trans g3
          have hD3 : H3 D = some (.lst acc) := k3 D _ hD2
          intro s0 H0 C cl fp
          cases q1 : g ds[i] (wipeR ρ (own.map (·.2))) with
          | none => simp only [lcM, q1, Res.bind] at w2; exact w2.elim
          | some ρ1 =>
            refine hg s0 H0 C cl fp c2 _ ρ1 _ H3 x ds[i] _ (by rw [hk]; exact g23.slots s1) (by rw [hk]; exact hv) q1 fun σ1 s3 hl hj => ⟨?_, ?_⟩
            · rw [show wipe σ (own.map (·.2)) = wipe (wipe σ (own.map (·.2))) (own.map (·.2)) from (wipe_ext (wipe_length _ _) fun j hj => wipe_out hj).symm]
              exact wipe_ext hl fun j hm => hj j fun z => hm (hsub j z)
            · intro s4 H4 C4 cl4 fp4 pins4 st4 I4
              simp only [lcM, q1] at w2
              rw [hk] at s3
              refine ht s4 H4 C4 cl4 fp4 c2 ρ1 m2 σ1 H3 _ (by rw [hk]; exact g3.rel) (by rw [hk]; exact s3) ?_ pins4 st4 I4
              cases q2 : ft ρ1 m2 with
              | stuck => simp only [q2, noX, Res.bind] at w2; exact w2.elim
              | exc y m5 => simp only [q2, noX, Res.bind] at w2; exact w2.elim
              | ok k m5 =>
                intro c5 H5 g5
                rw [hk] at g5
                have g25 := g23.trans g5
                have hD5 : H5 D = some (.lst acc) := g5.frame D _ nD2 hD3
                have nD5 : ¬ Has c5 D := fun z => (g5.new D z).elim nD2 fun e => by rw [hD3] at e; cases e
                simp only [q2, noX, Res.bind] at w2
                cases k with
                | false =>
                  rw [if_neg Bool.false_ne_true]
                  exact ⟨acc, c5, m5, ys, g25, nD5, hD5, g5.vds (g3.vds hv2), Nat.le_succ_of_le hl2, w2⟩
                | true =>
                  rw [if_pos rfl]
                  intro s6 H6 C6 cl6 fp6
                  refine he s6 H6 C6 cl6 fp6 c5 ρ1 m5 σ1 H5 _ (by rw [hk]; exact g5.rel) (by rw [hk]; exact g5.slots s3) ?_
                  cases q3 : fe ρ1 m5 with
                  | stuck => simp only [q3, noX, if_true, Res.bind] at w2; exact w2.elim
                  | exc y m7 => simp only [q3, noX, if_true, Res.bind] at w2; exact w2.elim
                  | ok y m7 =>
                    simp only [q3, noX, if_true, Res.bind] at w2
                    intro c7 vy H7 g7 hy7
                    rw [hk] at g7 hy7
                    have g27 := g25.trans g7
                    have hD7 : H7 D = some (.lst acc) := g7.frame D _ nD5 hD5
                    have nD7 : ¬ Has c7 D := fun z => (g7.new D z).elim nD5 fun e => by rw [hD5] at e; cases e
                    refine ⟨acc, hD7, by omega, acc ++ [vy], c7, m7, ys ++ [y], ?_, nD7, upd_same, ?_, by simpa using hl2, ?_⟩
                    · have ex : Ext H7 (upd H7 D (.lst (acc ++ [vy]))) := Ext.put hD7
                      exact ⟨g27.pre, g27.ext.trans ex, g27.new, fun b u hb e => by rw [upd_ne (fun z => by rw [z, hD] at e; cases e)]; exact g27.frame b u hb e, g27.rel.side nD7 hD7⟩
                    · have ex : Ext H7 (upd H7 D (.lst (acc ++ [vy]))) := Ext.put hD7
                      exact VDs.mono ex (Pre.refl _) _ ((g7.vds (g5.vds (g3.vds hv2))).append (VDs.one hy7))
                    · cases q4 : lcM g ft fe (wipeR ρ (own.map (·.2))) (ds.drop (i + 1)) m7 with
                      | ok zs m8 => simp only [q4, Res.bind] at w2 ⊢; rw [List.append_assoc]; exact w2
                      | exc y m8 => simp only [q4, Res.bind] at w2 ⊢; exact w2
                      | stuck => simp only [q4, Res.bind] at w2 ⊢; exact w2
        · have e : i = ds.length := by omega
          subst e
          refine .inl ⟨hstop (Nat.le_refl _), ?_⟩
          rw [List.drop_length] at w2
          have w3 : Want X W c1 H1 σ (newL z ys m2) Q := by simpa [lcM, Res.bind] using w2
          exact hq _ _ (newL_at g2 hD nD2 hD2 hv2 w3)
    · rw [if_neg hz] at w; exact w.elim
theorem de_lc (z : Md) {is : List Nat} {g : D → Rho → Option Rho} (own : List (Str × Nat)) (hN : X.N.Nodup) (hi : DI X W tg iter fi) (ok : blkC X.N X.env.scope scope own = true)
    (hg : ∀ (s : Shared) (H : Hp) (C : Addr) (cl : List (Str × Addr)) (fp : List Addr), DLg (X.blk s H scope (compEnvC scope cl C X.env) fp) tg is g)
    (ht : ∀ (s : Shared) (H : Hp) (C : Addr) (cl : List (Str × Addr)) (fp : List Addr), DTs (X.blk s H scope (compEnvC scope cl C X.env) fp) ifs ft)
    (he : ∀ (s : Shared) (H : Hp) (C : Addr) (cl : List (Str × Addr)) (fp : List Addr), DE (X.blk s H scope (compEnvC scope cl C X.env) fp) Wno elt fe)
    (hsub : ∀ i ∈ is, i ∈ own.map (·.2) := by decide) (hc : X.calm = true := by rfl) (hs : ∀ x, foldedSetIterable iter X.env x = pure x := by intro _; rfl) :
    DE X W (.ListComp elt [⟨tg, iter, ifs, 0⟩] scope pos) (lcE z (own.map (·.2)) fi g ft fe) := fun c ρ m σ H Q r s w =>
  WE.frz (we_of (pe_lc hc hN pi_w (blkOk_by ok) pg_r pt_r pe_r hs) (lc_read (fun R => hi c ρ m σ H R r s) hg ht he hsub hc r s w fun _ _ h => h))
/-- the same ghost step behind a statement -/
def nxF (R : St → Hp → Prop) : St → Hp → Prop := fun σ H => R σ H ∨ ∃ a u, H a = some u ∧ Mut (some u) ∧ ∀ o, R σ (upd H a (.frz o u))
theorem WSt.frz {st : Stmt} {En : Ends} (h : WSt X st { En with nx := nxF En.nx } σ H) : WSt X st En σ H := .mk fun pins s I => thn (h.go pins s I) fun f s' q => by
  cases f with
  | next =>
    obtain ⟨σ', H', I', q | ⟨a, xs, h1, mu, q⟩⟩ := q
    · exact ⟨σ', H', I', q⟩
    · obtain ⟨o, I2⟩ := Inv.lock I' h1 mu
      exact ⟨σ', _, I2, q o⟩
  | brk => exact q
  | cont => exact q
  | ret v => exact q
theorem ds_setLc (z : Md) (i : Nat) {y : Str} {py spos : Pos} {is : List Nat} {g : D → Rho → Option Rho} (own : List (Str × Nat)) (hN : X.N.Nodup) (hi : DI X W tg iter fi) (ok : blkC X.N X.env.scope scope own = true)
    (hg : ∀ (s : Shared) (H : Hp) (C : Addr) (cl : List (Str × Addr)) (fp : List Addr), DLg (X.blk s H scope (compEnvC scope cl C X.env) fp) tg is g)
    (ht : ∀ (s : Shared) (H : Hp) (C : Addr) (cl : List (Str × Addr)) (fp : List Addr), DTs (X.blk s H scope (compEnvC scope cl C X.env) fp) ifs ft)
    (he : ∀ (s : Shared) (H : Hp) (C : Addr) (cl : List (Str × Addr)) (fp : List Addr), DE (X.blk s H scope (compEnvC scope cl C X.env) fp) Wno elt fe)
    (hsw : swapsWith (.ListComp elt [⟨tg, iter, ifs, 0⟩] scope pos) (some (.Name y py)) spos.line X.env = pure true)
    (hy : X.N[i]? = some y := by rfl) (hyl : X.env.scope.names.lookup y = some .local := by rfl)
    (hsub : ∀ i ∈ is, i ∈ own.map (·.2) := by decide) (hc : X.calm = true := by rfl) (hs : ∀ x, foldedSetIterable iter X.env x = pure x := by intro _; rfl) :
    DS X W (.Assign [.Name y py] (.ListComp elt [⟨tg, iter, ifs, 0⟩] scope pos) spos) (setS i (lcE z (own.map (·.2)) fi g ft fe)) := fun c ρ m σ H En r s w => by
  refine WSt.frz (wst_of (ps_setLc hc hN hy hyl hsw pi_w (blkOk_by ok) pg_r pt_r pe_r hs) ?_)
  refine lc_read (z := z) (Q := fun v H1 => En.nx (σ.set i (some v)) H1) (fun R => hi c ρ m σ H R r s) hg ht he hsub hc r s ?_ fun v H1 h => ?_
  · unfold setS at w
    cases q : lcE z (own.map (·.2)) fi g ft fe ρ m with
    | ok d m1 =>
      rw [q] at w
      exact fun c1 v H1 g1 hv => w c1 _ H1 g1 ((g1.slots s).set i hv)
    | exc x m1 =>
      rw [q] at w
      exact fun c1 cls dd H1 g1 hv => w c1 σ cls dd H1 g1 (g1.slots s) hv
    | stuck => rw [q] at w; exact w
  · rcases h with h | ⟨a, xs, e1, e2, mu, h⟩
    · exact .inl h
    · exact .inr ⟨a, xs, e2, mu, h⟩
end
end L2.Dn
namespace L2.Dn
open PySem PySem.Spec PyProof.Rows L2
/-! ### defs and their calls -/
inductive RG where
  | ok (d : D) (g : List Cell)
  | exc (x : Exn) (g : List Cell)
  | stuck
abbrev Den := List D → List Cell → RG
def RG.res (r : RG) (l : List Cell) : Res D := match r with
  | .ok d g => .ok d ⟨g, l⟩
  | .exc x g => .exc x ⟨g, l⟩
  | .stuck => .stuck
/-- what a def promises by its denotation -/
def spD (K : KW) (n : Nat) (den : Den) : Sp := fun vs H Q E => ∃ (cg : List Addr) (ds : List D) (g : List Cell), ds.length = n ∧ RelS K ⟨cg, []⟩ ⟨g, []⟩ H ∧ VDs K H ⟨cg, []⟩ vs ds ∧ (match den ds g with
  | .ok d g' => ∀ cg' v H', Gd K ⟨cg, []⟩ ⟨cg', []⟩ ⟨g', []⟩ H H' → VD K H' ⟨cg', []⟩ v d → Q v H'
  | .exc x g' => ∀ cg' cls dd H', Gd K ⟨cg, []⟩ ⟨cg', []⟩ ⟨g', []⟩ H H' → ExcV K H' ⟨cg', []⟩ x cls dd → E cls dd H'
  | .stuck => False)
/-- how a def's body ends -/
def fin : SRes → RG
  | .rt d m => if nl d then .ok d m.g else .stuck
  | .nx _ m => .ok (.p .none) m.g
  | .exc x _ m => if nls (x.fs.map (·.2)) then .exc x m.g else .stuck
  | _ => .stuck
def fnD (n : Nat) (body : FS) : Den := fun ds g => fin (body (ds.map some ++ List.replicate (n - ds.length) none) ⟨g, []⟩)
section
variable {K : KW} {c c' : Anc} {m m' : Store} {H H' : Hp}
theorem RelS.glob (r : RelS K c m H) : RelS K (glob c) (glob m) H := by
  refine ⟨⟨r.len.1, rfl⟩, fun i j a h1 h2 => ?_, fun i a x h1 h2 => ?_⟩
  · cases i with
    | l i => cases h1
    | g i =>
      cases j with
      | l j => cases h2
      | g j => exact r.inj (.g i) (.g j) a h1 h2
  · cases i with
    | l i => cases h1
    | g i => exact r.at_ (.g i) a x h1 h2
theorem Gd.glob (g : Gd K (glob c) c' m' H H') : Gd K (glob c) (glob c') (glob m') H H' := by
  refine ⟨⟨g.pre.1, List.prefix_refl _⟩, g.ext, fun a ha => ?_, g.frame, g.rel.glob⟩
  obtain ⟨i, e⟩ := ha
  exact g.new a ⟨i, pre_get (glob_pre c') e⟩
theorem Has.glob {a : Addr} (h : Has (glob c) a) : Has c a := h.pre (glob_pre c)
theorem CellR.notNone {K : KW} {H : Hp} {c : Anc} {a : Addr} {x : Cell} (h : CellR K H c a x) : H a ≠ none := fun z => by
  cases x with
  | gone => obtain ⟨o, u, q⟩ := h; rw [z] at q; cases q
  | lst ds => obtain ⟨xs, q, _⟩ := h; rw [z] at q; cases q
  | dct ds => obtain ⟨xs, q, _⟩ := h; rw [z] at q; cases q
  | ins C ds => obtain ⟨_, _, xs, q, _⟩ := h; rw [z] at q; cases q
theorem RelS.notNone {i : Ix} {a : Addr} (r : RelS K c m H) (h : c.at_ i = some a) : H a ≠ none := by
  have : ∃ x, m.at_ i = some x := by
    cases i with
    | g i => exact ⟨_, List.getElem?_eq_getElem (by rw [← r.len.1]; exact (List.getElem?_eq_some_iff.mp h).1)⟩
    | l i => exact ⟨_, List.getElem?_eq_getElem (by rw [← r.len.2]; exact (List.getElem?_eq_some_iff.mp h).1)⟩
  obtain ⟨x, e⟩ := this
  exact CellR.notNone (r.at_ i a x h e)
/-- behind a call: the global part is the callee's, the own part stays -/
theorem Gd.back {cg : List Addr} {g' : List Cell} (r : RelS K c m H) (g : Gd K (Dn.glob c) ⟨cg, []⟩ ⟨g', []⟩ H H') : Gd K c ⟨cg, c.l⟩ ⟨g', m.l⟩ H H' := by
  have hfr : ∀ j a, c.at_ (.l j) = some a → ¬ Has (Dn.glob c) a := fun j a h1 hb => by
    obtain ⟨i, e⟩ := hb
    cases i with
    | l i => cases e
    | g i => exact nomatch r.inj (.g i) (.l j) a e h1
  have cross : ∀ i j a, (⟨cg, c.l⟩ : Anc).at_ (.g i) = some a → (⟨cg, c.l⟩ : Anc).at_ (.l j) = some a → False := by
    intro i j a h1 h2
    rcases g.new a ⟨.g i, h1⟩ with z | z
    · exact hfr j a h2 z
    · exact r.notNone (i := .l j) h2 z
  refine ⟨⟨g.pre.1, List.prefix_refl _⟩, g.ext, fun a ha => ?_, fun b o hb e => g.frame b o (fun z => hb z.glob) e, ⟨g.rel.len.1, r.len.2⟩, fun i j a h1 h2 => ?_, fun i a x h1 h2 => ?_⟩
  · obtain ⟨i, e⟩ := ha
    cases i with
    | l i => exact .inl ⟨.l i, e⟩
    | g i => exact (g.new a ⟨.g i, e⟩).imp (fun z => z.glob) fun z => z
  · cases i with
    | g i =>
      cases j with
      | g j => exact g.rel.inj (.g i) (.g j) a h1 h2
      | l j => exact (cross i j a h1 h2).elim
    | l i =>
      cases j with
      | g j => exact (cross j i a h2 h1).elim
      | l j => exact r.inj (.l i) (.l j) a h1 h2
  · cases i with
    | g i => exact g.rel.at_ (.g i) a x h1 h2
    | l i => exact (r.at_ (.l i) a x h1 h2).mono g.ext ⟨g.pre.1, List.prefix_refl _⟩ fun xs lx e => g.frame a _ (hfr i a h1) e
end
theorem RelS.cold {K : KW} {c : Anc} {m : Store} {H : Hp} (r : RelS K c m H) : RelS K.cold c m H := ⟨r.len, r.inj, r.at_⟩
theorem RelS.warm {K : KW} {c : Anc} {m : Store} {H : Hp} (r : RelS K.cold c m H) : RelS K c m H := ⟨r.len, r.inj, r.at_⟩
theorem Gd.warm {K : KW} {c c' : Anc} {m' : Store} {H H' : Hp} (g : Gd K.cold c c' m' H H') : Gd K c c' m' H H' := ⟨g.pre, g.ext, g.new, g.frame, g.rel.warm⟩
theorem Gd.cold {K : KW} {c c' : Anc} {m' : Store} {H H' : Hp} (g : Gd K c c' m' H H') : Gd K.cold c c' m' H H' := ⟨g.pre, g.ext, g.new, g.frame, g.rel.cold⟩
theorem ExcV.warm {K : KW} {c : Anc} {H : Hp} {x : Exn} {cls : Value} {dd : Option Addr} (h : ExcV K.cold H c x cls dd) : ExcV K H c x cls dd := by
  obtain ⟨C, e1, e2, e3⟩ := h
  refine ⟨C, e1, e2, e3.imp (fun z => z) ?_⟩
  rintro ⟨dx, vs, q1, q2, q3, q4⟩
  exact ⟨dx, vs, q1, q2, q3, q4.warm⟩
section
variable {P : Program} {w : World} {mg : Str → Option Value} {base : Heap}
theorem Slo.start {K : KW} {H : Hp} {c : Anc} {N : List Str} {vs : List V} {ds : List D} (h : VDs K H c vs ds) (hl : ds.length ≤ N.length) : Slo K H c (ds.map some ++ List.replicate (N.length - ds.length) none) (start N vs) := by
  have e := h.length
  refine ⟨by simp [L2.start, e], fun i d q => ?_⟩
  by_cases hi : i < ds.length
  · rw [List.getElem?_append_left (by simpa using hi), List.getElem?_map] at q
    cases q2 : ds[i]? with
    | none => rw [q2] at q; cases q
    | some d' =>
      rw [q2] at q
      cases q
      obtain ⟨v, h1, h2⟩ := h.get q2
      refine ⟨v, ?_, h2⟩
      unfold L2.start
      rw [List.getElem?_append_left (by simpa [e] using hi), List.getElem?_map, h1]
      rfl
  · have hi' : ds.length ≤ i := Nat.le_of_not_lt hi
    rw [List.getElem?_append_right (by simpa using hi')] at q
    have := List.mem_of_getElem? q
    simp at this
end
def callR (den : Den) (ds : List D) (m : Store) : Res D := if nls ds then (den ds m.g).res m.l else .stuck
def callE (den : Den) (fl : FI) : FE := fun ρ m => (fl ρ m).bind fun ds m1 => callR den ds m1
section
variable {X : Cx} {W : WX} {a b e tg iter : Expr} {es : List Expr} {fa fb f : FE} {pos p : Pos} {c c' : Anc} {ρ : Rho} {m m' : Store} {σ : St} {H H' : Hp} {k n : Nat} {fn : Addr} {fd : FuncData} {ps : List Str} {den : Den} {x : Str} {fl : FI}
theorem callR_sp {vs : List V} {ds : List D} {Q : VK} (r : RelS X.kw c m H) (hv : VDs X.kw H c vs ds) (hl : ds.length = n) (w : Want X W c H σ (callR den ds m) Q) : spD X.kw.cold n den vs H Q (L2.WE W σ) := by
  unfold callR at w
  cases hn : nls ds with
  | false => rw [hn] at w; exact w.elim
  | true =>
    rw [hn] at w
    refine ⟨c.g, ds, m.g, hl, r.glob.cold, (VDs.nl ds hv hn).cold (nxs_of_nls _ hn), ?_⟩
    change Want X W c H σ ((den ds m.g).res m.l) Q at w
    cases q : den ds m.g with
    | ok d g' =>
      rw [q] at w
      intro cg' v H' g1 hv1
      have up : Pre ⟨cg', []⟩ ⟨cg', c.l⟩ := ⟨List.prefix_refl _, List.nil_prefix⟩
      exact w ⟨cg', c.l⟩ v H' (Gd.back r g1.warm) (VD.mono (Ext.refl _) up d hv1.warm)
    | exc x g' =>
      rw [q] at w
      intro cg' cls dd H' g1 hx
      have up : Pre ⟨cg', []⟩ ⟨cg', c.l⟩ := ⟨List.prefix_refl _, List.nil_prefix⟩
      refine w ⟨cg', c.l⟩ cls dd H' (Gd.back r g1.warm) ?_
      obtain ⟨C, e1, e2, e3⟩ := hx.warm
      refine ⟨C, e1, e2, e3.imp (fun z => z) ?_⟩
      rintro ⟨dx, vs, q1, q2, q3, q4⟩
      exact ⟨dx, vs, q1, q2, q3, VDs.mono (Ext.refl _) up _ q4⟩
    | stuck => rw [q] at w; exact w.elim
/-- lists of arguments have a length that is written -/
def lenA (n : Nat) (fl : FI) : Prop := ∀ ρ m ds m', fl ρ m = .ok ds m' → ds.length = n
theorem lenA_nil : lenA 0 nilA := fun ρ m ds m' e => by cases e; rfl
theorem lenA_cons {n : Nat} {f : FE} {g : FI} (h : lenA n g) : lenA (n + 1) (consA f g) := fun ρ m ds m' e => by
  unfold consA at e
  cases q : f ρ m with
  | ok d m1 =>
    simp only [q, Res.bind] at e
    cases q2 : g ρ m1 with
    | ok ds' m2 =>
      simp only [q2, Res.bind] at e
      cases e
      simp [h _ _ _ _ q2]
    | exc => simp only [q2, Res.bind] at e; cases e
    | stuck => simp only [q2, Res.bind] at e; cases e
  | exc => simp only [q, Res.bind] at e; cases e
  | stuck => simp only [q, Res.bind] at e; cases e
theorem de_call (F : FnOk X.prog X.w X.K X.mg X.base (L2.CX X.prog X.w) k fn fd ps (spD X.kw.cold n den)) (hr : Room k X.A) (hm : X.mg x = some (.ref fn)) (hk : PySem.W.keepIn X.K (.ref fn) = true) (hb : Binds X.K fd ps []) (tk : Takes X W) (ha : DA X W (e :: es) fl) (hl : lenA n fl)
    (hg : Gl X x := by rfl) (hdb : (x == ("__debug__" : Str)) = false := by decide) (he : starEach (e :: es) X.env = (false, eval e X.env) :: starEach es X.env := by rfl) (hpl : (backTo pos (starEach es X.env)).any (·.1) = false := by rfl) :
    DE X W (.Call (.Name x p) (e :: es) [] pos) (callE den fl) := fun c ρ m σ H Q r s w =>
  we_of (pe_callSD F hr hg hm hk hb .nil (fun σ => passAt tk σ) pa_w hdb he hpl) (by
    refine ha c ρ m σ H _ r s ?_
    unfold callE at w
    cases q : fl ρ m with
    | ok ds m1 =>
      rw [q] at w
      intro c1 vs H1 g1 hv
      rw [List.append_nil]
      exact callR_sp g1.rel hv (hl _ _ _ _ q) (Want.shift g1 w)
    | exc x m1 => rw [q] at w; exact w
    | stuck => rw [q] at w; exact w)
theorem de_call0 (F : FnOk X.prog X.w X.K X.mg X.base (L2.CX X.prog X.w) k fn fd ps (spD X.kw.cold 0 den)) (hr : Room k X.A) (hm : X.mg x = some (.ref fn)) (hk : PySem.W.keepIn X.K (.ref fn) = true) (hb : Binds X.K fd ps []) (tk : Takes X W)
    (hg : Gl X x := by rfl) (hdb : (x == ("__debug__" : Str)) = false := by decide) : DE X W (.Call (.Name x p) [] [] pos) (callE den nilA) := fun c ρ m σ H Q r s w => .mk fun pins st I => by
  refine wpAny_Call_Name_kw (ld_glob I hg hm ?_ hdb)
  refine PySem.W.callWith_K0 I.kIn hk (run_fnSD (us := []) (vs := []) (E := L2.WE W) F hr hb .nil (passAt tk σ) I .nil ?_)
  exact callR_sp (ds := []) r (by unfold VDs; rfl) rfl w
/-! ### op= at a name and at an item -/
def augS (i : Nat) (g : D → D → Store → OD) (f : FE) : FS := fun ρ m => match ρ[i]? with
  | some (some d) => (f ρ m).bindS ρ fun y m1 => match g d y m1 with
    | some (z, m2) => .nx (ρ.set i (some z)) m2
    | none => .stuck
  | _ => .stuck
theorem ds_aug (i : Nat) {op : Operator} {g : D → D → Store → OD} {pos' : Pos} (hN : X.N.Nodup) (ho : PIp X op (rOf X.kw g)) (he : DE X W e f) (hi : X.N[i]? = some x := by rfl) (hx : Loc X.env.scope x := by first | exact Or.inl rfl | exact Or.inr rfl) (hf : X.fn x = true ∨ X.env.scope.names.lookup x = some .local := by first | exact .inl rfl | exact .inr rfl | assumption) :
    DS X W (.AugAssign (.Name x pos') op e pos) (augS i g f) := fun c ρ m σ H En r s w => by
  unfold augS at w
  split at w
  · rename_i d q
    obtain ⟨v, h1, h2⟩ := s.at_ i d q
    refine wst_of (ps_aug hN hi hx pe_w ho hf) ⟨v, h1, he.thenS r s w fun y m1 c1 vy H1 r1 s1 g1 hy w1 => ?_⟩
    refine ⟨c1, m1, d, y, r1, g1.vd h2, hy, ?_⟩
    cases q2 : g d y m1 with
    | none => rw [q2] at w1; exact w1.elim
    | some zz =>
      obtain ⟨z, m2⟩ := zz
      rw [q2] at w1
      exact fun c2 vz H2 g2 hz => w1 c2 _ H2 g2 ((g2.slots s1).set i hz)
  · exact w.elim
end
end L2.Dn
namespace L2.Dn
open PySem PySem.Spec PyProof.Rows L2
/-! ### defs that are called where nothing is being shown -/
structure FnG (P : Program) (w : World) (K : PySem.W.Frag) (mg : Str → Option Value) (base : Heap) (k : Nat) (f : Addr) (fd : FuncData) (ps : List Str) (sp : Sp) : Prop where
  len : ∀ vs H Q E, sp vs H Q E → vs.length = ps.length
  go : ∀ (A : Around) (outer : List Env) (s : Shared) (H : Hp) (as : Args) (us : List Value) (vs : List V) (Q : VK) (E : XK), A.guards = some [] → Room k A →
    Env0 P w K mg base A outer s H → BindsTo s fd as (ps.zip us) → Vals vs us → sp vs H Q E →
    codeAny (model P w) A (.call (.ref f) as) (CR (L2.CX P w) outer P w H s Q E) s
theorem FnG.of {P : Program} {w : World} {K : PySem.W.Frag} {mg : Str → Option Value} {base : Heap} {k : Nat} {f : Addr} {fd : FuncData} {ps : List Str} {sp : Sp} (F : FnOk P w K mg base (L2.CX P w) k f fd ps sp) : FnG P w K mg base k f fd ps sp :=
  ⟨F.len, fun A outer s H as us vs Q E _ hr e b r h => F.run A outer s H as us vs Q E hr e b r h⟩
section
variable {P : Program} {w : World} {K : PySem.W.Frag} {mg : Str → Option Value} {base : Heap}
/-- a def by its body, where nothing is being shown around it -/
theorem fn_g {x qual : Str} {st : Stmt} {f : Addr} {fd : FuncData} {N ps : List Str} {k : Nat} {sp : Sp} (F : Fun K x qual st f fd) (S : FnScope N ps (defScope st)) (hlen : ∀ vs H Q E, sp vs H Q E → vs.length = ps.length)
    (hb : ∀ (cdv : Value) (A : Around) (outer : List Env) (s : Shared) (H : Hp) (vs : List V) (Q : VK) (E : XK), A.guards = some [] → Room k (A.deeper (envOfC qual (defScope st) s.heap.objs.size f cdv)) → sp vs H Q E →
      ∃ t, PSs (cxOf (L2.CX P w) P w K mg base N qual (defScope st) f cdv A outer s H E) (defBody st) t ∧ t ⟨fun _ H' => Q .non H', Q, fun _ _ => False, fun _ _ => False⟩ (start N vs) H) :
    FnG P w K mg base (k + 1) f fd ps sp := by
  obtain ⟨oc, od, kV, doc, pm, an, cdv, ct, osl, rfl, lk, hcd⟩ := F.ex
  refine ⟨hlen, fun A outer s H as us vs Q E hg hr env bd rl want => ?_⟩
  have stay : ∀ b o, base.get? b = some o → s.heap.get? b = some o := fun b o h => (env.bs b o h).1
  have kin : K.In s.heap := env.mod.kin.keeps stay
  refine codeAny_call_function hr.depth (kin _ _ lk) rfl S.co S.gen rfl (PySem.W.codeRec_of kin hcd) (bd _ _ _ _ ?_)
  refine wpAny_newFunctionEnv_cells S.kind (fun y hy => ?_) fun ev hev s1 ic => ?_
  · rcases S.par y.1 (List.of_mem_zip (show (y.1, y.2) ∈ ps.zip us from hy)).1 with q | q
    · exact Or.inl q
    · exact Or.inr ⟨q, PySem.W.cellsFrom_some _ _ _ (Or.inl q)⟩
  subst hev
  refine ⟨(env.mod.nolimit.keeps stay).keeps ic.toInCall.keep, codeAny_func ?_⟩
  obtain ⟨t, ht, q⟩ := hb cdv A outer s H vs Q E hg (hr.deeper _) want
  have J0 := inv_start (CX := L2.CX P w) (E := E) S hr.hd env (hlen _ _ _ _ want) rl ic
  refine wpAny_mono (ht.run [] s1 _ H _ J0 q) (fun fl s' out => ?_) fun _ _ z => z
  cases fl with
  | next => obtain ⟨_, H', J, z⟩ := out; exact ⟨.non, H', J.os, J.bare, J.base, J.hok, rfl, z⟩
  | ret u => obtain ⟨v, _, H', J, rv, z⟩ := out; exact ⟨v, H', J.os, J.bare, J.base, J.hok, rv, z⟩
  | brk => obtain ⟨_, _, _, z⟩ := out; exact z.elim
  | cont => obtain ⟨_, _, _, z⟩ := out; exact z.elim
theorem fn_denG {x qual : Str} {st : Stmt} {f : Addr} {fd : FuncData} {N ps : List Str} {k n np : Nat} {body : FS} (F : Fun K x qual st f fd) (S : FnScope N ps (defScope st)) (hN : N.length = n) (hp : ps.length = np) (hps : np ≤ n)
    (hb : ∀ (cdv : Value) (A : Around) (outer : List Env) (s : Shared) (H : Hp) (E : XK), A.guards = some [] → Room k (A.deeper (envOfC qual (defScope st) s.heap.objs.size f cdv)) →
      DSs (cxOf (L2.CX P w) P w K mg base N qual (defScope st) f cdv A outer s H E) (fun cls dd _ H' => E cls dd H') (defBody st) body) : FnG P w K mg base (k + 1) f fd ps (spD ⟨K, w, mg, none⟩ np (fnD n body)) := by
  subst hN hp
  refine fn_g F S (fun vs H Q E h => ?_) fun cdv A outer s H vs Q E hg hr h => ?_
  · obtain ⟨cg, ds, g, h1, h2, h3, h4⟩ := h
    rw [h3.length, h1]
  · obtain ⟨cg, ds, g, h1, h2, h3, h4⟩ := h
    refine ⟨_, pss_w, hb cdv A outer s H E hg hr ⟨cg, []⟩ _ ⟨g, []⟩ _ H _ h2 (Slo.start (N := N) h3 (by omega)) ?_⟩
    unfold fnD at h4
    cases q : body (ds.map some ++ List.replicate (N.length - ds.length) none) ⟨g, []⟩ with
    | nx ρ m =>
      rw [q] at h4
      exact fun c' σ' H' g1 s1 => h4 c'.g .non H' (Gd.glob (c := ⟨cg, []⟩) g1) (VD.non.mpr rfl)
    | rt d m =>
      rw [q] at h4
      cases hn : nl d with
      | false => simp only [fin, hn, Bool.false_eq_true, if_false] at h4
      | true =>
        simp only [fin, hn, if_true] at h4
        exact fun c' v H' g1 hv => h4 c'.g v H' (Gd.glob (c := ⟨cg, []⟩) g1) (VD.nl d hv hn)
    | exc x ρ m =>
      rw [q] at h4
      cases hn : nls (x.fs.map (·.2)) with
      | false => simp only [fin, hn, Bool.false_eq_true, if_false] at h4
      | true =>
        simp only [fin, hn, if_true] at h4
        intro c' σ' cls dd H' g1 s1 hx
        refine h4 c'.g cls dd H' (Gd.glob (c := ⟨cg, []⟩) g1) ?_
        obtain ⟨C, e1, e2, e3⟩ := hx
        refine ⟨C, e1, e2, e3.imp (fun z => z) ?_⟩
        rintro ⟨dx, vs, q1, q2, q3, q4⟩
        exact ⟨dx, vs, q1, q2, q3, VDs.nl _ q4 hn⟩
    | bk ρ m => rw [q] at h4; exact h4.elim
    | ct ρ m => rw [q] at h4; exact h4.elim
    | stuck => rw [q] at h4; exact h4.elim
end
section
variable {X : Cx} {W : WX} {a b e tg iter : Expr} {es : List Expr} {fa fb f : FE} {pos p : Pos} {c c' : Anc} {ρ : Rho} {m m' : Store} {σ : St} {H H' : Hp} {k n : Nat} {fn : Addr} {fd : FuncData} {ps : List Str} {den : Den} {x : Str} {fl : FI}
theorem run_g {sp : Sp} {pins : List (Addr × Obj)} {s : Shared} {Q : VK} {us : List Value} {vs : List V} (F : FnG X.prog X.w X.K X.mg X.base k fn fd ps sp) (hG : X.A.guards = some []) (hr : Room k X.A) (hb : Binds X.K fd ps []) (tk : Takes X W)
    (I : Inv X pins σ H s) (r : Vals vs us) (h : sp vs H Q (L2.WE W σ)) : wpAny (model X.prog X.w) X.A (call (.ref fn) us) (EP X pins σ Q) X.xe s := by
  have hl : us.length = ps.length := by rw [← r.length]; exact F.len _ _ _ _ h
  have bd := hb s us I.kIn (by rw [List.append_nil]; exact hl)
  rw [List.append_nil] at bd
  refine wpAny_call (codeAny_mono (F.go X.A X.stack s H ⟨us, []⟩ us vs Q (L2.WE W σ) hG hr I.env0 bd r h) fun out s' q => ?_)
  match out, q with
  | .error e, q => exact passAt tk σ pins H s e s' I q
  | .ok (.ret u), q => exact I.after q
theorem de_callG (F : FnG X.prog X.w X.K X.mg X.base k fn fd ps (spD X.kw.cold n den)) (hG : X.A.guards = some []) (hr : Room k X.A) (hm : X.mg x = some (.ref fn)) (hk : PySem.W.keepIn X.K (.ref fn) = true) (hb : Binds X.K fd ps []) (tk : Takes X W) (ha : DA X W (e :: es) fl) (hl : lenA n fl)
    (hg : Gl X x := by rfl) (hdb : (x == ("__debug__" : Str)) = false := by decide) (he : starEach (e :: es) X.env = (false, eval e X.env) :: starEach es X.env := by rfl) (hpl : (backTo pos (starEach es X.env)).any (·.1) = false := by rfl) :
    DE X W (.Call (.Name x p) (e :: es) [] pos) (callE den fl) := fun c ρ m σ H Q r s w => .mk fun pins st I => by
  have args : WA X (e :: es) σ H (fun vs H1 => spD X.kw.cold n den vs H1 Q (L2.WE W σ)) := by
    refine ha c ρ m σ H _ r s ?_
    unfold callE at w
    cases q : fl ρ m with
    | ok ds m1 =>
      rw [q] at w
      exact fun c1 vs H1 g1 hv => callR_sp g1.rel hv (hl _ _ _ _ q) (Want.shift g1 w)
    | exc x m1 => rw [q] at w; exact w
    | stuck => rw [q] at w; exact w
  refine wpAny_Call_Name_kw (ld_glob I hg hm (PySem.W.callWith_K (h₀ := X.base) I.ok.mod.kin hk ?_ he hpl) hdb)
  exact thn (args.go pos pins st I) fun us s1 ⟨vs, H1, I1, r1, q⟩ => ⟨I1.kIn, run_g F hG hr hb tk I1 r1 q⟩
theorem de_callG0 (F : FnG X.prog X.w X.K X.mg X.base k fn fd ps (spD X.kw.cold 0 den)) (hG : X.A.guards = some []) (hr : Room k X.A) (hm : X.mg x = some (.ref fn)) (hk : PySem.W.keepIn X.K (.ref fn) = true) (hb : Binds X.K fd ps []) (tk : Takes X W)
    (hg : Gl X x := by rfl) (hdb : (x == ("__debug__" : Str)) = false := by decide) : DE X W (.Call (.Name x p) [] [] pos) (callE den nilA) := fun c ρ m σ H Q r s w => .mk fun pins st I => by
  refine wpAny_Call_Name_kw (ld_glob I hg hm ?_ hdb)
  refine PySem.W.callWith_K0 I.kIn hk (run_g (us := []) (vs := []) F hG hr hb tk I .nil ?_)
  exact callR_sp (ds := []) r (by unfold VDs; rfl) rfl w
end
end L2.Dn
namespace L2.Dn
open PySem PySem.Spec PyProof.Rows L2
/-! ### data as they lie in the machine's heap, dicts among them -/
mutual
inductive Rds (h : Heap) : Value → PyData → Prop
  | none : Rds h .none .none
  | bool (b) : Rds h (.bool b) (.bool b)
  | int (i t) : Rds h (.int i t) (.int i)
  | str (x t) : Rds h (.str x t) (.str x)
  | list {a o vs n xs} : h.get? a = some o → o.cls = .type "list" → o.data = .seq vs n → RdsA h vs.toList xs → Rds h (.ref a) (.list xs)
  | tuple {a o vs n xs} : h.get? a = some o → o.cls = .type "tuple" → o.data = .seq vs n → RdsA h vs.toList xs → Rds h (.ref a) (.tuple xs)
  | dict {a o es n ks} : (a == sysModules) = false → h.get? a = some o → o.cls = .type "dict" → o.data = .dict es n → RdsA h (es.toList.map (·.key)) (ks.map (·.1)) → RdsA h (es.toList.map (·.val)) (ks.map (·.2)) → Rds h (.ref a) (.dict ks)
inductive RdsA (h : Heap) : List Value → List PyData → Prop
  | nil : RdsA h [] []
  | cons {v vs d ds} : Rds h v d → RdsA h vs ds → RdsA h (v :: vs) (d :: ds)
end
mutual
theorem Rds.reads {h : Heap} : ∀ {v : Value} {d : PyData}, Rds h v d → ∃ as, Reads h v d as
  | _, _, .none => ⟨_, .none⟩
  | _, _, .bool b => ⟨_, .bool b⟩
  | _, _, .int i t => ⟨_, .int i t⟩
  | _, _, .str x t => ⟨_, .str x t⟩
  | _, _, .list h1 h2 h3 h4 => let ⟨_, r⟩ := RdsA.reads h4; ⟨_, .list h1 h2 h3 r⟩
  | _, _, .tuple h1 h2 h3 h4 => let ⟨_, r⟩ := RdsA.reads h4; ⟨_, .tuple h1 h2 h3 r⟩
  | _, _, .dict _ h1 h2 h3 h4 h5 => let ⟨_, r⟩ := RdsA.reads h4; let ⟨_, q⟩ := RdsA.reads h5; ⟨_, .dict h1 h2 h3 r q⟩
theorem RdsA.reads {h : Heap} : ∀ {vs : List Value} {ds : List PyData}, RdsA h vs ds → ∃ as, ReadsAll h vs ds as
  | _, _, .nil => ⟨_, .nil⟩
  | _, _, .cons r q => let ⟨_, x⟩ := Rds.reads r; let ⟨_, y⟩ := RdsA.reads q; ⟨_, .cons x y⟩
end
section
variable {P : Program} {w : World} {h : Heap}
mutual
theorem Rds.shows : ∀ {v : Value} {d : PyData}, Rds h v d → d.showable = true → d.shown.length ≤ sizeLine → ∃ bs, ReadAtMost h d.depth bs ∧ ReprK P w bs h d.depth v d.shown
  | _, _, .none, _, _ => ⟨[], (fun _ z => nomatch z), ReprK.of_is (by simpa only [PyData.shown] using ReprIs.none) _ _ _⟩
  | _, _, .bool b, _, _ => ⟨[], (fun _ z => nomatch z), ReprK.of_is (by simpa only [PyData.shown] using ReprIs.bool b) _ _ _⟩
  | _, _, .int i t, s, _ => ⟨[], (fun _ z => nomatch z), ReprK.of_is (by simpa only [PyData.shown] using ReprIs.int t (by simpa [PyData.showable] using s)) _ _ _⟩
  | _, _, .str x t, _, z => ⟨[], (fun _ z => nomatch z), ReprK.of_is (by simpa only [PyData.shown] using ReprIs.str x t (by simpa only [PyData.shown] using z)) _ _ _⟩
  | _, _, .list (vs := vs) h1 h2 h3 h4, s, z => by
    simp only [PyData.shown] at z
    obtain ⟨bs, hb, hk⟩ := RdsA.shows h4 (by simpa [PyData.showable] using s) fun t m => Nat.le_trans (listText_mem_le m) z
    obtain ⟨as, ra⟩ := RdsA.reads h4
    have whole := Reads.list h1 h2 h3 ra
    have out := not_mem_of_deeper whole (Nat.lt_succ_self _) hb
    refine ⟨_ :: bs, ReadAtMost.cons whole (Nat.le_succ _) hb, ?_⟩
    simp only [PyData.depth, PyData.shown]
    obtain ⟨l⟩ := vs
    cases l with
    | nil =>
      have h4' : RdsA h [] _ := h4
      cases h4'
      rw [PyData.shownAll, listText_nil]
      exact .listEmpty h1 h2 h3
    | cons x l => exact .list h1 h2 h3 out (by simpa using hk.length_eq) fun i y q => hk.item i y (by simpa using q)
  | _, _, .tuple h1 h2 h3 h4, s, z => by
    simp only [PyData.shown] at z
    obtain ⟨bs, hb, hk⟩ := RdsA.shows h4 (by simpa [PyData.showable] using s) fun t m => Nat.le_trans (tupleText_mem_le m) z
    obtain ⟨as, ra⟩ := RdsA.reads h4
    have whole := Reads.tuple h1 h2 h3 ra
    refine ⟨_ :: bs, ReadAtMost.cons whole (Nat.le_succ _) hb, ?_⟩
    simp only [PyData.depth, PyData.shown]
    exact .tuple h1 h2 h3 (not_mem_of_deeper whole (Nat.lt_succ_self _) hb) hk
  | _, _, .dict (es := es) (ks := ks) h0 h1 h2 h3 h4 h5, s, z => by
    simp only [PyData.shown] at z
    obtain ⟨s1, s2⟩ := PyData.showableKv_split ks (by simpa [PyData.showable] using s)
    obtain ⟨b1, r1, k1⟩ := RdsA.shows h4 s1 fun t m => by
      obtain ⟨p, hp, hl⟩ := PyData.shownKv_key_le ks t m
      exact Nat.le_trans hl (Nat.le_trans (dictText_mem_le hp) z)
    obtain ⟨b2, r2, k2⟩ := RdsA.shows h5 s2 fun t m => by
      obtain ⟨p, hp, hl⟩ := PyData.shownKv_val_le ks t m
      exact Nat.le_trans hl (Nat.le_trans (dictText_mem_le hp) z)
    obtain ⟨as, ra⟩ := RdsA.reads h4
    obtain ⟨cs, rc⟩ := RdsA.reads h5
    have whole := Reads.dict h1 h2 h3 ra rc
    have hb := (r1.mono (PyData.depthAll_keys_le ks)).append (r2.mono (PyData.depthAll_vals_le ks))
    refine ⟨_ :: (b1 ++ b2), ReadAtMost.cons whole (Nat.le_succ _) hb, ?_⟩
    simp only [PyData.depth, PyData.shown, PyData.shownKv_eq]
    refine .dict h1 h2 h3 h0 (not_mem_of_deeper whole (Nat.lt_succ_self _) hb) (ReprEntriesK.of_two es.toList _ _ ?_ ?_)
    · exact k1.more_le (fun b m => List.mem_append_left _ m) (PyData.depthAll_keys_le ks)
    · exact k2.more_le (fun b m => List.mem_append_right _ m) (PyData.depthAll_vals_le ks)
theorem RdsA.shows : ∀ {vs : List Value} {ds : List PyData}, RdsA h vs ds → PyData.showableAll ds = true → (∀ t ∈ PyData.shownAll ds, t.length ≤ sizeLine) → ∃ bs, ReadAtMost h (PyData.depthAll ds) bs ∧ ReprAllK P w bs h (PyData.depthAll ds) vs (PyData.shownAll ds)
  | _, _, .nil, _, _ => ⟨[], (fun _ z => nomatch z), by rw [PyData.shownAll]; exact .nil⟩
  | _, _, .cons (d := d) (ds := ds) r q, s, z => by
    simp only [PyData.showableAll, Bool.and_eq_true] at s
    simp only [PyData.shownAll] at z ⊢
    obtain ⟨b1, r1, k1⟩ := Rds.shows r s.1 (z _ List.mem_cons_self)
    obtain ⟨b2, r2, k2⟩ := RdsA.shows q s.2 fun t m => z t (List.mem_cons_of_mem _ m)
    have d1 : d.depth ≤ PyData.depthAll (d :: ds) := by simp only [PyData.depthAll]; exact Nat.le_max_left _ _
    have d2 : PyData.depthAll ds ≤ PyData.depthAll (d :: ds) := by simp only [PyData.depthAll]; exact Nat.le_max_right _ _
    exact ⟨b1 ++ b2, (r1.mono d1).append (r2.mono d2), .cons ((k1.more fun b m => List.mem_append_left _ m).level_le d1) (k2.more_le (fun b m => List.mem_append_right _ m) d2)⟩
end
/-- repr(v) -/
theorem Rds.call {A : Around} {E : Value → Shared → Prop} {s : Shared} {Q : Value → Shared → Prop} {v : Value} {d : PyData} (r : Rds s.heap v d) (hs : d.showable = true) (hz : d.shown.length ≤ sizeLine) (hg : A.guards = some []) (hu : A.units + (d.depth + 1) < cLine)
    (hQ : ∀ h' u tk, (∀ b o, s.heap.get? b = some o → h'.get? b = some o) → Q (.str d.shown u) { s with heap := h', toks := tk }) : wpAny (model P w) A (call (.builtin "repr") [v]) Q E s := by
  have hu1 : A.units + 1 < cLine := by omega
  have clr : ∀ {bs : List Addr}, ∀ b ∈ bs, Clear [] b := fun b _ => Clear.nil b
  cases r with
  | none => simp only [PyData.shown] at hQ; exact PySem.P.repr_of_none (hQ s.heap _ _ fun _ _ e => e)
  | bool b => simp only [PyData.shown] at hQ; exact PySem.P.repr_of_bool (hQ s.heap _ _ fun _ _ e => e)
  | int i t => simp only [PyData.shown] at hQ; exact PySem.P.repr_of_int (by simpa [PyData.showable] using hs) (hQ s.heap _ _ fun _ _ e => e)
  | str x t => simp only [PyData.shown] at hQ hz; exact PySem.P.repr_of_str (hQ s.heap _ _ fun _ _ e => e) hz
  | @list a o vs n xs h1 h2 h3 h4 =>
    simp only [PyData.shown] at hQ hz
    simp only [PyData.depth] at hu
    obtain ⟨bs, hb, hk⟩ := RdsA.shows (P := P) (w := w) h4 (by simpa [PyData.showable] using hs) fun t m => Nat.le_trans (listText_mem_le m) hz
    obtain ⟨as, ra⟩ := RdsA.reads h4
    have out := not_mem_of_deeper (Reads.list h1 h2 h3 ra) (Nat.lt_succ_self _) hb
    refine call_repr_slot hu1 ⟨o, h1, h2⟩ F.slot_list_repr.toG ?_
    obtain ⟨l⟩ := vs
    cases l with
    | nil =>
      have h4' : RdsA s.heap [] xs := h4
      cases h4'
      rw [PyData.shownAll, listText_nil] at hQ
      exact call_list_repr_empty ⟨o, h1, h2⟩ h1 h3 ⟨_, _, rfl, hQ s.heap _ _ fun _ _ e => e⟩
    | cons x l =>
      refine call_list_reprK h1 h2 h3 out (by simpa using hk.length_eq) (fun i y q => hk.item i y (by simpa using q)) (A := A.in1) hg clr ?_ (fun _ _ e => e) (fun h' u tk k => ⟨_, _, rfl, hQ h' u tk k⟩) hz
      show A.units + 1 + _ < cLine
      omega
  | @tuple a o vs n xs h1 h2 h3 h4 =>
    simp only [PyData.shown] at hQ hz
    simp only [PyData.depth] at hu
    obtain ⟨bs, hb, hk⟩ := RdsA.shows (P := P) (w := w) h4 (by simpa [PyData.showable] using hs) fun t m => Nat.le_trans (tupleText_mem_le m) hz
    obtain ⟨as, ra⟩ := RdsA.reads h4
    have out := not_mem_of_deeper (Reads.tuple h1 h2 h3 ra) (Nat.lt_succ_self _) hb
    refine call_repr_slot hu1 ⟨o, h1, h2⟩ F.slot_tuple_repr ?_
    refine call_tuple_reprK h1 h2 h3 out hk (A := A.in1) hg clr ?_ (fun _ _ e => e) (fun h' u tk k => ⟨_, _, rfl, hQ h' u tk k⟩) hz
    show A.units + 1 + _ < cLine
    omega
  | @dict a o es n ks h0 h1 h2 h3 h4 h5 =>
    simp only [PyData.shown] at hQ hz
    simp only [PyData.depth] at hu
    obtain ⟨s1, s2⟩ := PyData.showableKv_split ks (by simpa [PyData.showable] using hs)
    obtain ⟨b1, r1, k1⟩ := RdsA.shows (P := P) (w := w) h4 s1 fun t m => by
      obtain ⟨p, hp, hl⟩ := PyData.shownKv_key_le ks t m
      exact Nat.le_trans hl (Nat.le_trans (dictText_mem_le hp) hz)
    obtain ⟨b2, r2, k2⟩ := RdsA.shows (P := P) (w := w) h5 s2 fun t m => by
      obtain ⟨p, hp, hl⟩ := PyData.shownKv_val_le ks t m
      exact Nat.le_trans hl (Nat.le_trans (dictText_mem_le hp) hz)
    obtain ⟨as, ra⟩ := RdsA.reads h4
    obtain ⟨cs, rc⟩ := RdsA.reads h5
    have hb := (r1.mono (PyData.depthAll_keys_le ks)).append (r2.mono (PyData.depthAll_vals_le ks))
    have out := not_mem_of_deeper (Reads.dict h1 h2 h3 ra rc) (Nat.lt_succ_self _) hb
    rw [PyData.shownKv_eq] at hz
    simp only [PyData.shownKv_eq] at hQ
    refine call_repr_slot hu1 ⟨o, h1, h2⟩ F.slot_dict_repr ?_
    refine call_dict_reprK h1 h2 h3 h0 out (ReprEntriesK.of_two es.toList _ _ (k1.more_le (fun b m => List.mem_append_left _ m) (PyData.depthAll_keys_le ks)) (k2.more_le (fun b m => List.mem_append_right _ m) (PyData.depthAll_vals_le ks))) (A := A.in1) hg clr ?_ (fun _ _ e => e) (fun h' u tk k => ⟨_, _, rfl, hQ h' u tk k⟩) hz
    show A.units + 1 + _ < cLine
    omega
end
/-! ### data as the layer tracks them -/
mutual
inductive DpA (K : KW) (H : Hp) : V → PyData → Prop
  | non : DpA K H .non .none
  | bl (b : Bool) : DpA K H (.bl b) (.bool b)
  | int (i : Int) : DpA K H (.int i) (.int i)
  | str (x : Str) : DpA K H (.str x) (.str x)
  | lst {a : Addr} {xs : List V} {ds : List PyData} : RdL K H a xs → DpAs K H xs ds → DpA K H (.ref a) (.list ds)
  | tup {a : Addr} {xs : List V} {ds : List PyData} : SqT K H a xs → DpAs K H xs ds → DpA K H (.ref a) (.tuple ds)
  | dG {a : Addr} {es : List (NestedKey × V × V)} {ds : List (PyData × PyData)} : Rd H a (gdO K.w a es) → DpAs K H (es.map (·.2.1)) (ds.map (·.1)) → DpAs K H (es.map (·.2.2)) (ds.map (·.2)) → DpA K H (.ref a) (.dict ds)
inductive DpAs (K : KW) (H : Hp) : List V → List PyData → Prop
  | nil : DpAs K H [] []
  | cons {v : V} {vs : List V} {d : PyData} {ds : List PyData} : DpA K H v d → DpAs K H vs ds → DpAs K H (v :: vs) (d :: ds)
end
mutual
theorem DpZ.any {K : KW} {H : Hp} : ∀ {v : V} {d : PyData}, DpZ K H v d → DpA K H v d
  | _, _, .non => .non
  | _, _, .bl b => .bl b
  | _, _, .int i => .int i
  | _, _, .str x => .str x
  | _, _, .lst h r => .lst h.rd (DpZs.any r)
  | _, _, .tup h r => .tup h (DpZs.any r)
  | _, _, .dG h q h8 hn r r' => .dG (.inr ⟨_, h⟩) (DpZs.any r) (DpZs.any r')
theorem DpZs.any {K : KW} {H : Hp} : ∀ {vs : List V} {ds : List PyData}, DpZs K H vs ds → DpAs K H vs ds
  | _, _, .nil => .nil
  | _, _, .cons h r => .cons (DpZ.any h) (DpZs.any r)
end
section
variable {X : Cx} {pins : List (Addr × Obj)} {σ : St} {H : Hp} {s : Shared}
theorem gd_vals {w : World} : ∀ {es : List (NestedKey × V × V)} {ens : List DictEntry}, Paired (fun (e : NestedKey × V × V) (x : DictEntry) => x.hash = e.1.hash w ∧ RelV e.2.1 x.key ∧ RelV e.2.2 x.val) es ens → Vals (es.map (·.2.1)) (ens.map (·.key)) ∧ Vals (es.map (·.2.2)) (ens.map (·.val))
  | _, _, .nil => ⟨.nil, .nil⟩
  | _, _, .cons h r => ⟨.cons h.2.1 (gd_vals r).1, .cons h.2.2 (gd_vals r).2⟩
mutual
theorem DpA.rds (I : Inv X pins σ H s) : ∀ {v : V} {d : PyData} {u : Value}, DpA X.kw H v d → RelV v u → Rds s.heap u d
  | _, _, u, .non, r => by cases r; exact .none
  | _, _, u, .bl b, r => by cases r; exact .bool b
  | _, _, u, .int i, r => by obtain ⟨t, rfl⟩ := r; exact .int i t
  | _, _, u, .str x, r => by obtain ⟨t, rfl⟩ := r; exact .str x t
  | _, _, u, .lst h q, r => by
    cases r
    obtain ⟨z, its, n, rv, e⟩ := h.obj I
    exact .list e rfl rfl (DpAs.rds I q (by simpa using rv))
  | _, _, u, .tup h q, r => by
    cases r
    obtain ⟨its, rv, ⟨o, e, hc, n, hd⟩, z⟩ := I.tuple h
    exact .tuple e hc hd (DpAs.rds I q (by simpa using rv))
  | _, _, u, .dG h q q', r => by
    cases r
    have z : ObjOk X.prog X.w H s.heap _ (HO.ext _) := h.ok I.hok
    obtain ⟨o, ens, ep, h0, h1, h2, h3, h4⟩ := z.1
    obtain ⟨p1, p2⟩ := gd_vals h4
    exact .dict h0 h1 h2.1 h3 (DpAs.rds I q p1) (DpAs.rds I q' p2)
theorem DpAs.rds (I : Inv X pins σ H s) : ∀ {vs : List V} {ds : List PyData} {us : List Value}, DpAs X.kw H vs ds → Vals vs us → RdsA s.heap us ds
  | _, _, us, .nil, r => by cases r; exact .nil
  | _, _, us, .cons h q, r => by
    cases r with
    | cons r1 r2 => exact .cons (DpA.rds I h r1) (DpAs.rds I q r2)
end
end
/-- the whole datum, through the cells -/
def deepAll (f : D → Option PyData) : List D → Option (List PyData)
  | [] => some []
  | d :: ds => match f d, deepAll f ds with
    | some x, some xs => some (x :: xs)
    | _, _ => none
def deep (m : Store) : Nat → D → Option PyData
  | _, .p d => some d
  | n + 1, .tup xs => (deepAll (deep m n) xs).map .tuple
  | n + 1, .lst xs => (deepAll (deep m n) xs).map .list
  | n + 1, .dct ks xs => (deepAll (deep m n) xs).map fun vs => .dict (ks.zip vs)
  | n + 1, .cell i => match m.at_ i with
    | some (.lst xs) => (deepAll (deep m n) xs).map .list
    | some (.dct kvs) => (deepAll (deep m n) (kvs.map (·.2))).map fun vs => .dict ((kvs.map (·.1)).zip vs)
    | _ => none
  | _, _ => none
theorem deepAll_ok {K : KW} {H : Hp} {c : Anc} {f : D → Option PyData} (hf : ∀ v d p, VD K H c v d → f d = some p → DpA K H v p) : ∀ (xs : List D) (vs : List V) (ps : List PyData), VDs K H c vs xs → deepAll f xs = some ps → DpAs K H vs ps
  | [], vs, ps, h, e => by
    cases e
    unfold VDs at h
    subst h
    exact .nil
  | d :: ds, vs, ps, h, e => by
    unfold VDs at h
    obtain ⟨v, r, e1, h1, h2⟩ := h
    subst e1
    unfold deepAll at e
    split at e
    · rename_i x xs q1 q2
      cases e
      exact .cons (hf v d x h1 q1) (deepAll_ok hf ds r xs h2 q2)
    · cases e
theorem DpAs.len {K : KW} {H : Hp} : ∀ {vs : List V} {ds : List PyData}, DpAs K H vs ds → vs.length = ds.length
  | _, _, .nil => rfl
  | _, _, .cons _ r => by simp [DpAs.len r]
theorem DpA.dict {K : KW} {H : Hp} {a : Addr} {es : List (NestedKey × V × V)} {ks vs : List PyData} (h : Rd H a (gdO K.w a es)) (hk : DpZs K H (es.map (·.2.1)) ks) (hv : DpAs K H (es.map (·.2.2)) vs) : DpA K H (.ref a) (.dict (ks.zip vs)) := by
  have l1 : es.length = ks.length := by have := hk.any.len; simpa using this
  have l2 : es.length = vs.length := by have := hv.len; simpa using this
  refine .dG h ?_ ?_
  · rw [List.map_fst_zip (by omega)]; exact hk.any
  · rw [List.map_snd_zip (by omega)]; exact hv
theorem deep_ok {K : KW} {H : Hp} {c : Anc} {m : Store} (r : RelS K c m H) (n : Nat) : ∀ (v : V) (d : D) (p : PyData), VD K H c v d → deep m n d = some p → DpA K H v p := by
  induction n with
  | zero =>
    intro v d p h e
    cases d with
    | p d =>
      have e : some d = some p := e
      cases e
      unfold VD at h
      exact DpZ.any h
    | _ => cases e
  | succ n ih =>
    intro v d p h e
    cases d with
    | p d =>
      have e : some d = some p := e
      cases e
      unfold VD at h
      exact DpZ.any h
    | tup xs =>
      obtain ⟨a, vs, e1, h1, h2⟩ := tupOf_ok (ds := xs) h rfl
      have e : (deepAll (deep m n) xs).map PyData.tuple = some p := e
      obtain ⟨ps, q1, q2⟩ := Option.map_eq_some_iff.mp e
      subst e1 q2
      exact .tup h1 (deepAll_ok ih xs vs ps h2 q1)
    | lst xs =>
      obtain ⟨a, vs, e1, h1, h2⟩ := lstOf_ok (ds := xs) r h rfl
      have e : (deepAll (deep m n) xs).map PyData.list = some p := e
      obtain ⟨ps, q1, q2⟩ := Option.map_eq_some_iff.mp e
      subst e1 q2
      exact .lst h1 (deepAll_ok ih xs vs ps h2 q1)
    | dct ks xs =>
      have e : (deepAll (deep m n) xs).map (fun vs => PyData.dict (ks.zip vs)) = some p := e
      obtain ⟨ps, q1, q2⟩ := Option.map_eq_some_iff.mp e
      unfold VD at h
      obtain ⟨a, o, es, e1, h1, h2, h3⟩ := h
      subst e1 q2
      exact DpA.dict (.inr ⟨o, h1⟩) h2.kd (deepAll_ok ih xs _ ps h3 q1)
    | cell i =>
      have h0 := h
      unfold VD at h
      obtain ⟨a, h1, e1⟩ := h
      have e : (match m.at_ i with
        | some (.lst xs) => (deepAll (deep m n) xs).map PyData.list
        | some (.dct kvs) => (deepAll (deep m n) (kvs.map (·.2))).map fun vs => PyData.dict ((kvs.map (·.1)).zip vs)
        | _ => none) = some p := e
      split at e
      · rename_i xs hm
        obtain ⟨ps, q1, q2⟩ := Option.map_eq_some_iff.mp e
        obtain ⟨a, vs, e1, h1, h2⟩ := lstOf_ok (ds := xs) r h0 (by simp only [lstOf, hm])
        subst e1 q2
        exact .lst h1 (deepAll_ok ih xs vs ps h2 q1)
      · rename_i kvs hm
        obtain ⟨ps, q1, q2⟩ := Option.map_eq_some_iff.mp e
        obtain ⟨es, g1, g2⟩ := r.at_ i a _ h1 hm
        subst e1 q2
        have g3 := g2.warm.mono (Ext.refl _) (forI_le _ _)
        exact DpA.dict (.inl g1) g3.kd (deepAll_ok ih _ _ ps g3.vd q1)
      · cases e
    | obj _ _ _ => cases e
    | exn _ _ _ => cases e
    | fn _ => cases e
    | ty _ => cases e
/-- the whole datum -/
def whole (m : Store) (d : D) : Option PyData := deep m 8 d
theorem whole_p (m : Store) (d : PyData) : whole m (.p d) = some d := rfl
/-! ### repr, ==, in -/
def reprD : List D → Store → OD
  | [d], m => match whole m d with
    | some p => if p.showable = true ∧ p.shown.length ≤ sizeLine ∧ p.depth ≤ 60 then some (.p (.str p.shown), m) else none
    | none => none
  | _, _ => none
def eqP (neg : Bool) (x y : D) (m : Store) : OD := match whole m x, whole m y with
  | some p, some q => if SeqAt.shaped p = true ∧ SeqAt.shaped q = true then some (.p (.bool (if neg then !PyData.eqv p q else PyData.eqv p q)), m) else none
  | _, _ => none
section
variable {X : Cx}
theorem call_repr (hG : X.A.guards = some []) (hu : X.A.units + 64 < cLine) : CallR X (.builtin "repr") (rOfL X.kw reprD) := by
  intro pins s σ H xs us Q I rv h
  obtain ⟨c, m, ds, r, hv, w⟩ := h
  unfold reprD at w
  split at w
  · rename_i d
    obtain ⟨v, e1, hv1⟩ := VDs.onlyOne hv
    subst e1
    obtain ⟨u, rfl, ru⟩ := vals1 rv
    split at w
    · rename_i p hp
      split at w
      · rename_i hc
        have rd := DpA.rds I (deep_ok r 8 v d p hv1 hp) ru
        refine rd.call hc.1 hc.2.1 hG (by omega) fun h' t tk k => ?_
        exact ⟨.str p.shown, H, I.kept (t' := tk) k, ⟨t, rfl⟩, w.now r (VD.str.mpr rfl)⟩
      · exact w.elim
    · exact w.elim
  · exact w.elim
theorem op_eqP (hu : X.A.units + 64 < cLine) : OpR X (compareOp .Eq) (rOf X.kw (eqP false)) := by
  intro pins s σ H x y v u Q I rx ry h
  obtain ⟨c, m, dx, dy, r, h1, h2, w⟩ := h
  unfold eqP at w
  split at w
  · rename_i p q hp hq
    split at w
    · rename_i hc
      obtain ⟨as, ra⟩ := (DpA.rds I (deep_ok r 8 _ _ _ h1 hp) rx).reads
      obtain ⟨bs, rb⟩ := (DpA.rds I (deep_ok r 8 _ _ _ h2 hq) ry).reads
      exact SeqAt.compareEq_shaped ra rb hc.1 hc.2 hu ⟨.bl _, H, I, rfl, w.now r (VD.bl.mpr rfl)⟩
    · exact w.elim
  · exact w.elim
theorem op_neP (hu : X.A.units + 64 < cLine) : OpR X (compareOp .NotEq) (rOf X.kw (eqP true)) := by
  intro pins s σ H x y v u Q I rx ry h
  obtain ⟨c, m, dx, dy, r, h1, h2, w⟩ := h
  unfold eqP at w
  split at w
  · rename_i p q hp hq
    split at w
    · rename_i hc
      obtain ⟨as, ra⟩ := (DpA.rds I (deep_ok r 8 _ _ _ h1 hp) rx).reads
      obtain ⟨bs, rb⟩ := (DpA.rds I (deep_ok r 8 _ _ _ h2 hq) ry).reads
      exact SeqAt.compareNe_shaped ra rb hc.1 hc.2 hu ⟨.bl _, H, I, rfl, w.now r (VD.bl.mpr rfl)⟩
    · exact w.elim
  · exact w.elim
end
end L2.Dn
namespace L2.Dn
open PySem PySem.Spec PyProof.Rows L2
/-! ### numbers -/
def intOp (C : Int → Int → Bool) (g : Int → Int → PyData) : D → D → Store → OD
  | .p (.int i), .p (.int j), m => if C i j then some (.p (g i j), m) else none
  | _, _, _ => none
def anyI : Int → Int → Bool := fun _ _ => true
section
variable {X : Cx}
theorem opInt {fn : Value → Value → Sem Value} {C : Int → Int → Prop} {g : Int → Int → V} {B : Int → Int → Bool} {h : Int → Int → PyData} (ho : OpR X fn (rI C g)) (hB : ∀ i j, B i j = true → C i j) (hg : ∀ K H i j, DpZ K H (g i j) (h i j)) : OpR X fn (rOf X.kw (intOp B h)) := by
  refine OpR.by_ ho fun x y H Q w => ?_
  obtain ⟨c, m, dx, dy, r, h1, h2, w⟩ := w
  unfold intOp at w
  split at w
  · rename_i i j
    cases hb : B i j with
    | false => rw [hb] at w; exact w.elim
    | true =>
      rw [hb] at w
      exact ⟨i, j, VD.int.mp h1, VD.int.mp h2, hB i j hb, .inl (WantO.now r w (by unfold VD; exact hg _ _ i j))⟩
  · exact w.elim
theorem opInt0 {fn : Value → Value → Sem Value} {g : Int → Int → V} {h : Int → Int → PyData} (ho : OpR X fn (rI0 g)) (hg : ∀ K H i j, DpZ K H (g i j) (h i j)) : OpR X fn (rOf X.kw (intOp anyI h)) := by
  refine OpR.by_ ho fun x y H Q w => ?_
  obtain ⟨c, m, dx, dy, r, h1, h2, w⟩ := w
  unfold intOp at w
  split at w
  · rename_i i j
    exact ⟨i, j, VD.int.mp h1, VD.int.mp h2, .inl (WantO.now r w (by unfold VD; exact hg _ _ i j))⟩
  · exact w.elim
def addI := intOp anyI fun i j => .int (i + j)
def subI := intOp anyI fun i j => .int (i - j)
def ltI := intOp anyI fun i j => .bool (decide (i < j))
def leI := intOp anyI fun i j => .bool (decide (i ≤ j))
def gtI := intOp anyI fun i j => .bool (decide (j < i))
def geI := intOp anyI fun i j => .bool (decide (j ≤ i))
def small (i : Int) : Bool := decide (-(2 ^ 64) < i) && decide (i < 2 ^ 64)
def mulI := intOp (fun i j => small i || small j) fun i j => .int (i * j)
def modI := intOp (fun _ j => decide (0 < j)) fun i j => .int (i % j)
/-- a divisor below 2 ^ 64, whatever is divided -/
def fdivI := intOp (fun _ j => decide (0 < j) && decide (j < 2 ^ 64)) fun i j => .int (i / j)
def powI := intOp (fun i j => decide (0 ≤ j) && decide (j ≤ 1000) && small i) fun i j => .int (i ^ j.toNat)
theorem op_addI : OpR X (binaryOp .Add) (rOf X.kw addI) := opInt0 op_add fun _ _ i j => .int _
theorem op_subI : OpR X (binaryOp .Sub) (rOf X.kw subI) := opInt0 op_sub fun _ _ i j => .int _
theorem op_ltI : OpR X (compareOp .Lt) (rOf X.kw ltI) := opInt0 op_lt fun _ _ i j => .bl _
theorem op_leI : OpR X (compareOp .LtE) (rOf X.kw leI) := opInt0 op_le fun _ _ i j => .bl _
theorem op_gtI : OpR X (compareOp .Gt) (rOf X.kw gtI) := opInt0 op_gt fun _ _ i j => .bl _
theorem op_geI : OpR X (compareOp .GtE) (rOf X.kw geI) := opInt0 op_ge fun _ _ i j => .bl _
theorem op_modI : OpR X (binaryOp .Mod) (rOf X.kw modI) := opInt op_mod (fun i j h => of_decide_eq_true h) fun _ _ i j => .int _
theorem small_iff {i : Int} (h : small i = true) : -(2 ^ 64) < i ∧ i < 2 ^ 64 := by
  simp only [small, Bool.and_eq_true, decide_eq_true_eq] at h
  exact h
theorem op_mulI : OpR X (binaryOp .Mult) (rOf X.kw mulI) := opInt op_mul (fun i j h => by
  rcases Bool.or_eq_true_iff.mp h with h | h
  · exact .inl (small_iff h)
  · exact .inr (small_iff h)) fun _ _ i j => .int _
theorem op_fdivI : OpR X (binaryOp .FloorDiv) (rOf X.kw fdivI) := opInt op_fdivW (fun i j h => by
  simp only [Bool.and_eq_true, decide_eq_true_eq] at h
  exact wide_div (b := 64) h.1 (by omega) (by decide) (by decide)) fun _ _ i j => .int _
theorem op_powI : OpR X (binaryOp .Pow) (rOf X.kw powI) := opInt op_pow (fun i j h => by
  simp only [Bool.and_eq_true, decide_eq_true_eq] at h
  have := small_iff h.2
  exact ⟨h.1.1, by omega, by omega⟩) fun _ _ i j => .int _
def negI : D → Store → OD
  | .p (.int i), m => some (.p (.int (-i)), m)
  | _, _ => none
theorem un_negI : UnR X (unaryOp .USub) (rOf1 X.kw negI) := by
  refine UnR.by_ un_neg fun x H Q w => ?_
  obtain ⟨c, m, dx, r, h1, w⟩ := w
  unfold negI at w
  split at w
  · exact ⟨_, VD.int.mp h1, .inl (WantO.now r w (VD.int.mpr rfl))⟩
  · exact w.elim
/-! ### + of texts, lists, tuples -/
def addS : D → D → Store → OD
  | .p (.str x), .p (.str y), m => if x.length + y.length ≤ sizeLine then some (.p (.str (x ++ y)), m) else none
  | _, _, _ => none
theorem op_addS : OpR X (binaryOp .Add) (rOf X.kw addS) := by
  refine OpR.by_ op_add_str fun x y H Q w => ?_
  obtain ⟨c, m, dx, dy, r, h1, h2, w⟩ := w
  unfold addS at w
  split at w
  · split at w
    · rename_i hz
      exact ⟨_, _, VD.str.mp h1, VD.str.mp h2, hz, .inl (WantO.now r w (VD.str.mpr rfl))⟩
    · exact w.elim
  · exact w.elim
theorem op_catR : OpR X (binaryOp .Add) (fun x y H Q => ∃ l b xs zs, x = .ref l ∧ y = .ref b ∧ RdL X.K H l xs ∧ RdL X.K H b zs ∧ xs.length + zs.length ≤ sizeLine ∧ ∀ p, H p = none → Q (.ref p) (upd H p (.lst (xs ++ zs)))) := by
  intro pins s σ H x y v u Q I rx ry h
  obtain ⟨l, b, xs, zs, rfl, rfl, hA, hB, hz, q⟩ := h
  cases rx
  cases ry
  obtain ⟨_, i1, n1, r1, e1⟩ := hA.obj I
  obtain ⟨_, i2, n2, r2, e2⟩ := hB.obj I
  have l1 := r1.length
  have l2 := r2.length
  refine PySem.P.add_list e1 e2 ?_ (by simp only [List.size_toArray]; omega)
  rw [show i1.toArray ++ i2.toArray = (i1 ++ i2).toArray by simp]
  exact ⟨.ref _, _, I.lnew (t' := s.toks) (r1.append r2) (by simpa using hz), rfl, q _ I.fresh⟩
def addL (z : Md) (x y : D) (m : Store) : OD := match lstOf x m, lstOf y m with
  | some xs, some ys => if xs.length + ys.length ≤ sizeLine then newO z (xs ++ ys) m else none
  | _, _ => none
theorem op_addL (z : Md) : OpR X (binaryOp .Add) (rOf X.kw (addL z)) := by
  refine OpR.by_ op_catR fun x y H Q w => ?_
  obtain ⟨c, m, dx, dy, r, h1, h2, w⟩ := w
  unfold addL at w
  split at w
  · rename_i xs ys q1 q2
    split at w
    · rename_i hz
      obtain ⟨a, vs, e1, k1, k2⟩ := lstOf_ok r h1 q1
      obtain ⟨b, ws, e2, k3, k4⟩ := lstOf_ok r h2 q2
      exact ⟨a, b, vs, ws, e1, e2, k1, k3, by rw [k2.length, k4.length]; exact hz, newO_ok r (k2.append k4) w⟩
    · exact w.elim
  · exact w.elim
def addT (x y : D) (m : Store) : OD := match tupOf x, tupOf y with
  | some xs, some ys => if xs.length + ys.length ≤ sizeLine then some (mkTup (xs ++ ys), m) else none
  | _, _ => none
theorem op_addT : OpR X (binaryOp .Add) (rOf X.kw addT) := by
  refine OpR.by_ op_catA fun x y H Q w => ?_
  obtain ⟨c, m, dx, dy, r, h1, h2, w⟩ := w
  unfold addT at w
  split at w
  · rename_i xs ys q1 q2
    split at w
    · rename_i hz
      obtain ⟨a, vs, e1, k1, k2⟩ := tupOf_ok h1 q1
      obtain ⟨b, ws, e2, k3, k4⟩ := tupOf_ok h2 q2
      refine ⟨a, b, vs, ws, e1, e2, k1, k3, by rw [k2.length, k4.length]; exact hz, fun e => ?_, fun _ e => ?_, fun _ _ p hp => .inl (newTO_ok r (k2.append k4) w p hp)⟩
      · subst e
        have e : xs = [] := List.eq_nil_of_length_eq_zero (by rw [← k2.length]; rfl)
        subst e
        exact .inl (WantO.now r w (mkTup_ok k4 k3))
      · subst e
        have e : ys = [] := List.eq_nil_of_length_eq_zero (by rw [← k4.length]; rfl)
        subst e
        rw [List.append_nil] at w
        exact .inl (WantO.now r w (mkTup_ok k2 k1))
    · exact w.elim
  · exact w.elim
/-- a text times an int -/
def mulS : D → D → Store → OD
  | .p (.str x), .p (.int n), m => if decide (-1000000 ≤ n) && decide (n ≤ 1000000) && decide (x.length ≤ 16) then some (.p (.str (Txt.mul x n)), m) else none
  | _, _, _ => none
theorem op_mulS : OpR X (binaryOp .Mult) (rOf X.kw mulS) := by
  intro pins s σ H x y v u Q I rx ry h
  obtain ⟨c, m, dx, dy, r, h1, h2, w⟩ := h
  unfold mulS at w
  split at w
  · rename_i z n
    split at w
    · rename_i hz
      simp only [Bool.and_eq_true, decide_eq_true_eq] at hz
      cases VD.str.mp h1
      cases VD.int.mp h2
      obtain ⟨t, rfl⟩ := rx
      obtain ⟨t', rfl⟩ := ry
      refine PySem.SB.mul ⟨?_, fun a b => ?_, fun a b => ?_⟩ fun t2 k => ⟨.str _, H, I.tok k, ⟨t2, rfl⟩, WantO.now r w (VD.str.mpr rfl)⟩
      · simp only [Bool.or_eq_false_iff, decide_eq_false_iff_not]
        constructor <;> omega
      · have hn : 0 < n := by omega
        intro hgt
        have h3 : ((z.length : Int)) * n ≤ 16 * 1000000 := by
          have a1 : (z.length : Int) * n ≤ 16 * n := Int.mul_le_mul_of_nonneg_right (by omega) (by omega)
          omega
        have h4 : (z.length : Int) ≤ (2 ^ 63 - 1) / n := (Int.le_ediv_iff_mul_le hn).mpr (by omega)
        omega
      · have h3 : z.length * n.toNat ≤ 16 * 1000000 := Nat.mul_le_mul hz.2 (by omega)
        unfold Builtin.Str.tooLong
        simp only [decide_eq_false_iff_not]
        rw [sizeLine_eq]
        omega
    · exact w.elim
  · exact w.elim
/-! ### items, slices -/
def ixD (d i : D) (m : Store) : OD := match i with
  | .p (.int k) => match d with
    | .p (.str x) => if x.length ≤ sizeLine then (match atI x.cps.toList k with
      | some n => some (.p (.str ⟨#[n]⟩), m)
      | none => none) else none
    | d => match tupOf d with
      | some xs => (atI xs k).map fun y => (y, m)
      | none => match lstOf d m with
        | some xs => (atI xs k).map fun y => (y, m)
        | none => none
  | _ => none
theorem VDs.atI {K : KW} {H : Hp} {c : Anc} {vs : List V} {ds : List D} {k : Int} {d : D} (h : VDs K H c vs ds) (e : L2.atI ds k = some d) : ∃ v, L2.atI vs k = some v ∧ VD K H c v d := by
  unfold L2.atI at e ⊢
  rw [h.length]
  cases q : ixN ds.length k with
  | none => rw [q] at e; cases e
  | some j =>
    rw [q] at e
    obtain ⟨v, h1, h2⟩ := h.get (show ds[j]? = some d from e)
    exact ⟨v, h1, h2⟩
theorem ix_D : IxR X (rOf X.kw ixD) := by
  refine IxR.by_ ix_seq fun x y H Q w => ?_
  obtain ⟨c, m, dx, dy, r, h1, h2, w⟩ := w
  unfold ixD at w
  split at w
  · rename_i k
    split at w
    · rename_i z
      split at w
      · rename_i hz
        split at w
        · rename_i n hn
          exact .inr (.inr ⟨z, k, n, VD.str.mp h1, VD.int.mp h2, hz, hn, .inl (WantO.now r w (VD.str.mpr rfl))⟩)
        · exact w.elim
      · exact w.elim
    · split at w
      · rename_i xs hx
        cases q : atI xs k with
        | none => rw [q] at w; exact w.elim
        | some d =>
          rw [q] at w
          obtain ⟨a, vs, e1, k1, k2⟩ := tupOf_ok h1 hx
          obtain ⟨v, e2, hv⟩ := k2.atI q
          exact .inr (.inl ⟨a, vs, k, v, e1, VD.int.mp h2, k1, e2, .inl (WantO.now r w hv)⟩)
      · split at w
        · rename_i xs hx
          cases q : atI xs k with
          | none => rw [q] at w; exact w.elim
          | some d =>
            rw [q] at w
            obtain ⟨a, vs, e1, k1, k2⟩ := lstOf_ok r h1 hx
            obtain ⟨v, e2, hv⟩ := k2.atI q
            exact .inl ⟨a, vs, k, v, e1, VD.int.mp h2, RdL.sq k1, e2, .inl (WantO.now r w hv)⟩
        · exact w.elim
  · exact w.elim
def cutD (xs : List D) (lo hi : Option Int) : List D := (xs.drop (HT.sIx xs.length 0 lo)).take (HT.sIx xs.length xs.length hi - HT.sIx xs.length 0 lo)
theorem VDs.cut {K : KW} {H : Hp} {c : Anc} {vs : List V} {ds : List D} (h : VDs K H c vs ds) (lo hi : Option Int) : VDs K H c (cutV vs lo hi) (cutD ds lo hi) := by
  unfold cutV cutD
  rw [h.length]
  exact (h.drop _).take _
def slL (z : Md) (d : D) (lo hi : Option Int) (m : Store) : OD := match lstOf d m with
  | some xs => newO z (cutD xs lo hi) m
  | none => none
theorem sl_L (z : Md) : SlR X (rOfS X.kw (slL z)) := by
  refine SlR.by_ sl_list fun x lo hi H Q w => ?_
  obtain ⟨c, m, dx, r, h1, w⟩ := w
  unfold slL at w
  split at w
  · rename_i xs hx
    obtain ⟨a, vs, e1, k1, k2⟩ := lstOf_ok r h1 hx
    exact ⟨a, vs, e1, RdL.sq k1, newO_ok r (k2.cut lo hi) w⟩
  · exact w.elim
def slS (d : D) (lo hi : Option Int) (m : Store) : OD := match d with
  | .p (.str x) => if x.length ≤ sizeLine then some (.p (.str (cutS x lo hi)), m) else none
  | _ => none
theorem sl_S : SlR X (rOfS X.kw slS) := by
  refine SlR.by_ sl_str fun x lo hi H Q w => ?_
  obtain ⟨c, m, dx, r, h1, w⟩ := w
  unfold slS at w
  split at w
  · split at w
    · rename_i hz
      exact ⟨_, VD.str.mp h1, hz, .inl (WantO.now r w (VD.str.mpr rfl))⟩
    · exact w.elim
  · exact w.elim
def slT (d : D) (lo hi : Option Int) (m : Store) : OD := match tupOf d with
  | some xs => some (mkTup (cutD xs lo hi), m)
  | none => none
theorem sl_T : SlR X (rOfS X.kw slT) := by
  refine SlR.by_ sl_tupA fun x lo hi H Q w => ?_
  obtain ⟨c, m, dx, r, h1, w⟩ := w
  unfold slT at w
  split at w
  · rename_i xs hx
    obtain ⟨a, vs, e1, k1, k2⟩ := tupOf_ok h1 hx
    refine ⟨a, vs, e1, k1, fun hw => ?_, fun _ p hp => .inl (newTO_ok r (k2.cut lo hi) w p hp)⟩
    have e : cutV vs lo hi = vs := by
      unfold cutV
      rw [hw.1, hw.2]
      simp
    have k3 := k2.cut lo hi
    rw [e] at k3
    exact .inl (WantO.now r w (mkTup_ok k3 k1))
  · exact w.elim
variable {W : WX} {a b e : Expr} {fa f : FE} {pos : Pos}
def revE (z : Md) (f : FE) : FE := fun ρ m => (f ρ m).bind fun d m1 => match lstOf d m1 with
  | some xs => newL z xs.reverse m1
  | none => .stuck
theorem VDs.reverse {K : KW} {H : Hp} {c : Anc} : ∀ {ds : List D} {vs : List V}, VDs K H c vs ds → VDs K H c vs.reverse ds.reverse
  | [], vs, h => by unfold VDs at h; subst h; simp [VDs]
  | d :: ds, vs, h => by
    unfold VDs at h
    obtain ⟨v, r, e1, h1, h2⟩ := h
    subst e1
    rw [List.reverse_cons, List.reverse_cons]
    exact (VDs.reverse h2).append (VDs.one h1)
theorem de_rev (z : Md) {k : Nat} {p1 p2 p3 : Pos} (h : DE X W e f) : DE X W (.Subscript e (.Slice none none (some (.UnaryOp .USub (.Constant (.int 1) k p1) p2)) p3) pos) (revE z f) := fun c ρ m σ H Q r s w =>
  WE.frz (we_of (pe_revL pe_w) (h.thenE r s w fun d m1 c1 v H1 r1 s1 g1 h1 w1 => by
    split at w1
    · rename_i xs hx
      obtain ⟨a, vs, e1, k1, k2⟩ := lstOf_ok r1 h1 hx
      exact ⟨a, vs, e1, RdL.sq k1, newL_ok r1 k2.reverse w1⟩
    · exact w1.elim))
end
end L2.Dn
namespace L2.Dn
open PySem PySem.Spec PyProof.Rows L2
/-! ### built-in functions -/
def absD : List D → Store → OD
  | [.p (.int i)], m => some (.p (.int (if i < 0 then -i else i)), m)
  | _, _ => none
def intD : List D → Store → OD
  | [.p (.int i)], m => some (.p (.int i), m)
  | [.p (.bool b)], m => some (.p (.int (if b then 1 else 0)), m)
  | _, _ => none
def lenD : List D → Store → OD
  | [.p (.str x)], m => if x.length ≤ sizeLine then some (.p (.int x.length), m) else none
  | [d], m => match tupOf d with
    | some xs => some (.p (.int xs.length), m)
    | none => match lstOf d m with
      | some xs => some (.p (.int xs.length), m)
      | none => none
  | _, _ => none
def bools : List D → Option (List Bool)
  | [] => some []
  | .p (.bool b) :: r => (bools r).map (b :: ·)
  | _ :: _ => none
def allD : List D → Store → OD
  | [d], m => match lstOf d m with
    | some xs => (bools xs).map fun bs => (.p (.bool (bs.all id)), m)
    | none => none
  | _, _ => none
def anyD : List D → Store → OD
  | [d], m => match lstOf d m with
    | some xs => (bools xs).map fun bs => (.p (.bool (bs.any id)), m)
    | none => none
  | _, _ => none
def tupleD : List D → Store → OD
  | [d], m => match tupOf d with
    | some _ => some (d, m)
    | none => match lstOf d m with
      | some xs => some (mkTup xs, m)
      | none => none
  | _, _ => none
def listD (z : Md) : List D → Store → OD
  | [d], m => match tupOf d with
    | some xs => newO z xs m
    | none => match lstOf d m with
      | some xs => newO z xs m
      | none => none
  | _, _ => none
/-- the name of the built-in type -/
def tyN : D → Store → Option String
  | .p .none, _ => some "NoneType"
  | .p (.bool _), _ => some "bool"
  | .p (.int _), _ => some "int"
  | .p (.str _), _ => some "str"
  | .p (.list _), _ => some "list"
  | .p (.tuple _), _ => some "tuple"
  | .p (.dict _), _ => some "dict"
  | .tup _, _ => some "tuple"
  | .lst _, _ => some "list"
  | .dct _ _, _ => some "dict"
  | .cell i, m => match m.at_ i with
    | some (.lst _) => some "list"
    | some (.dct _) => some "dict"
    | _ => none
  | _, _ => none
def tysOf : List D → Option (List String)
  | [] => some []
  | .ty n :: r => (tysOf r).map (n :: ·)
  | _ :: _ => none
def kitBs (t : String) : List String → Option Bool
  | [] => some false
  | n :: ns => match kitB t n with
    | some true => some true
    | some false => kitBs t ns
    | none => none
def isiD : List D → Store → OD
  | [d, .ty n], m => match tyN d m with
    | some t => (kitB t n).map fun b => (.p (.bool b), m)
    | none => none
  | [d, .tup xs], m => match tyN d m, tysOf xs with
    | some t, some ns => (kitBs t ns).map fun b => (.p (.bool b), m)
    | _, _ => none
  | _, _ => none
theorem tysOf_ok {K : KW} {H : Hp} {c : Anc} : ∀ {xs : List D} {vs : List V} {ns : List String}, VDs K H c vs xs → tysOf xs = some ns → vs = ns.map V.ty
  | [], vs, ns, h, e => by
    unfold VDs at h
    cases e
    exact h
  | .ty n :: r, vs, ns, h, e => by
    unfold VDs at h
    obtain ⟨v, q, e1, h1, h2⟩ := h
    simp only [tysOf, Option.map_eq_some_iff] at e
    obtain ⟨ms, e2, rfl⟩ := e
    unfold VD at h1
    rw [e1, h1, tysOf_ok h2 e2]
    rfl
  | .p _ :: _, _, _, _, e => by cases e
  | .cell _ :: _, _, _, _, e => by cases e
  | .tup _ :: _, _, _, _, e => by cases e
  | .lst _ :: _, _, _, _, e => by cases e
  | .dct _ _ :: _, _, _, _, e => by cases e
  | .obj _ _ _ :: _, _, _, _, e => by cases e
  | .exn _ _ _ :: _, _, _, _, e => by cases e
  | .fn _ :: _, _, _, _, e => by cases e
theorem kitBs_ok {K : PySem.W.Frag} {t : String} : ∀ {ns : List String} {b : Bool}, kitBs t ns = some b → PySem.W.kitAny K (.type t) (ns.map Value.type) = some b
  | [], b, e => e
  | n :: ns, b, e => by
    unfold kitBs at e
    show (match PySem.W.kitOne K (.type t) (.type n) with | some true => some true | some false => PySem.W.kitAny K (.type t) (ns.map Value.type) | none => none) = some b
    cases q : kitB t n with
    | none => rw [q] at e; cases e
    | some k =>
      rw [kit_ty q]
      rw [q] at e
      cases k with
      | true => exact e
      | false => exact kitBs_ok e
theorem tys_vals : ∀ {ns : List String} {us : List Value}, Vals (ns.map V.ty) us → us = ns.map Value.type
  | [], _, .nil => rfl
  | n :: ns, _, .cons r t => by
    cases r
    rw [tys_vals t]
    rfl
section
variable {X : Cx} {c : Anc} {H : Hp} {m : Store}
theorem call_absD : CallR X (.builtin "abs") (rOfL X.kw absD) := by
  refine CallR.by_ call_abs fun xs H Q w => ?_
  obtain ⟨c, m, ds, r, hv, w⟩ := w
  unfold absD at w
  split at w
  · obtain ⟨v, e, h⟩ := VDs.onlyOne hv
    cases VD.int.mp h
    exact ⟨_, e, .inl (WantO.now r w (VD.int.mpr rfl))⟩
  · exact w.elim
theorem call_intD : CallR X (.type "int") (rOfL X.kw intD) := by
  refine CallR.by_ call_int1 fun xs H Q w => ?_
  obtain ⟨c, m, ds, r, hv, w⟩ := w
  unfold intD at w
  split at w
  · obtain ⟨v, e, h⟩ := VDs.onlyOne hv
    cases VD.int.mp h
    exact .inl ⟨_, e, .inl (WantO.now r w (VD.int.mpr rfl))⟩
  · obtain ⟨v, e, h⟩ := VDs.onlyOne hv
    cases VD.bl.mp h
    exact .inr ⟨_, e, .inl (WantO.now r w (VD.int.mpr rfl))⟩
  · exact w.elim
theorem call_lenD : CallR X (.builtin "len") (rOfL X.kw lenD) := by
  refine CallR.by_ L2.call_len fun xs H Q w => ?_
  obtain ⟨c, m, ds, r, hv, w⟩ := w
  unfold lenD at w
  split at w
  · split at w
    · rename_i hz
      obtain ⟨v, e, h⟩ := VDs.onlyOne hv
      cases VD.str.mp h
      exact ⟨_, _, e, ⟨hz, rfl⟩, .inl (WantO.now r w (VD.int.mpr rfl))⟩
    · exact w.elim
  · obtain ⟨v, e, h⟩ := VDs.onlyOne hv
    split at w
    · rename_i xs hx
      obtain ⟨a, vs, e1, k1, k2⟩ := tupOf_ok h hx
      subst e1
      exact ⟨_, xs.length, e, .inr ⟨vs, k1, k2.length.symm⟩, .inl (WantO.now r w (VD.int.mpr rfl))⟩
    · split at w
      · rename_i xs hx
        obtain ⟨a, vs, e1, k1, k2⟩ := lstOf_ok r h hx
        subst e1
        exact ⟨_, xs.length, e, .inl ⟨vs, RdL.sq k1, k2.length.symm⟩, .inl (WantO.now r w (VD.int.mpr rfl))⟩
      · exact w.elim
  · exact w.elim
theorem bools_cons {d : D} {ds : List D} {bs : List Bool} (e : bools (d :: ds) = some bs) : ∃ k ks, d = .p (.bool k) ∧ bools ds = some ks ∧ bs = k :: ks := by
  match d, e with
  | .p (.bool k), e =>
    have e : (bools ds).map (k :: ·) = some bs := e
    simp only [Option.map_eq_some_iff] at e
    obtain ⟨ks, e1, e2⟩ := e
    exact ⟨k, ks, rfl, e1, e2.symm⟩
theorem bools_ok {K : KW} : ∀ {ds : List D} {vs : List V} {bs : List Bool}, VDs K H c vs ds → bools ds = some bs → vs = bs.map V.bl
  | [], vs, bs, h, e => by unfold VDs at h; subst h; cases e; rfl
  | d :: ds, vs, bs, h, e => by
    unfold VDs at h
    obtain ⟨v, r, e1, h1, h2⟩ := h
    obtain ⟨k, ks, q1, q2, q3⟩ := bools_cons e
    subst e1 q1 q3
    rw [VD.bl.mp h1, bools_ok h2 q2]
    rfl
theorem call_allD (hc : X.calm = true) : CallR X (.builtin "all") (rOfL X.kw allD) := by
  refine CallR.by_ (cr_all hc) fun xs H Q w => ?_
  obtain ⟨c, m, ds, r, hv, w⟩ := w
  unfold allD at w
  split at w
  · obtain ⟨v, e, h⟩ := VDs.onlyOne hv
    split at w
    · rename_i xs hx
      obtain ⟨a, vs, e1, k1, k2⟩ := lstOf_ok r h hx
      cases q : bools xs with
      | none => rw [q] at w; exact w.elim
      | some bs =>
        rw [q] at w
        have eb := bools_ok k2 q
        subst eb e1
        exact ⟨a, bs, e, RdL.sq k1, .inl (WantO.now r w (VD.bl.mpr rfl))⟩
    · exact w.elim
  · exact w.elim
theorem call_tupleD : CallR X (.type "tuple") (rOfL X.kw tupleD) := by
  refine CallR.by_ call_tuple_of fun xs H Q w => ?_
  obtain ⟨c, m, ds, r, hv, w⟩ := w
  unfold tupleD at w
  split at w
  · obtain ⟨v, e, h⟩ := VDs.onlyOne hv
    split at w
    · rename_i xs hx
      obtain ⟨a, vs, e1, k1, k2⟩ := tupOf_ok h hx
      subst e1
      exact ⟨a, vs, e, .inr ⟨k1, .inl (WantO.now r w h)⟩⟩
    · split at w
      · rename_i xs hx
        obtain ⟨a, vs, e1, k1, k2⟩ := lstOf_ok r h hx
        subst e1
        exact ⟨a, vs, e, .inl ⟨RdL.sq k1, fun l hl => .inl (newTO_ok r k2 w l hl)⟩⟩
      · exact w.elim
  · exact w.elim
theorem call_listD (z : Md) : CallR X (.type "list") (rOfL X.kw (listD z)) := by
  refine CallR.by_ call_list_of fun xs H Q w => ?_
  obtain ⟨c, m, ds, r, hv, w⟩ := w
  unfold listD at w
  split at w
  · obtain ⟨v, e, h⟩ := VDs.onlyOne hv
    split at w
    · rename_i xs hx
      obtain ⟨a, vs, e1, k1, k2⟩ := tupOf_ok h hx
      subst e1
      exact ⟨a, vs, e, .inr k1, newO_ok r k2 w⟩
    · split at w
      · rename_i xs hx
        obtain ⟨a, vs, e1, k1, k2⟩ := lstOf_ok r h hx
        subst e1
        exact ⟨a, vs, e, .inl (RdL.sq k1), newO_ok r k2 w⟩
      · exact w.elim
  · exact w.elim
theorem tyT {K : KW} {a : Addr} {vs : List V} (h : SqT K H a vs) : TyX K H (.ref a) (.type "tuple") := by
  rcases h with (h | ⟨o, h⟩) | ⟨o, its, n, hk, hc, _⟩
  · exact .base (.tup h)
  · exact .fTuple h
  · exact .kTuple hk hc
theorem tyL {K : KW} {a : Addr} {vs : List V} (h : FzL K H a vs) : TyX K H (.ref a) (.type "list") := by
  rcases h with ⟨o, h⟩ | ⟨its, n, hk, _⟩
  · exact .base (.frz h)
  · exact .kList hk rfl
/-- the type of a value, dicts of any keys among them -/
inductive TyG (K : KW) (H : Hp) : V → Value → Prop where
  | x {v : V} {t : Value} (h : TyX K H v t) : TyG K H v t
  | d {a : Addr} {es : List (NestedKey × V × V)} (h : Rd H a (gdO K.w a es)) : TyG K H (.ref a) (.type "dict")
theorem kitG {pins : List (Addr × Obj)} {σ : St} {s : Shared} {x : V} {u t : Value} (I : Inv X pins σ H s) (rx : RelV x u) (ty : TyG X.kw H x t) : ∃ P : Heap → Prop, PySem.W.KitX X.K u t P ∧ P s.heap ∧ u ≠ .builtin "__main__.__loader__#opaque" := by
  cases ty with
  | x h => exact kit_of I rx h
  | d h =>
    cases rx
    have z : ObjOk X.prog X.w H s.heap _ (HO.ext _) := h.ok I.hok
    obtain ⟨o, ens, ep, h0, h1, h2, _⟩ := z.1
    exact ⟨_, PySem.W.kitx_dict, ⟨o, h1, h2.1⟩, fun z => nomatch z⟩
theorem tyN_ok {v : V} {d : D} {t : String} (r : RelS X.kw c m H) (h : VD X.kw H c v d) (e : tyN d m = some t) : TyG X.kw H v (.type t) := by
  unfold tyN at e
  split at e
  · cases e; cases VD.non.mp h; exact .x (.base .non)
  · cases e; cases VD.bl.mp h; exact .x (.base (.bl _))
  · cases e; cases VD.int.mp h; exact .x (.base (.int _))
  · cases e; cases VD.str.mp h; exact .x (.base (.str _))
  · cases e
    unfold VD at h
    cases h with
    | lst f q => exact .x (tyL f)
  · cases e
    unfold VD at h
    cases h with
    | tup f q => exact .x (tyT f)
  · cases e
    unfold VD at h
    cases h with
    | dG f _ _ _ _ _ => exact .d (.inr ⟨_, f⟩)
  · cases e
    obtain ⟨a, vs, e1, h2, _⟩ := tupOf_ok h rfl
    subst e1
    exact .x (tyT h2)
  · cases e
    unfold VD at h
    obtain ⟨a, vs, e1, h2, _⟩ := h
    subst e1
    exact .x (tyL h2)
  · cases e
    unfold VD at h
    obtain ⟨a, o, es, rfl, h2, _⟩ := h
    exact .d (.inr ⟨_, h2⟩)
  · unfold VD at h
    obtain ⟨a, h1, e1⟩ := h
    subst e1
    split at e
    · rename_i xs hm
      cases e
      obtain ⟨ys, h2, _⟩ := r.at_ _ _ _ h1 hm
      exact .x (.base (.lst h2))
    · rename_i xs hm
      cases e
      obtain ⟨ys, h2, _⟩ := r.at_ _ _ _ h1 hm
      exact .d (.inl h2)
    · cases e
  · cases e
theorem call_isiD : CallR X (.builtin "isinstance") (rOfL X.kw isiD) := by
  intro pins s σ H xs us Q I rv w
  obtain ⟨c, m, ds, r, hv, w⟩ := w
  unfold isiD at w
  split at w
  · rename_i d n
    obtain ⟨v, v', e, h1, h2⟩ := VDs.two hv
    unfold VD at h2
    subst h2 e
    split at w
    · rename_i t ht
      cases q : kitB t n with
      | none => rw [q] at w; exact w.elim
      | some b =>
        rw [q] at w
        obtain ⟨u1, u2, rfl, r1, r2⟩ := vals2 rv
        cases r2
        obtain ⟨P, Z, p, hx⟩ := kitG I r1 (tyN_ok r h1 ht)
        exact PySem.W.kia_one Z I.kIn p (kit_ty q) hx fun tk => ⟨.bl b, H, I.tok tk, rfl, WantO.now r w (VD.bl.mpr rfl)⟩
    · exact w.elim
  · rename_i d ts
    obtain ⟨v, v', e, h1, h2⟩ := VDs.two hv
    subst e
    unfold VD at h2
    obtain ⟨a, vs, rfl, h3, h4⟩ := h2
    split at w
    · rename_i t ns ht hn
      cases q : kitBs t ns with
      | none => rw [q] at w; exact w.elim
      | some b =>
        rw [q] at w
        obtain ⟨u1, u2, rfl, r1, r2⟩ := vals2 rv
        cases r2
        have e1 := tysOf_ok h4 hn
        subst e1
        obtain ⟨its, rv2, ⟨o, e2, hc, n, hd⟩, z⟩ := I.tuple h3
        have e3 := tys_vals rv2
        obtain ⟨oc, od, dt, sl⟩ := o
        simp only at hc hd
        subst hc hd
        have e4 : its = ns.map Value.type := e3
        obtain ⟨P, Z, p, hx⟩ := kitG I r1 (tyN_ok r h1 ht)
        exact PySem.W.kia_tup Z I.kIn p e2 (by rw [e4]; exact kitBs_ok q) hx fun tk => ⟨.bl b, H, I.tok tk, rfl, WantO.now r w (VD.bl.mpr rfl)⟩
    · exact w.elim
  · exact w.elim
/-! ### in -/
mutual
theorem DpA.dp {K : KW} : ∀ {v : V} {d : PyData}, DpA K H v d → d.canLay0 = true → Dp K H v d
  | _, _, .non, _ => .non
  | _, _, .bl b, _ => .bl b
  | _, _, .int i, _ => .int i
  | _, _, .str x, _ => .str x
  | _, _, .lst h r, e => .lst (RdL.sq h) (DpAs.dp r (by simpa [PyData.canLay0] using e))
  | _, _, .tup h r, e => .tup h (DpAs.dp r (by simpa [PyData.canLay0] using e))
  | _, _, .dG h q r, e => by simp [PyData.canLay0] at e
theorem DpAs.dp {K : KW} : ∀ {vs : List V} {ds : List PyData}, DpAs K H vs ds → PyData.canLayAll0 ds = true → DpAll K H vs ds
  | _, _, .nil, _ => .nil
  | _, _, .cons h r, e => by
    simp only [PyData.canLayAll0, Bool.and_eq_true] at e
    exact .cons (DpA.dp h e.1) (DpAs.dp r e.2)
end
def inL (neg : Bool) (x y : D) (m : Store) : OD := match whole m x, whole m y with
  | some p, some (.list qs) => if SeqAt.shaped p = true ∧ SeqAt.shaped (.list qs) = true then some (.p (.bool (if neg then !(qs.any fun z => PyData.eqv z p) else qs.any fun z => PyData.eqv z p)), m) else none
  | _, _ => none
theorem op_inL (hu : X.A.units + 65 < cLine) : OpR X (compareOp .In) (rOf X.kw (inL false)) := by
  refine OpR.by_ (op_inD hu) fun x y H Q w => ?_
  obtain ⟨c, m, dx, dy, r, h1, h2, w⟩ := w
  unfold inL at w
  split at w
  · rename_i p qs e1 e2
    split at w
    · rename_i hs
      exact ⟨p, qs, (deep_ok r 8 _ _ _ h1 e1).dp (SeqAt.canLay_of_shaped hs.1), (deep_ok r 8 _ _ _ h2 e2).dp (SeqAt.canLay_of_shaped hs.2), hs.1, hs.2, .inl (WantO.now r w (VD.bl.mpr rfl))⟩
    · exact w.elim
  · exact w.elim
theorem op_notInL (hu : X.A.units + 65 < cLine) : OpR X (compareOp .NotIn) (rOf X.kw (inL true)) := by
  refine OpR.by_ (op_notInD hu) fun x y H Q w => ?_
  obtain ⟨c, m, dx, dy, r, h1, h2, w⟩ := w
  unfold inL at w
  split at w
  · rename_i p qs e1 e2
    split at w
    · rename_i hs
      exact ⟨p, qs, (deep_ok r 8 _ _ _ h1 e1).dp (SeqAt.canLay_of_shaped hs.1), (deep_ok r 8 _ _ _ h2 e2).dp (SeqAt.canLay_of_shaped hs.2), hs.1, hs.2, .inl (WantO.now r w (VD.bl.mpr rfl))⟩
    · exact w.elim
  · exact w.elim
/-- a text in a tuple of texts -/
def strsOf : List PyData → Option (List Str)
  | [] => some []
  | .str x :: r => (strsOf r).map (x :: ·)
  | _ :: _ => none
def inTs (neg : Bool) (x y : D) (m : Store) : OD := match x, y with
  | .p (.str z), .p (.tuple qs) => (strsOf qs).map fun ys => (.p (.bool (if neg then !(ys.contains z) else ys.contains z)), m)
  | _, _ => none
theorem strs_cons {d : PyData} {ds : List PyData} {bs : List Str} (e : strsOf (d :: ds) = some bs) : ∃ k ks, d = .str k ∧ strsOf ds = some ks ∧ bs = k :: ks := by
  match d, e with
  | .str k, e =>
    have e : (strsOf ds).map (k :: ·) = some bs := e
    simp only [Option.map_eq_some_iff] at e
    obtain ⟨ks, e1, e2⟩ := e
    exact ⟨k, ks, rfl, e1, e2.symm⟩
theorem strs_ok {K : KW} : ∀ {ds : List PyData} {vs : List V} {ys : List Str}, DpZs K H vs ds → strsOf ds = some ys → vs = ys.map V.str
  | _, _, ys, .nil, e => by cases e; rfl
  | _, _, ys, .cons (d := d) h r, e => by
    obtain ⟨k, ks, q1, q2, q3⟩ := strs_cons e
    subst q1 q3
    cases h
    rw [strs_ok r q2]
    rfl
theorem flat_strs : ∀ ys : List Str, (ys.map V.str).all flatV = true
  | [] => rfl
  | y :: ys => by simp [flatV, flat_strs ys]
theorem inV_strs (z : Str) : ∀ ys : List Str, inV (.str z) (ys.map V.str) = ys.contains z
  | [] => rfl
  | y :: ys => by
    have ih := inV_strs z ys
    unfold inV at ih ⊢
    rw [List.map_cons, List.any_cons, ih, List.contains_cons]
    congr 1
    show (y == z) = (z == y)
    exact Bool.beq_comm
theorem op_inTs : OpR X (compareOp .In) (rOf X.kw (inTs false)) := by
  refine OpR.by_ op_in_seq fun x y H Q w => ?_
  obtain ⟨c, m, dx, dy, r, h1, h2, w⟩ := w
  unfold inTs at w
  split at w
  · rename_i z qs
    cases q : strsOf qs with
    | none => rw [q] at w; exact w.elim
    | some ys =>
      rw [q] at w
      unfold VD at h2
      cases h2 with
      | @tup a xs _ f k =>
        have e := strs_ok k q
        subst e
        refine ⟨a, _, rfl, .inr f, by rw [VD.str.mp h1]; rfl, flat_strs ys, .inl (WantO.now r w ?_)⟩
        rw [VD.str.mp h1, inV_strs]
        exact VD.bl.mpr rfl
  · exact w.elim
/-- one sign in a text -/
def inSg (neg : Bool) (x y : D) (m : Store) : OD := match x, y with
  | .p (.str y), .p (.str z) => match y.cps.toList with
    | [n] => some (.p (.bool (if neg then !decide (n ∈ z.cps.toList) else decide (n ∈ z.cps.toList))), m)
    | _ => none
  | _, _ => none
theorem one_sign {y : Str} {n : Nat} (e : y.cps.toList = [n]) : y = ⟨#[n]⟩ := by
  obtain ⟨⟨l⟩⟩ := y
  have e : l = [n] := e
  subst e
  rfl
theorem op_inSg : OpR X (compareOp .In) (rOf X.kw (inSg false)) := by
  refine OpR.by_ op_in_sign fun x y H Q w => ?_
  obtain ⟨c, m, dx, dy, r, h1, h2, w⟩ := w
  unfold inSg at w
  split at w
  · split at w
    · rename_i hn
      exact ⟨_, _, by rw [VD.str.mp h1, one_sign hn], VD.str.mp h2, .inl (WantO.now r w (VD.bl.mpr rfl))⟩
    · exact w.elim
  · exact w.elim
theorem op_notInSg : OpR X (compareOp .NotIn) (rOf X.kw (inSg true)) := by
  refine OpR.by_ op_notIn_sign fun x y H Q w => ?_
  obtain ⟨c, m, dx, dy, r, h1, h2, w⟩ := w
  unfold inSg at w
  split at w
  · split at w
    · rename_i hn
      exact ⟨_, _, by rw [VD.str.mp h1, one_sign hn], VD.str.mp h2, .inl (WantO.now r w (VD.bl.mpr rfl))⟩
    · exact w.elim
  · exact w.elim
/-! ### methods -/
def splitD (z : Md) : D → List D → Store → OD
  | .p (.str a), [.p (.str b)], m => if (b.length == 0) = false ∧ a.length + 2 ≤ sizeLine then newO z ((Txt.split a b).map fun t => .p (.str t)) m else none
  | _, _, _ => none
theorem VDs.strs {K : KW} : ∀ ys : List Str, VDs K H c (ys.map V.str) (ys.map fun t => .p (.str t))
  | [] => by simp [VDs]
  | y :: ys => by
    simp only [List.map_cons]
    unfold VDs
    exact ⟨_, _, rfl, VD.str.mpr rfl, VDs.strs ys⟩
theorem mt_splitD (z : Md) : MtR X "str.split" (rOfM X.kw (splitD z)) := by
  refine MtR.by_ mt_split fun x xs H Q w => ?_
  obtain ⟨c, m, dx, ds, r, h1, h2, w⟩ := w
  unfold splitD at w
  split at w
  · split at w
    · rename_i hz
      obtain ⟨v, e, h3⟩ := VDs.onlyOne h2
      cases VD.str.mp h3
      exact ⟨_, _, VD.str.mp h1, e, hz.1, hz.2, newO_ok r (VDs.strs _) w⟩
    · exact w.elim
  · exact w.elim
def upperD : D → List D → Store → OD
  | .p (.str a), [], m => if a.length ≤ 5592405 then some (.p (.str (Txt.upper a)), m) else none
  | _, _, _ => none
theorem mt_upperD : MtR X "str.upper" (rOfM X.kw upperD) := by
  refine MtR.by_ mt_upper fun x xs H Q w => ?_
  obtain ⟨c, m, dx, ds, r, h1, h2, w⟩ := w
  unfold upperD at w
  split at w
  · split at w
    · rename_i hz
      unfold VDs at h2
      exact ⟨_, VD.str.mp h1, h2, hz, .inl (WantO.now r w (VD.str.mpr rfl))⟩
    · exact w.elim
  · exact w.elim
def appendD : D → List D → Store → OD
  | .cell i, [d], m => match m.at_ i with
    | some (.lst xs) => if xs.length < sizeLine ∧ okIn d i = true then some (.p .none, m.set (.lst (xs ++ [d])) i) else none
    | _ => none
  | _, _, _ => none
theorem mt_appendD : MtR X "list.append" (rOfM X.kw appendD) := by
  refine MtR.by_ (show MtR X "list.append" rAppend from mt_append) fun x xs H Q w => ?_
  obtain ⟨c, m, dx, ds, r, h1, h2, w⟩ := w
  unfold appendD at w
  split at w
  · rename_i i d
    split at w
    · rename_i xs hm
      split at w
      · rename_i hz
        obtain ⟨v, e, h3⟩ := VDs.onlyOne h2
        unfold VD at h1
        obtain ⟨a, h4, h5⟩ := h1
        obtain ⟨vs, h6, h7⟩ := r.at_ _ _ _ h4 hm
        refine ⟨a, vs, v, h5, e, h6, by rw [h7.length]; exact hz.1, .inl ?_⟩
        exact w c .non _ (r.put h4 hm h6 (h7.append (VDs.one (VD.forI h3 hz.2)))) (VD.non.mpr rfl)
      · exact w.elim
    · exact w.elim
  · exact w.elim
end
end L2.Dn
namespace L2.Dn
open PySem PySem.Spec PyProof.Rows L2
section
variable {X : Cx} {W : WX} {a b e : Expr} {es : List Expr} {fa fb f : FE} {pos : Pos} {c : Anc} {ρ : Rho} {m : Store} {σ : St} {H : Hp}
/-! ### o[i] op= e, a list -/
def rGetL (K : PySem.W.Frag) : V → V → Hp → VK → Prop := fun o i H Q => ∃ p xs k v, o = .ref p ∧ i = .int k ∧ 0 ≤ k ∧ SqL K H p xs ∧ xs[k.toNat]? = some v ∧ Q v H
theorem get_listL : PGet X (rGetL X.K) := by
  intro pins s σ H o i ov iv Q I ro ri h
  obtain ⟨p, xs, k, v, rfl, rfl, h0, hq, hx, q⟩ := h
  cases ro
  obtain ⟨t, rfl⟩ := ri
  obtain ⟨its, r, pl, hz⟩ := I.list hq
  obtain ⟨u, e1, e2⟩ := r.get hx
  have hl : k.toNat < xs.length := (List.getElem?_eq_some_iff.mp hx).1
  have := line63
  exact wpAny_getItem_list pl.isList h0 (by omega) (by simpa using e1) ⟨v, H, I, e2, q⟩
def getL (o i : D) (m : Store) : Option D := match i with
  | .p (.int k) => if 0 ≤ k then (match lstOf o m with
    | some xs => xs[k.toNat]?
    | none => none) else none
  | _ => none
def augI (g : D → D → Store → OD) (fo fi fe : FE) : FS := fun ρ m => (fo ρ m).bindS ρ fun o m1 => (fi ρ m1).bindS ρ fun i m2 => match getL o i m2 with
  | some x => (fe ρ m2).bindS ρ fun y m3 => match g x y m3 with
    | some (z, m4) => (match setItemD o i z m4 with
      | some m5 => .nx ρ m5
      | none => .stuck)
    | none => .stuck
  | none => .stuck
theorem ds_augI {o i : Expr} {fo fi fe : FE} {op : Operator} {g : D → D → Store → OD} {tpos : Pos} (hp : PIp X op (rOf X.kw g)) (ho : DE X W o fo) (hi : DE X W i fi) (he : DE X W e fe)
    (ha : ∀ ov iv new, augStore i ov iv new = (do holding [new, ov, iv] (setItem ov iv new); release [new, ov, iv] []; pure .next) := by intros; rfl) : DS X W (.AugAssign (.Subscript o i tpos) op e pos) (augI g fo fi fe) := fun c ρ m σ H En r s w =>
  wst_of (ps_augS pe_w pe_w get_listL pe_w hp set_list ha) (ho.thenS r s w fun o1 m1 c1 vo H1 r1 s1 g1 h1 w1 => hi.thenS r1 s1 w1 fun i1 m2 c2 vi H2 r2 s2 g2 h2 w2 => by
    split at w2
    · rename_i x hx
      unfold getL at hx
      split at hx
      · rename_i k
        split at hx
        · rename_i h0
          split at hx
          · rename_i xs hxs
            obtain ⟨a, vs, e1, k1, k2⟩ := lstOf_ok r2 (g2.vd h1) hxs
            obtain ⟨v, k3, k4⟩ := k2.get hx
            refine ⟨a, vs, k, v, e1, VD.int.mp h2, h0, RdL.sq k1, k3, ?_⟩
            refine he.thenS r2 s2 w2 fun y m3 c3 vy H3 r3 s3 g3 h3 w3 => ?_
            split at w3
            · rename_i z m4 hg
              refine ⟨c3, m3, x, y, r3, g3.vd k4, h3, ?_⟩
              rw [hg]
              intro c4 vz H4 g4 hz
              have w4 := WantS.shift g4 w3
              split at w4
              · rename_i m5 hs
                exact setItemD_ok g4.rel (g4.vd (g3.vd (g2.vd h1))) (g4.vd (g3.vd h2)) hz hs fun H' g5 => w4 c4 σ H' g5 (g5.slots (g4.slots s3))
              · exact w4.elim
            · exact w3.elim
          · cases hx
        · cases hx
      · cases hx
    · exact w2.elim)
theorem ip_addI : PIp X .Add (rOf X.kw addI) := fun pins s σ H x y v u Q I rx ry h => by
  obtain ⟨c, m, dx, dy, r, h1, h2, w⟩ := h
  unfold addI intOp at w
  split at w
  · exact ip_add pins s σ H x y v u Q I rx ry ⟨_, _, VD.int.mp h1, VD.int.mp h2, WantO.now r w (VD.int.mpr rfl)⟩
  · exact w.elim
/-! ### NAME.index(e), NAME a tuple of texts of the module -/
def idxE (ys : List Str) (f : FE) : FE := fun ρ m => (f ρ m).bind fun d m1 => match d with
  | .p (.str z) => match ys.findIdx? (· == z) with
    | some j => .ok (.p (.int j)) m1
    | none => .stuck
  | _ => .stuck
theorem de_gIndex {x : Str} {t : Addr} {its : Array Value} {n : Nat} {sl : Array (Option Value)} {ys : List Str} {apos cpos p : Pos} (hg : Gl X x) (hm : X.mg x = some (.ref t)) (hk : X.K.lookup t = some ⟨.type "tuple", none, .seq its n, sl⟩) (hz : its.size ≤ sizeLine) (hv : Vals (ys.map V.str) its.toList) (he : DE X W e f)
    (hdb : (x == ("__debug__" : Str)) = false := by decide)
    (hbase : attributeBase (.Name x p) "index" X.env (eval (.Name x p) X.env) = eval (.Name x p) X.env := by rfl)
    (hfew : ((backTo cpos (starEach [e] X.env)).all (fun x => !x.1) && (backToKw cpos (keywordEach [] X.env)).all (fun x => x.1.isSome)
      && decide ([e].length + ([] : List Keyword).length + (if ([] : List Keyword).isEmpty then 0 else 1) < 30)) = true := by rfl)
    (hline : (apos.endLine == cpos.line) = true := by rfl) (hs : starEach [e] X.env = (false, eval e X.env) :: starEach [] X.env := by rfl) (hplain : (backTo cpos (starEach [] X.env)).any (·.1) = false := by rfl) :
    DE X W (.Call (.Attribute (.Name x p) "index" apos) [e] [] cpos) (idxE ys f) := fun c ρ m σ H Q r s w => by
  have sq : ∀ H, SqT X.K H t (ys.map V.str) := fun H => .inr ⟨_, its, n, hk, rfl, rfl, hz, hv⟩
  refine we_of (pe_bm (T := "tuple") (id := "tuple.index") PySem.F.plainAttrs_tuple PySem.F.slot_tuple_index PySem.F.type_tuple_index mt_tup_index (pe_glob hg hm (v := .ref t) rfl hdb) (pa_cons pe_w pa_nil hs) hbase hfew hline hs hplain) ?_
  refine ⟨.inr (.inl ⟨rfl, _, hk, rfl, rfl⟩), ?_⟩
  refine he.thenE r s w fun d m1 c1 v H1 r1 s1 g1 h1 w1 => ?_
  split at w1
  · rename_i z
    split at w1
    · rename_i j hj
      obtain ⟨hl, hy, hn⟩ := List.findIdx?_eq_some_iff_getElem.mp hj
      refine ⟨t, ys, z, j, rfl, by rw [VD.str.mp h1], sq H1, ?_, fun k hk q => ?_, w1.now r1 (VD.int.mpr rfl)⟩
      · rw [List.getElem?_eq_getElem hl, eq_of_beq hy]
      · have := hn k hk
        obtain ⟨hk', e'⟩ := List.getElem?_eq_some_iff.mp q
        rw [e'] at this
        simp at this
    · exact w1.elim
  · exact w1.elim
end
end L2.Dn
namespace L2.Dn
open PySem PySem.Spec PyProof.Rows L2
/-! ### the law's own call -/
/-- the heap that tracks the script alone -/
def onlyAt (a : Addr) (vs : List Value) (ns : List Int) : Hp := fun b => if b = a then some (.frz { cls := .type "list", data := .seq vs.toArray } (.lst (ns.map V.int))) else none
theorem onlyAt_eq {a b : Addr} {vs : List Value} {ns : List Int} {o : HO} (h : onlyAt a vs ns b = some o) : b = a ∧ o = .frz { cls := .type "list", data := .seq vs.toArray } (.lst (ns.map V.int)) := by
  unfold onlyAt at h
  split at h
  · rename_i e
    exact ⟨e, (Option.some.inj h).symm⟩
  · cases h
def nums (ns : List Int) : D := .p (.list (ns.map PyData.int))
theorem nums_dp {K : KW} {H : Hp} : ∀ ns : List Int, DpZs K H (ns.map V.int) (ns.map PyData.int)
  | [] => .nil
  | n :: ns => .cons (.int n) (nums_dp ns)
section
variable {P : Program} {w : World} {K : PySem.W.Frag} {mg mb : Str → Option Value} {k : Nat} {fa a : Addr} {fd : FuncData} {x : Str} {den : Den} {s₁ : Shared} {vs : List Value} {ns : List Int}
theorem law_run (H : Hp) (KX : K.In s₁.heap) (hns : s₁.heap.Ns mainGlobals mg) (hb : s₁.heap.Ns builtinsNs mb) (hbb : ∀ x : Str, x ≠ "__name__" → mb x = bootBuiltins x) (hlim : s₁.heap.NoLimit) (hg : s₁.gens = #[])
    (ha : s₁.heap.get? a = some { cls := .type "list", data := .seq vs.toArray }) (hr : Room k callerA)
    (F : ∀ base : Heap, K.In base → base.Ns mainGlobals mg → FnG P w K mg base k fa fd [x] (spD ⟨K, w, mg, none⟩ 1 den)) (hbind : ∀ (s : Shared) (u : Value), BindsTo s fd ⟨[u], []⟩ [(x, u)])
    (hden : ∃ g, den [nums ns] [] = .ok (.p (.bool true)) g)
    (hH : ∀ b o, H b = some o → b = a ∧ o = .frz { cls := .type "list", data := .seq vs.toArray } (.lst (ns.map V.int))) (hf : FzL K H a (ns.map V.int)) (hok : HOk P w H s₁.heap) (hK : H a = none ∨ K.lookup a = none) :
    codeAny (model P w) callerA (.call (.ref fa) ⟨[.ref a], []⟩) (fun r s' => r = .ok (.ret (.bool true)) ∧ OldK s₁.heap s'.heap ∧ s'.os = s₁.os ∧ AllBare s'.gens) s₁ := by
  have free : ∀ b o, s₁.heap.get? b = some o → (∀ vs n, o.data ≠ .seq vs n) → H b = none := fun b o e nd => by
    cases q : H b with
    | none => rfl
    | some u =>
      obtain ⟨rfl, _⟩ := hH b u q
      rw [ha] at e
      cases e
      exact (nd _ _ rfl).elim
  have nsK : ∀ {b : Addr} {m : Str → Option Value}, s₁.heap.Ns b m → (hidT s₁.heap H).Ns b m := fun {b m} ⟨o, es, ep, e, d, r⟩ =>
    ⟨o, es, ep, hidT_get e (free b o e fun _ _ z => by rw [d] at z; cases z), d, r⟩
  have kb : K.In (hidT s₁.heap H) := fun b o e => hidT_get (KX b o e) (by
    cases q : H b with
    | none => rfl
    | some u =>
      obtain ⟨rfl, _⟩ := hH b u q
      rcases hK with z | z
      · rw [q] at z; cases z
      · rw [z] at e; cases e)
  have hM : Mod K mg (hidT s₁.heap H) := ⟨kb, nsK hns, ⟨mb, nsK hb, hbb⟩, let ⟨mc, h1, h2⟩ := hlim; ⟨mc, nsK h1, h2⟩⟩
  have e0 : Env0 P w K mg (hidT s₁.heap H) callerA [] s₁ H :=
    { frames := rfl, mod := hM, bs := fun b o e => of_hidT e, bsz := Nat.le_of_eq (hidT_size _ _), funs := trivial, frf := fun b hb => absurd (show b ∈ ([] : List Addr) from hb) List.not_mem_nil, hok := hok, bare := .of_eq hg }
  have R0 : RelS ⟨K, w, mg, none⟩ ⟨[], []⟩ ⟨[], []⟩ H := by
    refine ⟨⟨rfl, rfl⟩, fun i j b h1 => ?_, fun i b x h1 => ?_⟩
    · cases i <;> cases h1
    · cases i <;> cases h1
  have want : spD ⟨K, w, mg, none⟩ 1 den [.ref a] H (fun v _ => v = .bl true) (fun _ _ _ => False) := by
    obtain ⟨g, e⟩ := hden
    refine ⟨[], [nums ns], [], rfl, R0, VDs.one (by unfold nums VD; exact .lst hf (nums_dp ns)), ?_⟩
    rw [e]
    exact fun cg' v H' _ hv => VD.bl.mp hv
  refine codeAny_mono ((F _ kb (nsK hns)).go callerA [] s₁ H ⟨[.ref a], []⟩ [.ref a] [.ref a] _ _ rfl hr e0 (hbind s₁ (.ref a)) (.cons rfl .nil) want) fun out s' q => ?_
  match out, q with
  | .error e, q => obtain ⟨_, _, _, _, _, _, _, _, _, _, _, _, z⟩ := q; exact z.elim
  | .ok (.ret u), q =>
    obtain ⟨v, H', os, bare, un, hok', rv, ev⟩ := q
    have ev : v = .bl true := ev
    subst ev
    obtain rfl : u = Value.bool true := rv
    refine ⟨rfl, OldK.of_keep fun b o e => ?_, os, bare⟩
    cases q : H b with
    | none => exact un.keep b o e q (fun z => absurd (show b ∈ ([] : List Addr) from z) List.not_mem_nil) List.not_mem_nil
    | some u =>
      obtain ⟨_, rfl⟩ := hH b u q
      have z1 := (hok b _ q).1
      have z2 := (hok' b _ (un.frzs b _ _ q)).1
      rw [e] at z1
      rw [z2, z1]
theorem law_den (KX : K.In s₁.heap) (hns : s₁.heap.Ns mainGlobals mg) (hb : s₁.heap.Ns builtinsNs mb) (hbb : ∀ x : Str, x ≠ "__name__" → mb x = bootBuiltins x) (hlim : s₁.heap.NoLimit) (hg : s₁.gens = #[])
    (ha : s₁.heap.get? a = some { cls := .type "list", data := .seq vs.toArray }) (hi : IntsAre vs ns) (hl : ns.length ≤ sizeLine) (hr : Room k callerA)
    (F : ∀ base : Heap, K.In base → base.Ns mainGlobals mg → FnG P w K mg base k fa fd [x] (spD ⟨K, w, mg, none⟩ 1 den)) (hbind : ∀ (s : Shared) (u : Value), BindsTo s fd ⟨[u], []⟩ [(x, u)])
    (hden : ∃ g, den [nums ns] [] = .ok (.p (.bool true)) g) :
    codeAny (model P w) callerA (.call (.ref fa) ⟨[.ref a], []⟩) (fun r s' => r = .ok (.ret (.bool true)) ∧ OldK s₁.heap s'.heap ∧ s'.os = s₁.os ∧ AllBare s'.gens) s₁ := by
  have rv := vals_ints hi
  have lv := hi.length
  cases hk : K.lookup a with
  | some o =>
    have e := KX a o hk
    rw [ha] at e
    cases e
    refine law_run (fun _ => none) KX hns hb hbb hlim hg ha hr F hbind hden (fun b o z => nomatch z) (.inr ⟨vs.toArray, 0, hk, ?_, by simpa using rv⟩) (fun b o z => nomatch z) (.inl rfl)
    rw [List.size_toArray, lv]
    exact hl
  | none =>
    have ta : onlyAt a vs ns a = some (.frz { cls := .type "list", data := .seq vs.toArray } (.lst (ns.map V.int))) := if_pos rfl
    refine law_run (onlyAt a vs ns) KX hns hb hbb hlim hg ha hr F hbind hden (fun b o z => onlyAt_eq z) (.inl ⟨_, ta⟩) (fun b o z => ?_) (.inr hk)
    obtain ⟨rfl, rfl⟩ := onlyAt_eq z
    exact ⟨ha, by rw [List.length_map]; exact hl, vs, _, rv, ha⟩
end
/-- the goal that k_head leaves, from the law's denotation -/
theorem walk_den {l : PySem.W.OpenLaw} {n k : Nat} {q : Program} {loose : List Str} {XP : (Str → Option Value) → Heap → Prop} {YP : World → Heap → Prop} {d : DefRec} {K : Params → PySem.W.Frag} {den : Den} {x : Str}
    (hn : l.most = some n) (hn2 : n ≤ sizeLine) (hdf : d.params.defaults = []) (hr : Room k callerA) (hY : ∀ (w : World) (h : Heap), YP w h → (K w.params).In h)
    (F : ∀ (w : World) (mg : Str → Option Value) (fa : Addr) (h : Heap), (K w.params).In h → h.Ns mainGlobals mg → mg d.name = some (.ref fa) →
      ∃ fd : FuncData, (∀ (s : Shared) (u : Value), BindsTo s fd ⟨[u], []⟩ [(x, u)]) ∧ ∀ base : Heap, (K w.params).In base → base.Ns mainGlobals mg → FnG l.prog w (K w.params) mg base k fa fd [x] (spD ⟨K w.params, w, mg, none⟩ 1 den))
    (hden : ∀ ns : List Int, ns.length ≤ n → ∃ g, den [nums ns] [] = .ok (.p (.bool true)) g) : PySem.W.WalkO q loose XP YP l.row.toRowW d [] (fun f vs => PySem.call f vs) := by
  refine Att.attach_call hn hdf fun w s₀ s₁ mg mb fa o pm cd doc a vs ns G Y _ _ _ hmg hobj hints hlen hg => ?_
  obtain ⟨fd, hb, hF⟩ := F w mg fa _ (hY w _ Y) G.T.g hmg
  exact law_den (hY w _ Y) G.T.g G.T.b G.T.builtins G.T.nolimit hg hobj hints (Nat.le_trans hlen hn2) hr hF hb (hden ns hlen)
end L2.Dn
namespace L2.Dn
open PySem PySem.Spec PyProof.Rows L2
/-! ### one operation of several kinds -/
def altO (g h : D → D → Store → OD) : D → D → Store → OD := fun x y m => match g x y m with
  | some r => some r
  | none => h x y m
def altS (g h : D → Option Int → Option Int → Store → OD) : D → Option Int → Option Int → Store → OD := fun x lo hi m => match g x lo hi m with
  | some r => some r
  | none => h x lo hi m
section
variable {X : Cx}
theorem rOf_alt {K : KW} {g h : D → D → Store → OD} {x y : V} {H : Hp} {Q : VK} (w : rOf K (altO g h) x y H Q) : rOf K g x y H Q ∨ rOf K h x y H Q := by
  obtain ⟨c, m, dx, dy, r, h1, h2, w⟩ := w
  unfold altO at w
  cases q : g dx dy m with
  | some z => rw [q] at w; exact .inl ⟨c, m, dx, dy, r, h1, h2, by rw [q]; exact w⟩
  | none => rw [q] at w; exact .inr ⟨c, m, dx, dy, r, h1, h2, w⟩
theorem OpR.alt {fn : Value → Value → Sem Value} {g h : D → D → Store → OD} (a : OpR X fn (rOf X.kw g)) (b : OpR X fn (rOf X.kw h)) : OpR X fn (rOf X.kw (altO g h)) := fun pins s σ H x y v u Q I rx ry w =>
  (rOf_alt w).elim (a pins s σ H x y v u Q I rx ry) (b pins s σ H x y v u Q I rx ry)
theorem SlR.alt {g h : D → Option Int → Option Int → Store → OD} (a : SlR X (rOfS X.kw g)) (b : SlR X (rOfS X.kw h)) : SlR X (rOfS X.kw (altS g h)) := fun pins s σ H x v vl vu lo hi sl Q I rx hs pl pu w => by
  obtain ⟨c, m, dx, r, h1, w⟩ := w
  unfold altS at w
  cases q : g dx lo hi m with
  | some z => rw [q] at w; exact a pins s σ H x v vl vu lo hi sl Q I rx hs pl pu ⟨c, m, dx, r, h1, by rw [q]; exact w⟩
  | none => rw [q] at w; exact b pins s σ H x v vl vu lo hi sl Q I rx hs pl pu ⟨c, m, dx, r, h1, w⟩
def addD (z : Md) := altO addI (altO addS (altO (addL z) addT))
theorem op_addD (z : Md) : OpR X (binaryOp .Add) (rOf X.kw (addD z)) := OpR.alt op_addI (OpR.alt op_addS (OpR.alt (op_addL z) op_addT))
def mulD := altO mulI mulS
theorem op_mulD : OpR X (binaryOp .Mult) (rOf X.kw mulD) := OpR.alt op_mulI op_mulS
def slD (z : Md) := altS (slL z) (altS slS slT)
theorem sl_D (z : Md) : SlR X (rOfS X.kw (slD z)) := SlR.alt (sl_L z) (SlR.alt sl_S sl_T)
/-- two texts, whatever they hold; else deep data -/
def eqS (neg : Bool) : D → D → Store → OD
  | .p (.str x), .p (.str y), m => some (.p (.bool (if neg then !(x == y) else x == y)), m)
  | _, _, _ => none
theorem op_eqS : OpR X (compareOp .Eq) (rOf X.kw (eqS false)) := by
  refine OpR.by_ L2.op_eq fun x y H Q w => ?_
  obtain ⟨c, m, dx, dy, r, h1, h2, w⟩ := w
  unfold eqS at w
  split at w
  · cases VD.str.mp h1
    cases VD.str.mp h2
    exact ⟨rfl, by rw [dec_str]; exact .inl (WantO.now r w (VD.bl.mpr rfl))⟩
  · exact w.elim
theorem op_neS : OpR X (compareOp .NotEq) (rOf X.kw (eqS true)) := by
  refine OpR.by_ L2.op_ne fun x y H Q w => ?_
  obtain ⟨c, m, dx, dy, r, h1, h2, w⟩ := w
  unfold eqS at w
  split at w
  · cases VD.str.mp h1
    cases VD.str.mp h2
    exact ⟨rfl, by rw [dec_str]; exact .inl (WantO.now r w (VD.bl.mpr rfl))⟩
  · exact w.elim
def eqG (neg : Bool) := altO (eqS neg) (eqP neg)
theorem op_eqG' (hu : X.A.units + 64 < cLine) : OpR X (compareOp .Eq) (rOf X.kw (eqG false)) := OpR.alt op_eqS (op_eqP hu)
theorem op_neG' (hu : X.A.units + 64 < cLine) : OpR X (compareOp .NotEq) (rOf X.kw (eqG true)) := OpR.alt op_neS (op_neP hu)
def inD := altO (inSg false) (altO (inTs false) (inL false))
theorem op_inD' (hu : X.A.units + 65 < cLine) : OpR X (compareOp .In) (rOf X.kw inD) := OpR.alt op_inSg (OpR.alt op_inTs (op_inL hu))
def notInD := altO (inSg true) (inL true)
theorem op_notInD' (hu : X.A.units + 65 < cLine) : OpR X (compareOp .NotIn) (rOf X.kw notInD) := OpR.alt op_notInSg (op_notInL hu)
theorem u65 {k : Nat} {A : Around} (hr : Room k A) : A.units + 65 < cLine := by have := hr.un; omega
theorem u64 {k : Nat} {A : Around} (hr : Room k A) : A.units + 64 < cLine := by have := hr.un; omega
end
/-- a tuple of texts of the module -/
structure KTup (K : PySem.W.Frag) (mg : Str → Option Value) (x : Str) (ys : List Str) (t : Addr) (its : Array Value) (n : Nat) (sl : Array (Option Value)) : Prop where
  g : mg x = some (.ref t)
  k : K.lookup t = some ⟨.type "tuple", none, .seq its n, sl⟩
  z : its.size ≤ sizeLine
  v : Vals (ys.map V.str) its.toList
theorem strs_dp {K : KW} {H : Hp} : ∀ ys : List Str, DpZs K H (ys.map V.str) (ys.map PyData.str)
  | [] => .nil
  | y :: ys => .cons (.str y) (strs_dp ys)
theorem KTup.dp {K : KW} {mg : Str → Option Value} {x : Str} {ys : List Str} {t : Addr} {its : Array Value} {n : Nat} {sl : Array (Option Value)} (h : KTup K mg x ys t its n sl) (H : Hp) : DpZ K H (.ref t) (.tuple (ys.map PyData.str)) :=
  .tup (.inr ⟨_, its, n, h.k, rfl, rfl, h.z, h.v⟩) (strs_dp ys)
section
variable {X : Cx} {W : WX} {pos : Pos} {x : Str}
theorem de_gStr {z : Str} (h : ∃ t, X.mg x = some (.str z t)) (hg : Gl X x := by rfl) (hd : (x == ("__debug__" : Str)) = false := by decide) : DE X W (.Name x pos) (cE (.str z)) := by
  obtain ⟨t, h⟩ := h
  exact de_glob (v := .str z) hg h ⟨t, rfl⟩ (fun _ => .str z) hd
theorem de_gInt {z : Int} (h : ∃ t, X.mg x = some (.int z t)) (hg : Gl X x := by rfl) (hd : (x == ("__debug__" : Str)) = false := by decide) : DE X W (.Name x pos) (cE (.int z)) := by
  obtain ⟨t, h⟩ := h
  exact de_glob (v := .int z) hg h ⟨t, rfl⟩ (fun _ => .int z) hd
theorem de_gTup {ys : List Str} {t : Addr} {its : Array Value} {n : Nat} {sl : Array (Option Value)} (h : KTup X.K X.mg x ys t its n sl) (hg : Gl X x := by rfl) (hd : (x == ("__debug__" : Str)) = false := by decide) : DE X W (.Name x pos) (cE (.tuple (ys.map .str))) :=
  de_glob (v := .ref t) hg h.g rfl h.dp hd
theorem blk_by {N : List Str} {sc scope : Scope} {own : List (Str × Nat)} (h : blkC N sc scope own = true) : blkC N sc scope own = true := h
end
end L2.Dn
/-! Dk: dicts whose keys are any of None, whole numbers, truths, texts and tuples of such, mixed as they come. -/
namespace L2.Dn
open PySem
abbrev Ent := NestedKey × Value × Value
def entOf (w : World) (x : Ent) : DictEntry := ⟨x.1.hash w, x.2.1, x.2.2⟩
/-- the value v is the key k -/
def IsK (h : Heap) (k : NestedKey) (v : Value) : Prop := NestedIs h k v ∧ k.depth ≤ 8
/-- at d: a dict with these entries, in their order -/
def GDict (w : World) (h : Heap) (d : Addr) (xs : List Ent) : Prop :=
  ∃ o es ep, h.get? d = some o ∧ o.ExactDict ∧ o.data = .dict es ep ∧ es.toList = xs.map (entOf w) ∧ (∀ x ∈ xs, IsK h x.1 x.2.1) ∧ (xs.map (·.1)).Nodup
section
variable {P : Program} {w : World} {A : Around} {E : Value → Shared → Prop} {s : Shared}
theorem ent_get {es : Array DictEntry} {xs : List Ent} (he : es.toList = xs.map (entOf w)) (j : Nat) : es[j]? = (xs[j]?).map (entOf w) := by
  rw [← List.getElem?_map, ← he]
  simp
theorem ent_size {es : Array DictEntry} {xs : List Ent} (he : es.toList = xs.map (entOf w)) : es.size = xs.length := by
  have := congrArg List.length he
  simpa using this
theorem ent_mem {es : Array DictEntry} {xs : List Ent} (he : es.toList = xs.map (entOf w)) {e : DictEntry} (h : e ∈ es) : ∃ x ∈ xs, e = entOf w x := by
  have h1 : e ∈ es.toList := by simpa using h
  rw [he] at h1
  obtain ⟨x, hx, q⟩ := List.mem_map.mp h1
  exact ⟨x, hx, q.symm⟩
theorem key_one {xs : List Ent} (hn : (xs.map (·.1)).Nodup) {i j : Nat} {k : NestedKey} {p q : Value × Value} (hi : xs[i]? = some (k, p)) (hj : xs[j]? = some (k, q)) : i = j := by
  have a : (xs.map (·.1))[i]? = some k := by simp [hi]
  have b : (xs.map (·.1))[j]? = some k := by simp [hj]
  exact (List.getElem?_inj (List.getElem?_eq_some_iff.mp a).1 hn).mp (a.trans b.symm)
theorem isK_quiet {k : NestedKey} {v : Value} (h : IsK s.heap k v) {Q : Bool → Shared → Prop} (q : Q true s) : wpAny (model P w) A (eqIsQuiet 8 v) Q E s := quiet_key k v 8 s h.1 h.2 A E Q q
theorem isK_eq {x y : NestedKey} {a b : Value} (hu : A.units + 8 < cLine) (hx : IsK s.heap x a) (hy : IsK s.heap y b) {Q : Bool → Shared → Prop} (q : Q (decide (x = y)) s) : wpAny (model P w) A (eqBool a b) Q E s :=
  eqAt_key x y A s a b hx.1 hy.1 (by have := hx.2; omega) P w E Q (by rw [← NestedKey.decide_eq]; exact q)
theorem isK_hash {k : NestedKey} {v : Value} (hu : A.units + 8 < cLine) (h : IsK s.heap k v) {Q : Int → Shared → Prop} (q : Q (k.hash w) { s with toks := s.toks + k.draws }) : wpAny (model P w) A (pyHash v) Q E s :=
  pyHash_key k v A s Q h.1 (by have := h.2; omega) q
theorem tells_not {k : NestedKey} {v : Value} {st : List Value} {Q : Bool → Shared → Prop} (hk : IsK s.heap k v) (hs : ∀ u ∈ st, ∃ y, IsK s.heap y u) (q : Q false s) : wpAny (model P w) A (tableMayTell v st) Q E s := by
  unfold tableMayTell
  split
  · exact wpAny_pure q
  · refine wpAny_bind (isK_quiet hk ?_)
    simp only [Bool.not_true, Bool.false_eq_true, if_false]
    refine wpAny_bind (wpAny_forIn_list _ (fun r b s' => s' = s ∧ b = (none, ()) ∧ ∀ u ∈ r, ∃ y, IsK s.heap y u) _ ?_ ?_ _ _ ⟨rfl, rfl, hs⟩)
    · rintro u r b s' ⟨rfl, rfl, hr⟩
      obtain ⟨y, hy⟩ := hr u List.mem_cons_self
      refine wpAny_bind (isK_quiet hy ?_)
      simp only [Bool.not_true, Bool.false_eq_true, if_false]
      exact wpAny_pure ⟨rfl, rfl, fun z hz => hr z (List.mem_cons_of_mem _ hz)⟩
    · rintro b s' ⟨rfl, rfl, _⟩
      exact wpAny_pure q
theorem is_text {h : Heap} {k : NestedKey} {x : Str} {t : Tok} (hk : NestedIs h k (.str x t)) : k = .text x := by cases hk; rfl
/-- where a key stands -/
theorem find_key {d : Addr} {v : Value} {o : Obj} {es : Array DictEntry} {ep : Nat} {xs : List Ent} {k : NestedKey} {Q : Option Nat → Shared → Prop} (hu : A.units + 8 < cLine) (hkey : IsK s.heap k v) (ho : s.heap.get? d = some o) (hd : o.data = .dict es ep)
    (he : es.toList = xs.map (entOf w)) (his : ∀ x ∈ xs, IsK s.heap x.1 x.2.1) (hn : (xs.map (·.1)).Nodup)
    (q0 : (∀ (j : Nat) (p : Value × Value), xs[j]? ≠ some (k, p)) → Q none s) (q1 : ∀ (j : Nat) (p : Value × Value), xs[j]? = some (k, p) → Q (some j) s) : wpAny (model P w) A (dictFind d v (k.hash w)) Q E s := by
  have hz := ent_size he
  let pw : Nat → Bool := fun i => (es[i]?.map (·.hash)) == some (k.hash w)
  have hpw : ∀ (j : Nat) (p : Value × Value), xs[j]? = some (k, p) → pw j = true := fun j p hj => by
    show ((es[j]?.map (·.hash)) == some (k.hash w)) = true
    rw [ent_get he j, hj]
    simp [entOf]
  have hst : ∀ u ∈ (placesWithHash es.size (fun i => es[i]?.map (·.hash)) (k.hash w)).filterMap (fun i => es[i]?.map (·.key)), ∃ y, IsK s.heap y u := fun u hu' => by
    obtain ⟨i, _, hi⟩ := List.mem_filterMap.mp hu'
    cases hei : es[i]? with
    | none => rw [hei] at hi; cases hi
    | some e =>
      rw [hei] at hi
      obtain rfl : e.key = u := by simpa using hi
      obtain ⟨x, hx, rfl⟩ := ent_mem he (Array.mem_of_getElem? hei)
      exact ⟨x.1, his x hx⟩
  have at_ : ∀ {x : Nat}, x < es.size → ∃ y b u, xs[x]? = some (y, b, u) ∧ IsK s.heap y b ∧ es[x]? = some ⟨y.hash w, b, u⟩ := fun {x} hx => by
    have hx' : x < xs.length := by omega
    refine ⟨xs[x].1, xs[x].2.1, xs[x].2.2, List.getElem?_eq_getElem hx', his _ (List.getElem_mem hx'), ?_⟩
    rw [ent_get he x, List.getElem?_eq_getElem hx']
    rfl
  -- the walk over the places, whichever
  have old : wpAny (model P w) A (dictWalkPlain d v (k.hash w) es (placesWithHash es.size (fun i => es[i]?.map (·.hash)) (k.hash w))) Q E s := by
    refine wpAny_bind (wpAny_forIn_list _ (fun r b s' => s' = s ∧ b = (none, ()) ∧ ∃ i, r = (List.range' i (es.size - i)).filter pw ∧ i ≤ es.size ∧ ∀ j p, j < i → xs[j]? ≠ some (k, p)) _ ?_ ?_ _ _
      ⟨rfl, rfl, 0, by rw [placesWithHash, List.range_eq_range', Nat.sub_zero], Nat.zero_le _, fun _ _ h => absurd h (Nat.not_lt_zero _)⟩)
    · rintro x r b s' ⟨rfl, rfl, i, hr, hi, hno⟩
      obtain ⟨h1, h2, h3, h4, h5⟩ := filter_range'_cons _ _ _ _ _ hr.symm
      have hlt : x < es.size := by omega
      obtain ⟨y, b, u, k1, k2, k3⟩ := at_ hlt
      have hr' : r = (List.range' (x + 1) (es.size - (x + 1))).filter pw := by rw [h5]; congr 2; omega
      have nx : ¬ y = k → ∀ j p, j < x + 1 → xs[j]? ≠ some (k, p) := fun ne j p hj e => by
        by_cases c1 : j < i
        · exact hno j p c1 e
        · by_cases c2 : j < x
          · have := h4 j (by omega) c2
            rw [hpw j p e] at this
            cases this
          · have : j = x := by omega
            subst this
            rw [k1] at e
            cases e
            exact ne rfl
      rw [k3]
      dsimp only
      by_cases hh : (y.hash w == k.hash w) = true
      · rw [if_pos hh]
        refine wpAny_bind (wpAny_dictEpoch ho hd (wpAny_bind (isK_eq hu k2 hkey (wpAny_bind (wpAny_dictEpoch ho hd ?_)))))
        rw [if_neg (by simp)]
        by_cases hk : y = k
        · rw [decide_eq_true hk]
          subst hk
          exact wpAny_bind (wpAny_rule (wpAny_pure (wpAny_pure (q1 x _ k1))))
        · rw [decide_eq_false hk]
          exact wpAny_bind (wpAny_rule (wpAny_pure ⟨rfl, rfl, x + 1, hr', hlt, nx hk⟩))
      · rw [if_neg hh]
        exact wpAny_pure ⟨rfl, rfl, x + 1, hr', hlt, nx fun e => hh (by rw [e]; simp)⟩
    · rintro b s' ⟨rfl, rfl, i, hr, hi, hno⟩
      refine wpAny_pure (q0 fun j p e => ?_)
      by_cases c1 : j < i
      · exact hno j p c1 e
      · have hj : j < es.size := by rw [hz]; exact (List.getElem?_eq_some_iff.mp e).1
        have := List.filter_eq_nil_iff.mp hr.symm j (List.mem_range'_1.mpr ⟨by omega, by omega⟩)
        exact this (hpw j p e)
  have hany : ∀ a, v = .ref a → ¬ (es.any fun e => e.key == Value.ref a && e.hash != k.hash w) = true := fun a hv h => by
    rw [← Array.any_toList, List.any_eq_true] at h
    obtain ⟨e, h1, h2⟩ := h
    obtain ⟨x, hx, rfl⟩ := ent_mem he (by simpa using h1)
    simp only [entOf, Bool.and_eq_true, beq_iff_eq, bne_iff_ne, ne_eq] at h2
    have := (his x hx).1
    rw [h2.1, ← hv] at this
    exact h2.2 (by rw [NestedIs.inj _ _ _ this hkey.1])
  unfold dictFind
  try with_reducible refine wpAny_holding ?_
  refine wpAny_bind (wpAny_dictEntries ho hd ?_)
  dsimp only
  by_cases hall : ((v :: (placesWithHash es.size (fun i => es[i]?.map (·.hash)) (k.hash w)).filterMap fun i => es[i]?.map (·.key)).all carriedByValue) = true
  · rw [if_pos hall]
    split
    next x t =>
      split
      next hs =>
        obtain rfl := is_text hkey.1
        have hf : ∀ (j : Nat) (y : NestedKey) (b u : Value), xs[j]? = some (y, b, u) → (b.isStr x = true ↔ y = .text x) := fun j y b u e => by
          have h1 := (his _ (List.mem_of_getElem? e)).1
          have h2 : isExactStrKey b = true := by
            have hj : es[j]? = some ⟨y.hash w, b, u⟩ := by rw [ent_get he j, e]; rfl
            have := Array.all_eq_true'.mp hs _ (Array.mem_of_getElem? hj)
            exact this
          cases h1 with
          | text x' t' => simp [Value.isStr]
          | none => cases h2
          | bool => cases h2
          | int => cases h2
          | tup => cases h2
        unfold foundByValue
        cases hi : es.findIdx? (fun e => e.key.isStr x) with
        | none =>
          refine wpAny_pure (q0 fun j p e => ?_)
          have hj : es[j]? = some ⟨NestedKey.hash w (.text x), p.1, p.2⟩ := by rw [ent_get he j, e]; rfl
          have := Array.findIdx?_eq_none_iff.mp hi _ (Array.mem_of_getElem? hj)
          have h2 := (hf j _ _ _ e).mpr rfl
          rw [h2] at this
          cases this
        | some i =>
          obtain ⟨hlt, h1, _⟩ := Array.findIdx?_eq_some_iff_getElem.mp hi
          obtain ⟨y, b, u, k1, k2, k3⟩ := at_ hlt
          have hk3 : es[i] = ⟨y.hash w, b, u⟩ := by
            rw [Array.getElem?_eq_getElem hlt] at k3
            exact Option.some.inj k3
          rw [hk3] at h1
          obtain rfl := (hf i y b u k1).mp h1
          simp only [k3]
          refine wpAny_bind (wpAny_dictEpoch ho hd (wpAny_bind (isK_eq hu k2 hkey (wpAny_bind (wpAny_dictEpoch ho hd ?_)))))
          rw [if_neg (by simp), decide_eq_true rfl]
          exact wpAny_bind (wpAny_rule (wpAny_pure (q1 i _ k1)))
      next => exact old
    next => exact old
  · rw [if_neg hall]
    have str_all : ∀ x t, v = .str x t → ¬ (es.all fun e => isExactStrKey e.key) = true := fun x t hv hs => hall (by
      rw [List.all_cons, hv]
      refine List.all_eq_true.mpr fun u hu' => ?_
      obtain ⟨i, _, hi⟩ := List.mem_filterMap.mp hu'
      cases hei : es[i]? with
      | none => rw [hei] at hi; cases hi
      | some e =>
        rw [hei] at hi
        obtain rfl : e.key = u := by simpa using hi
        have h2 := Array.all_eq_true'.mp hs _ (Array.mem_of_getElem? hei)
        cases hk : e.key with
        | ref a => rw [hk] at h2; cases h2
        | _ => rfl)
    split
    next x t =>
      rw [if_neg (str_all x t rfl)]
      (
      by_cases one : ((placesWithHash es.size (fun i => es[i]?.map (·.hash)) (k.hash w)).filterMap (fun i => es[i]?.map (·.key)) == [Value.str x t]) = true <;>
      (first | rw [if_pos one] | rw [if_neg one]) <;> (first | refine wpAny_bind (wpAny_pure ?_) | refine wpAny_bind (tells_not hkey hst ?_)) <;> (
        rw [if_neg (by simp)]
        refine wpAny_bind (wpAny_forIn_list _ (fun r b s' => s' = s ∧ ∃ i hit, b = (none, hit) ∧ r = (List.range' i (es.size - i)).filter pw ∧ i ≤ es.size ∧ ((hit = none ∧ ∀ j p, j < i → xs[j]? ≠ some (k, p)) ∨ ∃ j p, hit = some j ∧ j < i ∧ xs[j]? = some (k, p))) _ ?_ ?_ _ _
          ⟨rfl, 0, none, rfl, by rw [placesWithHash, List.range_eq_range', Nat.sub_zero], Nat.zero_le _, .inl ⟨rfl, fun _ _ h => absurd h (Nat.not_lt_zero _)⟩⟩)
        · rintro x r b s' ⟨rfl, i, hit, rfl, hr, hi, hH⟩
          obtain ⟨h1, h2, h3, h4, h5⟩ := filter_range'_cons _ _ _ _ _ hr.symm
          have hlt : x < es.size := by omega
          obtain ⟨y, b, u, k1, k2, k3⟩ := at_ hlt
          have hr' : r = (List.range' (x + 1) (es.size - (x + 1))).filter pw := by rw [h5]; congr 2; omega
          have hx : (hit = none ∧ ∀ j p, j < x → xs[j]? ≠ some (k, p)) ∨ ∃ j p, hit = some j ∧ j < x ∧ xs[j]? = some (k, p) := by
            rcases hH with ⟨a1, a2⟩ | ⟨j, p, a1, a2, a3⟩
            · refine .inl ⟨a1, fun j p hj e => ?_⟩
              by_cases c1 : j < i
              · exact a2 j p c1 e
              · have := h4 j (by omega) hj
                rw [hpw j p e] at this
                cases this
            · exact .inr ⟨j, p, a1, by omega, a3⟩
          have nx : ¬ y = k → ((hit = none ∧ ∀ j p, j < x + 1 → xs[j]? ≠ some (k, p)) ∨ ∃ j p, hit = some j ∧ j < x + 1 ∧ xs[j]? = some (k, p)) := fun ne => by
            rcases hx with ⟨a1, a2⟩ | ⟨j, p, a1, a2, a3⟩
            · refine .inl ⟨a1, fun j p hj e => ?_⟩
              by_cases c1 : j < x
              · exact a2 j p c1 e
              · have : j = x := by omega
                subst this
                rw [k1] at e
                cases e
                exact ne rfl
            · exact .inr ⟨j, p, a1, by omega, a3⟩
          rw [k3]
          dsimp only
          by_cases hh : (y.hash w == k.hash w) = true
          · rw [if_pos hh]
            refine wpAny_bind (wpAny_dictEpoch ho hd (wpAny_bind (isK_eq hu k2 hkey (wpAny_bind (wpAny_dictEpoch ho hd ?_)))))
            rw [if_neg (by simp)]
            by_cases hk : y = k
            · rw [decide_eq_true hk]
              subst hk
              rcases hx with ⟨rfl, _⟩ | ⟨j, p, _, a2, a3⟩
              · simp only [Option.isSome_none, Bool.false_eq_true, if_false, if_true]
                refine wpAny_bind (wpAny_rule ?_)
                split
                · exact wpAny_pure (wpAny_pure (q1 x _ k1))
                · exact wpAny_pure ⟨rfl, x + 1, some x, rfl, hr', hlt, .inr ⟨x, _, rfl, Nat.lt_succ_self x, k1⟩⟩
              · exact absurd (key_one hn a3 k1) (by omega)
            · rw [decide_eq_false hk]
              simp only [Bool.false_eq_true, if_false, Bool.false_and]
              exact wpAny_bind (wpAny_rule (wpAny_pure ⟨rfl, x + 1, hit, rfl, hr', hlt, nx hk⟩))
          · rw [if_neg hh]
            exact wpAny_pure ⟨rfl, x + 1, hit, rfl, hr', hlt, nx fun e => hh (by rw [e]; simp)⟩
        · rintro b s' ⟨rfl, i, hit, rfl, hr, hi, hH⟩
          rcases hH with ⟨rfl, hno⟩ | ⟨j, p, rfl, _, e⟩
          · refine wpAny_pure (q0 fun j p e => ?_)
            by_cases c1 : j < i
            · exact hno j p c1 e
            · have hj : j < es.size := by rw [hz]; exact (List.getElem?_eq_some_iff.mp e).1
              have := List.filter_eq_nil_iff.mp hr.symm j (List.mem_range'_1.mpr ⟨by omega, by omega⟩)
              exact this (hpw j p e)
          · exact wpAny_pure (q1 j p e)))
    next =>
      split
      next a _ =>
        rw [if_neg (hany a rfl)]
        (
      by_cases one : ((placesWithHash es.size (fun i => es[i]?.map (·.hash)) (k.hash w)).filterMap (fun i => es[i]?.map (·.key)) == [Value.ref a]) = true <;>
      (first | rw [if_pos one] | rw [if_neg one]) <;> (first | refine wpAny_bind (wpAny_pure ?_) | refine wpAny_bind (tells_not hkey hst ?_)) <;> (
        rw [if_neg (by simp)]
        refine wpAny_bind (wpAny_forIn_list _ (fun r b s' => s' = s ∧ ∃ i hit, b = (none, hit) ∧ r = (List.range' i (es.size - i)).filter pw ∧ i ≤ es.size ∧ ((hit = none ∧ ∀ j p, j < i → xs[j]? ≠ some (k, p)) ∨ ∃ j p, hit = some j ∧ j < i ∧ xs[j]? = some (k, p))) _ ?_ ?_ _ _
          ⟨rfl, 0, none, rfl, by rw [placesWithHash, List.range_eq_range', Nat.sub_zero], Nat.zero_le _, .inl ⟨rfl, fun _ _ h => absurd h (Nat.not_lt_zero _)⟩⟩)
        · rintro x r b s' ⟨rfl, i, hit, rfl, hr, hi, hH⟩
          obtain ⟨h1, h2, h3, h4, h5⟩ := filter_range'_cons _ _ _ _ _ hr.symm
          have hlt : x < es.size := by omega
          obtain ⟨y, b, u, k1, k2, k3⟩ := at_ hlt
          have hr' : r = (List.range' (x + 1) (es.size - (x + 1))).filter pw := by rw [h5]; congr 2; omega
          have hx : (hit = none ∧ ∀ j p, j < x → xs[j]? ≠ some (k, p)) ∨ ∃ j p, hit = some j ∧ j < x ∧ xs[j]? = some (k, p) := by
            rcases hH with ⟨a1, a2⟩ | ⟨j, p, a1, a2, a3⟩
            · refine .inl ⟨a1, fun j p hj e => ?_⟩
              by_cases c1 : j < i
              · exact a2 j p c1 e
              · have := h4 j (by omega) hj
                rw [hpw j p e] at this
                cases this
            · exact .inr ⟨j, p, a1, by omega, a3⟩
          have nx : ¬ y = k → ((hit = none ∧ ∀ j p, j < x + 1 → xs[j]? ≠ some (k, p)) ∨ ∃ j p, hit = some j ∧ j < x + 1 ∧ xs[j]? = some (k, p)) := fun ne => by
            rcases hx with ⟨a1, a2⟩ | ⟨j, p, a1, a2, a3⟩
            · refine .inl ⟨a1, fun j p hj e => ?_⟩
              by_cases c1 : j < x
              · exact a2 j p c1 e
              · have : j = x := by omega
                subst this
                rw [k1] at e
                cases e
                exact ne rfl
            · exact .inr ⟨j, p, a1, by omega, a3⟩
          rw [k3]
          dsimp only
          by_cases hh : (y.hash w == k.hash w) = true
          · rw [if_pos hh]
            refine wpAny_bind (wpAny_dictEpoch ho hd (wpAny_bind (isK_eq hu k2 hkey (wpAny_bind (wpAny_dictEpoch ho hd ?_)))))
            rw [if_neg (by simp)]
            by_cases hk : y = k
            · rw [decide_eq_true hk]
              subst hk
              rcases hx with ⟨rfl, _⟩ | ⟨j, p, _, a2, a3⟩
              · simp only [Option.isSome_none, Bool.false_eq_true, if_false, if_true]
                refine wpAny_bind (wpAny_rule ?_)
                split
                · exact wpAny_pure (wpAny_pure (q1 x _ k1))
                · exact wpAny_pure ⟨rfl, x + 1, some x, rfl, hr', hlt, .inr ⟨x, _, rfl, Nat.lt_succ_self x, k1⟩⟩
              · exact absurd (key_one hn a3 k1) (by omega)
            · rw [decide_eq_false hk]
              simp only [Bool.false_eq_true, if_false, Bool.false_and]
              exact wpAny_bind (wpAny_rule (wpAny_pure ⟨rfl, x + 1, hit, rfl, hr', hlt, nx hk⟩))
          · rw [if_neg hh]
            exact wpAny_pure ⟨rfl, x + 1, hit, rfl, hr', hlt, nx fun e => hh (by rw [e]; simp)⟩
        · rintro b s' ⟨rfl, i, hit, rfl, hr, hi, hH⟩
          rcases hH with ⟨rfl, hno⟩ | ⟨j, p, rfl, _, e⟩
          · refine wpAny_pure (q0 fun j p e => ?_)
            by_cases c1 : j < i
            · exact hno j p c1 e
            · have hj : j < es.size := by rw [hz]; exact (List.getElem?_eq_some_iff.mp e).1
              have := List.filter_eq_nil_iff.mp hr.symm j (List.mem_range'_1.mpr ⟨by omega, by omega⟩)
              exact this (hpw j p e)
          · exact wpAny_pure (q1 j p e)))
      next => (
      by_cases one : ((placesWithHash es.size (fun i => es[i]?.map (·.hash)) (k.hash w)).filterMap (fun i => es[i]?.map (·.key)) == [v]) = true <;>
      (first | rw [if_pos one] | rw [if_neg one]) <;> (first | refine wpAny_bind (wpAny_pure ?_) | refine wpAny_bind (tells_not hkey hst ?_)) <;> (
        rw [if_neg (by simp)]
        refine wpAny_bind (wpAny_forIn_list _ (fun r b s' => s' = s ∧ ∃ i hit, b = (none, hit) ∧ r = (List.range' i (es.size - i)).filter pw ∧ i ≤ es.size ∧ ((hit = none ∧ ∀ j p, j < i → xs[j]? ≠ some (k, p)) ∨ ∃ j p, hit = some j ∧ j < i ∧ xs[j]? = some (k, p))) _ ?_ ?_ _ _
          ⟨rfl, 0, none, rfl, by rw [placesWithHash, List.range_eq_range', Nat.sub_zero], Nat.zero_le _, .inl ⟨rfl, fun _ _ h => absurd h (Nat.not_lt_zero _)⟩⟩)
        · rintro x r b s' ⟨rfl, i, hit, rfl, hr, hi, hH⟩
          obtain ⟨h1, h2, h3, h4, h5⟩ := filter_range'_cons _ _ _ _ _ hr.symm
          have hlt : x < es.size := by omega
          obtain ⟨y, b, u, k1, k2, k3⟩ := at_ hlt
          have hr' : r = (List.range' (x + 1) (es.size - (x + 1))).filter pw := by rw [h5]; congr 2; omega
          have hx : (hit = none ∧ ∀ j p, j < x → xs[j]? ≠ some (k, p)) ∨ ∃ j p, hit = some j ∧ j < x ∧ xs[j]? = some (k, p) := by
            rcases hH with ⟨a1, a2⟩ | ⟨j, p, a1, a2, a3⟩
            · refine .inl ⟨a1, fun j p hj e => ?_⟩
              by_cases c1 : j < i
              · exact a2 j p c1 e
              · have := h4 j (by omega) hj
                rw [hpw j p e] at this
                cases this
            · exact .inr ⟨j, p, a1, by omega, a3⟩
          have nx : ¬ y = k → ((hit = none ∧ ∀ j p, j < x + 1 → xs[j]? ≠ some (k, p)) ∨ ∃ j p, hit = some j ∧ j < x + 1 ∧ xs[j]? = some (k, p)) := fun ne => by
            rcases hx with ⟨a1, a2⟩ | ⟨j, p, a1, a2, a3⟩
            · refine .inl ⟨a1, fun j p hj e => ?_⟩
              by_cases c1 : j < x
              · exact a2 j p c1 e
              · have : j = x := by omega
                subst this
                rw [k1] at e
                cases e
                exact ne rfl
            · exact .inr ⟨j, p, a1, by omega, a3⟩
          rw [k3]
          dsimp only
          by_cases hh : (y.hash w == k.hash w) = true
          · rw [if_pos hh]
            refine wpAny_bind (wpAny_dictEpoch ho hd (wpAny_bind (isK_eq hu k2 hkey (wpAny_bind (wpAny_dictEpoch ho hd ?_)))))
            rw [if_neg (by simp)]
            by_cases hk : y = k
            · rw [decide_eq_true hk]
              subst hk
              rcases hx with ⟨rfl, _⟩ | ⟨j, p, _, a2, a3⟩
              · simp only [Option.isSome_none, Bool.false_eq_true, if_false, if_true]
                refine wpAny_bind (wpAny_rule ?_)
                split
                · exact wpAny_pure (wpAny_pure (q1 x _ k1))
                · exact wpAny_pure ⟨rfl, x + 1, some x, rfl, hr', hlt, .inr ⟨x, _, rfl, Nat.lt_succ_self x, k1⟩⟩
              · exact absurd (key_one hn a3 k1) (by omega)
            · rw [decide_eq_false hk]
              simp only [Bool.false_eq_true, if_false, Bool.false_and]
              exact wpAny_bind (wpAny_rule (wpAny_pure ⟨rfl, x + 1, hit, rfl, hr', hlt, nx hk⟩))
          · rw [if_neg hh]
            exact wpAny_pure ⟨rfl, x + 1, hit, rfl, hr', hlt, nx fun e => hh (by rw [e]; simp)⟩
        · rintro b s' ⟨rfl, i, hit, rfl, hr, hi, hH⟩
          rcases hH with ⟨rfl, hno⟩ | ⟨j, p, rfl, _, e⟩
          · refine wpAny_pure (q0 fun j p e => ?_)
            by_cases c1 : j < i
            · exact hno j p c1 e
            · have hj : j < es.size := by rw [hz]; exact (List.getElem?_eq_some_iff.mp e).1
              have := List.filter_eq_nil_iff.mp hr.symm j (List.mem_range'_1.mpr ⟨by omega, by omega⟩)
              exact this (hpw j p e)
          · exact wpAny_pure (q1 j p e)))
end
end L2.Dn
namespace L2.Dn
open PySem
/-! ### what such a dict answers -/
def lkE (xs : List Ent) (k : NestedKey) : Option Value := (xs.find? fun x => decide (x.1 = k)).map (·.2.2)
def putE (xs : List Ent) (k : NestedKey) (v u : Value) : List Ent := if k ∈ xs.map (·.1) then xs.map fun x => if x.1 = k then (x.1, x.2.1, u) else x else xs ++ [(k, v, u)]
theorem lkE_at {xs : List Ent} (hn : (xs.map (·.1)).Nodup) {j : Nat} {k : NestedKey} {p : Value × Value} (h : xs[j]? = some (k, p)) : lkE xs k = some p.2 := by
  unfold lkE
  have hm := List.mem_of_getElem? h
  cases hf : xs.find? fun x => decide (x.1 = k) with
  | none => exact absurd (decide_eq_true rfl) (List.find?_eq_none.mp hf _ hm)
  | some y =>
    have h1 : y.1 = k := by simpa using List.find?_some hf
    have h2 := List.mem_of_find?_eq_some hf
    obtain ⟨i, hi⟩ := List.mem_iff_getElem?.mp h2
    obtain ⟨y1, y2⟩ := y
    cases h1
    have := key_one hn hi h
    subst this
    rw [hi] at h
    cases h
    rfl
theorem lkE_no {xs : List Ent} {k : NestedKey} (h : ∀ (j : Nat) (p : Value × Value), xs[j]? ≠ some (k, p)) : lkE xs k = none := by
  unfold lkE
  rw [Option.map_eq_none_iff, List.find?_eq_none]
  intro x hx hk
  obtain ⟨j, hj⟩ := List.mem_iff_getElem?.mp hx
  obtain ⟨y, p⟩ := x
  have : y = k := of_decide_eq_true hk
  exact h j p (by rw [hj, this])
theorem mem_no {xs : List Ent} {k : NestedKey} (h : ∀ (j : Nat) (p : Value × Value), xs[j]? ≠ some (k, p)) : k ∉ xs.map (·.1) := fun hm => by
  obtain ⟨x, hx, rfl⟩ := List.mem_map.mp hm
  obtain ⟨j, hj⟩ := List.mem_iff_getElem?.mp hx
  exact h j x.2 hj
theorem map_no {xs : List Ent} {k : NestedKey} {u : Value} (h : k ∉ xs.map (·.1)) : (xs.map fun x => if x.1 = k then (x.1, x.2.1, u) else x) = xs := by
  conv => rhs; rw [← List.map_id xs]
  exact List.map_congr_left fun x hx => if_neg fun e => h (by rw [← e]; exact List.mem_map.mpr ⟨x, hx, rfl⟩)
theorem map_at {w : World} {u : Value} {k : NestedKey} : ∀ {xs : List Ent} {j : Nat} {p : Value × Value}, (xs.map (·.1)).Nodup → xs[j]? = some (k, p) → (xs.map (entOf w)).modify j (fun e => { e with val := u }) = (xs.map fun x => if x.1 = k then (x.1, x.2.1, u) else x).map (entOf w)
  | [], _, _, _, h => by cases h
  | x :: xs, 0, p, hn, h => by
    cases h
    rw [List.map_cons, List.nodup_cons] at hn
    rw [List.map_cons, List.map_cons, map_no hn.1, if_pos rfl]
    rfl
  | x :: xs, j + 1, p, hn, h => by
    rw [List.map_cons, List.nodup_cons] at hn
    have ne : ¬ x.1 = k := fun e => hn.1 (by rw [e]; exact List.mem_map.mpr ⟨_, List.mem_of_getElem? h, rfl⟩)
    rw [List.map_cons, List.map_cons, if_neg ne, List.map_cons, List.modify_succ_cons, map_at (xs := xs) (j := j) hn.2 h]
theorem keys_put {xs : List Ent} {k : NestedKey} {u : Value} : (xs.map fun x => if x.1 = k then (x.1, x.2.1, u) else x).map (·.1) = xs.map (·.1) := by
  rw [List.map_map]
  exact List.map_congr_left fun x _ => by simp only [Function.comp]; split <;> rfl
section
variable {P : Program} {w : World} {A : Around} {E : Value → Shared → Prop} {s : Shared} {d : Addr} {xs : List Ent} {k : NestedKey} {v u : Value}
theorem GDict.ty (h : GDict w s.heap d xs) : s.TypeIs (.ref d) "dict" := by
  obtain ⟨o, _, _, h1, h2, _⟩ := h
  exact ⟨o, h1, h2.1⟩
theorem GDict.nd {hp : Heap} (h : GDict w hp d xs) : (xs.map (·.1)).Nodup := by
  obtain ⟨_, _, _, _, _, _, _, _, h⟩ := h
  exact h
theorem isK_but {h h' : Heap} {o : Obj} {es : Array DictEntry} {ep : Nat} {y : NestedKey} {b : Value} (hk : IsK h y b) (ho : h.get? d = some o) (hd : o.data = .dict es ep) (hs : Heap.SameBut d h h') : IsK h' y b :=
  ⟨NestedIs.at (fun c ob vs n hb hc => (hs.2 c fun e => by
    subst e
    rw [ho] at hb
    cases hb
    rw [hd] at hc
    cases hc).trans hb) y b hk.1, hk.2⟩
theorem get_key {Q : Option Value → Shared → Prop} (hu : A.units + 8 < cLine) (hk : IsK s.heap k v) (hm : GDict w s.heap d xs) (q : Q (lkE xs k) { s with toks := s.toks + k.draws }) : wpAny (model P w) A (dictGet d v) Q E s := by
  obtain ⟨o, es, ep, ho, _, hd, he, his, hn⟩ := hm
  unfold dictGet
  try with_reducible refine wpAny_holding ?_
  refine wpAny_bind (isK_hash hu hk (wpAny_bind (find_key (s := { s with toks := s.toks + k.draws }) hu hk ho hd he his hn (fun no => ?_) fun j p hj => ?_)))
  · rw [lkE_no no] at q
    exact wpAny_pure q
  · rw [lkE_at hn hj] at q
    refine wpAny_bind (wpAny_dictEntries (s := { s with toks := s.toks + k.draws }) ho hd ?_)
    rw [ent_get he j, hj]
    exact wpAny_pure q
theorem seth_key {Q : Unit → Shared → Prop} (hu : A.units + 8 < cLine) (hk : IsK s.heap k v) (hm : GDict w s.heap d xs) (hz : xs.length ≤ sizeLine)
    (q : ∀ h', GDict w h' d (putE xs k v u) → Heap.SameBut d s.heap h' → Q () { s with heap := h' }) : wpAny (model P w) A (dictSetHashed d v (k.hash w) u) Q E s := by
  obtain ⟨o, es, ep, ho, hc, hd, he, his, hn⟩ := hm
  unfold dictSetHashed
  try with_reducible refine wpAny_holding ?_
  refine wpAny_bind (find_key hu hk ho hd he his hn (fun no => ?_) fun j p hj => ?_)
  · have nm := mem_no no
    have ep0 : putE xs k v u = xs ++ [(k, v, u)] := if_neg nm
    refine wpAny_bind (wpAny_rule (wpAny_updateDictKeys (hz := by have := ent_size he; omega) ho hd (q _ ⟨_, _, ep + 1, Heap.get?_update_self _ ho (Obj.isFreed_of_dict (Obj.data_mapDictKeys hd _)), hc.mapDictKeys _, Obj.data_mapDictKeys hd _, ?_, ?_, ?_⟩ (Heap.SameBut.update ..))))
    · rw [ep0]
      simp [he, entOf]
    · rw [ep0]
      intro x hx
      rcases List.mem_append.mp hx with hx | hx
      · exact isK_but (his x hx) ho hd (Heap.SameBut.update ..)
      · obtain rfl := List.mem_singleton.mp hx
        exact isK_but hk ho hd (Heap.SameBut.update ..)
    · rw [ep0, List.map_append, List.nodup_append]
      refine ⟨hn, by simp, fun a ha b hb e => ?_⟩
      have : b = k := by simpa using hb
      exact nm (by rw [← this, ← e]; exact ha)
  · have mm : k ∈ xs.map (·.1) := List.mem_map.mpr ⟨_, List.mem_of_getElem? hj, rfl⟩
    have ep0 : putE xs k v u = xs.map fun x => if x.1 = k then (x.1, x.2.1, u) else x := if_pos mm
    refine wpAny_bind (wpAny_rule (wpAny_bind (wpAny_updateDict ho hd (wpAny_point (q _ ⟨_, _, ep, Heap.get?_update_self _ ho (Obj.isFreed_of_dict (Obj.data_mapDict hd _)), hc.mapDict _, Obj.data_mapDict hd _, ?_, ?_, ?_⟩ (Heap.SameBut.update ..))))))
    · rw [ep0, ← map_at hn hj, ← he]
      simp
    · rw [ep0]
      intro x hx
      obtain ⟨y, hy, rfl⟩ := List.mem_map.mp hx
      split <;> exact isK_but (his y hy) ho hd (Heap.SameBut.update ..)
    · rw [ep0, keys_put]
      exact hn
theorem set_key {Q : Unit → Shared → Prop} (hu : A.units + 8 < cLine) (hk : IsK s.heap k v) (hm : GDict w s.heap d xs) (hz : xs.length ≤ sizeLine)
    (q : ∀ h', GDict w h' d (putE xs k v u) → Heap.SameBut d s.heap h' → Q () { s with heap := h', toks := s.toks + k.draws }) : wpAny (model P w) A (dictSet d v u) Q E s := by
  unfold dictSet
  try with_reducible refine wpAny_holding ?_
  exact wpAny_bind (isK_hash hu hk (seth_key (s := { s with toks := s.toks + k.draws }) hu hk hm hz q))
theorem gi_key {Q : Value → Shared → Prop} (hu : A.units + 9 < cLine) (hk : IsK s.heap k v) (hm : GDict w s.heap d xs) (hl : lkE xs k = some u) (q : Q u { s with toks := s.toks + k.draws }) : wpAny (model P w) A (getItem (.ref d) v) Q E s := by
  unfold getItem
  try with_reducible refine wpAny_holding ?_
  refine wpAny_bind (wpAny_sequenceKey hm.ty (by decide) ?_)
  refine wpAny_bind (wpAny_callSpecial?_slot (name := Str.ofString "__getitem__") hm.ty slot_dict_getitem (wpAny_call_entry slot_dict_getitem hm.ty entry_dict_getitem ?_ (args_dict_getitem _ _)))
  show wpAny _ _ (dictGet d v >>= _) _ _ s
  refine wpAny_bind (get_key (by show A.units + 1 + 8 < _; omega) hk hm ?_)
  rw [hl]
  exact wpAny_pure ⟨u, rfl, wpAny_pure q⟩
theorem si_key {Q : Unit → Shared → Prop} (hu : A.units + 9 < cLine) (hk : IsK s.heap k v) (hm : GDict w s.heap d xs) (hz : xs.length ≤ sizeLine)
    (q : ∀ h', GDict w h' d (putE xs k v u) → Heap.SameBut d s.heap h' → Q () { s with heap := h', toks := s.toks + k.draws }) : wpAny (model P w) A (setItem (.ref d) v u) Q E s := by
  unfold setItem
  try with_reducible refine wpAny_holding ?_
  refine wpAny_bind (wpAny_sequenceKey hm.ty (by decide) ?_)
  refine wpAny_bind (wpAny_callSpecial?_slot (name := Str.ofString "__setitem__") hm.ty slot_dict_setitem (wpAny_call_entry slot_dict_setitem hm.ty entry_dict_setitem ?_ (args_dict_setitem _ _ _)))
  show wpAny _ _ (Builtin.Dict.notOrdered "__setitem__" ⟨[.ref d, v, u], []⟩ >>= _) _ _ s
  refine wpAny_bind (wpAny_notOrdered_dict hm.ty ?_)
  show wpAny _ _ (dictSet d v u >>= _) _ _ s
  exact wpAny_bind (set_key (by show A.units + 1 + 8 < _; omega) hk hm hz fun h' hm' hs' => wpAny_pure ⟨.none, rfl, wpAny_pure (q h' hm' hs')⟩)
theorem con_key {Q : Bool → Shared → Prop} (hu : A.units + 9 < cLine) (hk : IsK s.heap k v) (hd : (d == sysModules) = false) (hm : GDict w s.heap d xs) (q : Q (lkE xs k).isSome { s with toks := s.toks + k.draws }) : wpAny (model P w) A (contains (.ref d) v) Q E s := by
  refine wpAny_contains_slot hm.ty F.slot_dict_contains ?_
  refine call_meetsIn F.slot_dict_contains hm.ty F.entry_dict_contains (F.args_dict_contains_2 _ _) (S := fun A' R s' => A' = A ∧ s' = s ∧ R (.ok (.ret (.bool (lkE xs k).isSome))) { s with toks := s.toks + k.draws }) (fun A' R s' hS => ?_) ⟨rfl, rfl, wpAny_truthy_bool q⟩
  obtain ⟨rfl, rfl, hq⟩ := hS
  show wpAny _ _ (dictGet d v >>= _) _ _ _
  refine wpAny_bind (get_key (by show A'.units + 1 + 8 < _; omega) hk hm ?_)
  cases hf : lkE xs k with
  | some p =>
    rw [hf] at hq
    show wpAny _ _ (ret (.bool true)) _ _ _
    exact wpAny_pure hq
  | none =>
    rw [hf] at hq
    show wpAny _ _ (Builtin.Dict.pendingKey? d v >>= _) _ _ _
    exact wpAny_bind (wpAny_pendingKey_other hd (wpAny_pure hq))
end
end L2.Dn
namespace L2.Dn
open PySem PySem.Spec PyProof.Rows L2
section
variable {X : Cx} {pins : List (Addr × Obj)} {σ : St} {H : Hp} {s : Shared}
mutual
/-- frozen data that may be a key is that key in the machine's heap -/
theorem key_is (I : Inv X pins σ H s) : ∀ {v : V} {d : PyData} {u : Value} {k : NestedKey}, DpZ X.kw H v d → nk d = some k → RelV v u → NestedIs s.heap k u
  | _, _, u, k, .non, e, r => by cases r; cases e; exact .none
  | _, _, u, k, .bl b, e, r => by cases r; cases e; exact .bool rfl
  | _, _, u, k, .int i, e, r => by obtain ⟨t, rfl⟩ := r; cases e; exact .int i t
  | _, _, u, k, .str x, e, r => by obtain ⟨t, rfl⟩ := r; cases e; exact .text x t
  | _, _, u, k, .lst _ _, e, r => by simp [nk] at e
  | _, _, u, k, .dG _ _ _ _ _ _, e, r => by simp [nk] at e
  | _, _, u, k, .tup (ds := ds) h q, e, r => by
    cases r
    obtain ⟨its, rv, ⟨o, e1, hc, n, hd⟩, z⟩ := I.tuple h
    simp only [nk, Option.map_eq_some_iff] at e
    obtain ⟨ks, e2, rfl⟩ := e
    exact .tup e1 hc hd (keys_are I q e2 (by simpa using rv))
theorem keys_are (I : Inv X pins σ H s) : ∀ {vs : List V} {ds : List PyData} {us : List Value} {ks : List NestedKey}, DpZs X.kw H vs ds → nk.nks ds = some ks → Vals vs us → NestedAll s.heap ks us
  | _, _, us, ks, .nil, e, r => by cases r; simp [nk.nks] at e; subst e; exact .nil
  | _, _, us, ks, .cons (d := d) (ds := ds) h q, e, r => by
    cases r with
    | cons r1 r2 =>
      unfold nk.nks at e
      cases e1 : nk d with
      | none => rw [e1] at e; cases e
      | some k1 =>
        cases e2 : nk.nks ds with
        | none => rw [e1, e2] at e; cases e
        | some k2 =>
          rw [e1, e2] at e
          cases e
          exact .cons (key_is I h e1 r1) (keys_are I q e2 r2)
end
/-- an entry as it is told and as it lies -/
def EntV (e : NestedKey × V × V) (x : Ent) : Prop := e.1 = x.1 ∧ RelV e.2.1 x.2.1 ∧ RelV e.2.2 x.2.2
theorem ents_of {w : World} : ∀ {es : List (NestedKey × V × V)} {ens : List DictEntry}, Paired (fun (e : NestedKey × V × V) (x : DictEntry) => x.hash = e.1.hash w ∧ RelV e.2.1 x.key ∧ RelV e.2.2 x.val) es ens → ∃ xs : List Ent, ens = xs.map (entOf w) ∧ Paired EntV es xs
  | _, _, .nil => ⟨[], rfl, .nil⟩
  | _, _, .cons (b := x) (a := e) h r => by
    obtain ⟨xs, e1, e2⟩ := ents_of r
    refine ⟨(e.1, x.key, x.val) :: xs, ?_, .cons ⟨rfl, h.2.1, h.2.2⟩ e2⟩
    rw [e1, List.map_cons]
    congr 1
    obtain ⟨a, b, c⟩ := x
    simp only [entOf]
    rw [← h.1]
theorem ents_keys : ∀ {es : List (NestedKey × V × V)} {xs : List Ent}, Paired EntV es xs → es.map (·.1) = xs.map (·.1)
  | _, _, .nil => rfl
  | _, _, .cons h r => by rw [List.map_cons, List.map_cons, h.1, ents_keys r]
theorem ents_isK (I : Inv X pins σ H s) : ∀ {es : List (NestedKey × V × V)} {xs : List Ent} {ks : List PyData}, Paired EntV es xs → DpZs X.kw H (es.map (·.2.1)) ks → es.map (fun e => some e.1) = ks.map nk → (∀ e ∈ es, e.1.depth ≤ 8) → ∀ x ∈ xs, IsK s.heap x.1 x.2.1
  | _, _, _, .nil, _, _, _, x, hx => by cases hx
  | _, _, ks, .cons (a := e) (b := y) h r, q, ek, hd, x, hx => by
    cases q with
    | @cons _ _ d ds q1 q2 =>
      simp only [List.map_cons, List.cons.injEq] at ek
      rcases List.mem_cons.mp hx with rfl | hx
      · exact ⟨key_is I q1 (by rw [← ek.1, h.1]) h.2.1, by rw [← h.1]; exact hd _ List.mem_cons_self⟩
      · exact ents_isK I r q2 ek.2 (fun z hz => hd z (List.mem_cons_of_mem _ hz)) x hx
/-- a told dict as it lies -/
theorem gd_at {a : Addr} {es : List (NestedKey × V × V)} {kvs : List (PyData × D)} {c : Anc} (I : Inv X pins σ H s) (h : Rd H a (gdO X.w a es)) (r : DctR X.kw H c es kvs) : (a == sysModules) = false ∧ ∃ xs : List Ent, GDict X.w s.heap a xs ∧ Paired EntV es xs := by
  have z : ObjOk X.prog X.w H s.heap a (HO.ext _) := h.ok I.hok
  obtain ⟨o, ens, ep, h0, h1, h2, h3, h4⟩ := z.1
  obtain ⟨xs, e1, e2⟩ := ents_of h4
  have ek : es.map (fun e => some e.1) = (kvs.map (·.1)).map nk := by rw [r.key, List.map_map]; rfl
  exact ⟨h0, xs, ⟨o, ens, ep, h1, h2, h3, e1, ents_isK I e2 r.kd ek r.dp, by rw [← ents_keys e2]; exact r.nd⟩, e2⟩
end
end L2.Dn
namespace L2.Dn
open PySem PySem.Spec PyProof.Rows L2
/-! ### a dict's answers as data -/
def lkD (kvs : List (PyData × D)) (k : NestedKey) : Option D := (kvs.find? fun q => decide (nk q.1 = some k)).map (·.2)
/-- d[k] = v: the key that stands stays -/
def putD (kvs : List (PyData × D)) (kd : PyData) (k : NestedKey) (d : D) : List (PyData × D) := if some k ∈ kvs.map (fun q => nk q.1) then kvs.map fun q => if nk q.1 = some k then (q.1, d) else q else kvs ++ [(kd, d)]
def dctOf (d : D) (m : Store) : Option (List (PyData × D)) := match dctZ d with
  | some q => some (q.1.zip q.2)
  | none => match d with
    | .cell i => match m.at_ i with
      | some (.dct kvs) => some kvs
      | _ => none
    | _ => none
theorem DctR.ofK {K : KW} {H : Hp} {c : Anc} {es : List (NestedKey × V × V)} {ks : List PyData} {xs : List D} (h : DctK K H es ks) (hv : VDs K H c (es.map (·.2.2)) xs) : DctR K H c es (ks.zip xs) := by
  have l1 := h.len
  have l2 : es.length = xs.length := by rw [← hv.length, List.length_map]
  have z1 : (ks.zip xs).map (·.1) = ks := List.map_fst_zip (by omega)
  have z2 : (ks.zip xs).map (·.2) = xs := List.map_snd_zip (by omega)
  refine ⟨?_, h.dp, h.nd, by rw [z1]; exact h.kd, by rw [z2]; exact hv⟩
  have := congrArg (List.map nk) z1
  simp only [List.map_map] at this
  rw [h.key]
  exact this.symm
/-- a datum that may be a key -/
def keyK : D → Option NestedKey
  | .p d => match nk d with
    | some k => if k.depth ≤ 8 then some k else none
    | none => none
  | _ => none
section
variable {X : Cx} {pins : List (Addr × Obj)} {σ : St} {H : Hp} {s : Shared} {c : Anc} {m : Store}
theorem lk_some {K : KW} {k : NestedKey} {d : D} : ∀ {es : List (NestedKey × V × V)} {xs : List Ent} {kvs : List (PyData × D)}, Paired EntV es xs → es.map (fun e => some e.1) = kvs.map (fun q => nk q.1) → VDs K H c (es.map (·.2.2)) (kvs.map (·.2)) → lkD kvs k = some d → ∃ v u, lkE xs k = some u ∧ RelV v u ∧ VD K H c v d
  | _, _, [], .nil, _, _, e => by cases e
  | _, _, q :: kvs, .nil, ek, _, e => by cases ek
  | _, _, [], .cons h r, ek, _, e => by cases ek
  | _, _, q :: kvs, .cons (a := e0) (b := x) h r, ek, hv, e => by
    simp only [List.map_cons, List.cons.injEq] at ek
    simp only [List.map_cons] at hv
    unfold VDs at hv
    obtain ⟨v, vr, e1, h1, h2⟩ := hv
    cases e1
    by_cases hk : x.1 = k
    · have : nk q.1 = some k := by rw [← ek.1, h.1, hk]
      simp only [lkD, List.find?_cons, this, decide_true, Option.map_some, Option.some.injEq] at e
      refine ⟨_, x.2.2, ?_, h.2.2, by rw [← e]; exact h1⟩
      simp only [lkE, List.find?_cons, hk, decide_true, Option.map_some]
    · have : ¬ nk q.1 = some k := fun z => hk (by rw [← ek.1, h.1] at z; exact Option.some.inj z)
      have e' : lkD kvs k = some d := by
        simp only [lkD, List.find?_cons, this, decide_false] at e
        exact e
      obtain ⟨v', u', g1, g2, g3⟩ := lk_some r ek.2 h2 e'
      refine ⟨v', u', ?_, g2, g3⟩
      simp only [lkE, List.find?_cons, hk, decide_false]
      exact g1
theorem lk_none {k : NestedKey} : ∀ {es : List (NestedKey × V × V)} {xs : List Ent} {kvs : List (PyData × D)}, Paired EntV es xs → es.map (fun e => some e.1) = kvs.map (fun q => nk q.1) → lkD kvs k = none → lkE xs k = none
  | _, _, _, .nil, _, _ => rfl
  | _, _, [], .cons h r, ek, _ => by cases ek
  | _, _, q :: kvs, .cons (a := e0) (b := x) h r, ek, e => by
    simp only [List.map_cons, List.cons.injEq] at ek
    by_cases hk : x.1 = k
    · have : nk q.1 = some k := by rw [← ek.1, h.1, hk]
      simp only [lkD, List.find?_cons, this, decide_true, Option.map_some] at e
      cases e
    · have : ¬ nk q.1 = some k := fun z => hk (by rw [← ek.1, h.1] at z; exact Option.some.inj z)
      have e' : lkD kvs k = none := by
        simp only [lkD, List.find?_cons, this, decide_false] at e
        exact e
      simp only [lkE, List.find?_cons, hk, decide_false]
      exact lk_none r ek.2 e'
theorem lk_isSome {k : NestedKey} {es : List (NestedKey × V × V)} {xs : List Ent} {kvs : List (PyData × D)} (p : Paired EntV es xs) (r : DctR X.kw H c es kvs) : (lkE xs k).isSome = (lkD kvs k).isSome := by
  cases e : lkD kvs k with
  | none => rw [lk_none p r.key e]; rfl
  | some d =>
    obtain ⟨v, u, h1, _⟩ := lk_some p r.key r.vd e
    rw [h1]
    rfl
theorem dctOf_ok {v : V} {d : D} {kvs : List (PyData × D)} (r : RelS X.kw c m H) (hv : VD X.kw H c v d) (e : dctOf d m = some kvs) : ∃ a es, v = .ref a ∧ Rd H a (gdO X.w a es) ∧ DctR X.kw H c es kvs := by
  unfold dctOf at e
  split at e
  · rename_i q hq
    cases e
    obtain ⟨a, o, es, h1, h2, h3, h4⟩ := dctZ_ok (ks := q.1) (xs := q.2) hv hq
    exact ⟨a, es, h1, .inr ⟨o, h2⟩, DctR.ofK h3 h4⟩
  · split at e
    · rename_i i _
      split at e
      · rename_i k2 hm
        cases e
        unfold VD at hv
        obtain ⟨a, h1, h2⟩ := hv
        obtain ⟨es, h3, h4⟩ := r.at_ _ a _ h1 hm
        exact ⟨a, es, h2, .inl h3, h4.warm.mono (Ext.refl _) (forI_le _ _)⟩
      · cases e
    · cases e
theorem keyK_is (I : Inv X pins σ H s) {v : V} {d : D} {u : Value} {k : NestedKey} (hv : VD X.kw H c v d) (e : keyK d = some k) (r : RelV v u) : IsK s.heap k u := by
  unfold keyK at e
  split at e
  · rename_i d
    split at e
    · rename_i k' hk
      split at e
      · rename_i hd
        cases e
        unfold VD at hv
        exact ⟨key_is I hv hk r, hd⟩
      · cases e
    · cases e
  · cases e
/-! ### k in d, k not in d, d[k] -/
def inDc (neg : Bool) (x y : D) (m : Store) : OD := match keyK x, dctOf y m with
  | some k, some kvs => some (.p (.bool (if neg then !(lkD kvs k).isSome else (lkD kvs k).isSome)), m)
  | _, _ => none
theorem op_inDc (hu : X.A.units + 65 < cLine) : OpR X (compareOp .In) (rOf X.kw (inDc false)) := by
  intro pins s σ H x y v u Q I rx ry h
  obtain ⟨c, m, dx, dy, r, h1, h2, w⟩ := h
  unfold inDc at w
  split at w
  · rename_i k kvs hk hd
    obtain ⟨a, es, rfl, h3, h4⟩ := dctOf_ok r h2 hd
    cases ry
    obtain ⟨hS, xs, hg, hp⟩ := gd_at I h3 h4
    show wpAny _ _ (do return Value.bool (← contains (Value.ref a) v)) _ _ _
    refine wpAny_bind (con_key (by omega) (keyK_is I h1 hk rx) hS hg (wpAny_pure ?_))
    rw [lk_isSome hp h4]
    exact ⟨.bl _, H, I.tok _, rfl, w.now r (VD.bl.mpr rfl)⟩
  · exact w.elim
theorem op_notInDc (hu : X.A.units + 65 < cLine) : OpR X (compareOp .NotIn) (rOf X.kw (inDc true)) := by
  intro pins s σ H x y v u Q I rx ry h
  obtain ⟨c, m, dx, dy, r, h1, h2, w⟩ := h
  unfold inDc at w
  split at w
  · rename_i k kvs hk hd
    obtain ⟨a, es, rfl, h3, h4⟩ := dctOf_ok r h2 hd
    cases ry
    obtain ⟨hS, xs, hg, hp⟩ := gd_at I h3 h4
    show wpAny _ _ (do return Value.bool (!(← contains (Value.ref a) v))) _ _ _
    refine wpAny_bind (con_key (by omega) (keyK_is I h1 hk rx) hS hg (wpAny_pure ?_))
    rw [lk_isSome hp h4]
    exact ⟨.bl _, H, I.tok _, rfl, w.now r (VD.bl.mpr rfl)⟩
  · exact w.elim
def ixDc (x y : D) (m : Store) : OD := match dctOf x m, keyK y with
  | some kvs, some k => (lkD kvs k).map fun d => (d, m)
  | _, _ => none
end
end L2.Dn
namespace L2.Dn
open PySem PySem.Spec PyProof.Rows L2
section
variable {X : Cx} {pins : List (Addr × Obj)} {σ : St} {H : Hp} {s : Shared} {c : Anc} {m : Store}
theorem ix_Dc (hu : X.A.units + 65 < cLine) : IxR X (rOf X.kw ixDc) := by
  intro value slice pins s σ H x y v u Q I rx ry h hs
  obtain ⟨c, m, dx, dy, r, h1, h2, w⟩ := h
  unfold ixDc at w
  split at w
  · rename_i kvs k hd hk
    obtain ⟨a, es, rfl, h3, h4⟩ := dctOf_ok r h1 hd
    cases rx
    obtain ⟨hS, xs, hg, hp⟩ := gd_at I h3 h4
    cases e : lkD kvs k with
    | none => rw [e] at w; exact w.elim
    | some d =>
      rw [e] at w
      obtain ⟨v', u', g1, g2, g3⟩ := lk_some hp h4.key h4.vd e
      exact tail_any hg.ty slot_dict_getitem.lookup (gi_key (by omega) (keyK_is I h2 hk ry) hg g1 ⟨v', H, I.tok _, g2, w.now r g3⟩) hs
  · exact w.elim
/-- the told entries behind d[k] = v -/
def esPut (es : List (NestedKey × V × V)) (k : NestedKey) (kv v : V) : List (NestedKey × V × V) := if k ∈ es.map (·.1) then es.map fun x => if x.1 = k then (x.1, x.2.1, v) else x else es ++ [(k, kv, v)]
theorem ent_map {k : NestedKey} {v : V} {u : Value} (rv : RelV v u) : ∀ {es : List (NestedKey × V × V)} {xs : List Ent}, Paired EntV es xs → Paired EntV (es.map fun x => if x.1 = k then (x.1, x.2.1, v) else x) (xs.map fun x => if x.1 = k then (x.1, x.2.1, u) else x)
  | _, _, .nil => .nil
  | _, _, .cons (a := e) (b := x) h r => by
    refine .cons ?_ (ent_map rv r)
    have e1 : e.1 = x.1 := h.1
    dsimp only
    by_cases hk : x.1 = k
    · rw [if_pos hk, if_pos (e1.trans hk)]
      exact ⟨h.1, h.2.1, rv⟩
    · rw [if_neg hk, if_neg (fun z => hk (e1 ▸ z))]
      exact h
theorem ent_app {es es' : List (NestedKey × V × V)} {xs xs' : List Ent} (h : Paired EntV es xs) (h' : Paired EntV es' xs') : Paired EntV (es ++ es') (xs ++ xs') := by
  induction h with
  | nil => exact h'
  | cons h r ih => exact .cons h ih
theorem ent_put {k : NestedKey} {kv v : V} {ku u : Value} (rk : RelV kv ku) (rv : RelV v u) {es : List (NestedKey × V × V)} {xs : List Ent} (h : Paired EntV es xs) : Paired EntV (esPut es k kv v) (putE xs k ku u) := by
  unfold esPut putE
  rw [ents_keys h]
  split
  · exact ent_map rv h
  · exact ent_app h (.cons ⟨rfl, rk, rv⟩ .nil)
theorem keys_esPut {k : NestedKey} {v : V} {es : List (NestedKey × V × V)} : (es.map fun x => if x.1 = k then (x.1, x.2.1, v) else x).map (·.1) = es.map (·.1) := by
  rw [List.map_map]
  exact List.map_congr_left fun x _ => by simp only [Function.comp]; split <;> rfl
theorem DpZs.app {K : KW} {H : Hp} : ∀ {vs ws : List V} {ds es : List PyData}, DpZs K H vs ds → DpZs K H ws es → DpZs K H (vs ++ ws) (ds ++ es)
  | _, _, _, _, .nil, q => q
  | _, _, _, _, .cons h r, q => .cons h (DpZs.app r q)
theorem vd_put {K : KW} {k : NestedKey} {v : V} {d : D} (hv : VD K H c v d) : ∀ {es : List (NestedKey × V × V)} {kvs : List (PyData × D)}, es.map (fun e => some e.1) = kvs.map (fun q => nk q.1) → VDs K H c (es.map (·.2.2)) (kvs.map (·.2)) → VDs K H c ((es.map fun x => if x.1 = k then (x.1, x.2.1, v) else x).map (·.2.2)) ((kvs.map fun q => if nk q.1 = some k then (q.1, d) else q).map (·.2))
  | [], [], _, h => h
  | [], _ :: _, e, _ => by cases e
  | _ :: _, [], e, _ => by cases e
  | e :: es, q :: kvs, ek, h => by
    simp only [List.map_cons, List.cons.injEq] at ek h ⊢
    unfold VDs at h ⊢
    obtain ⟨v0, vr, e1, h1, h2⟩ := h
    cases e1
    by_cases hk : e.1 = k
    · have : nk q.1 = some k := by rw [← ek.1, hk]
      rw [if_pos hk, if_pos this]
      exact ⟨v, _, rfl, hv, vd_put hv ek.2 h2⟩
    · have : ¬ nk q.1 = some k := fun z => hk (by rw [← ek.1] at z; exact Option.some.inj z)
      rw [if_neg hk, if_neg this]
      exact ⟨_, _, rfl, h1, vd_put hv ek.2 h2⟩
theorem DctR.put {K : KW} {es : List (NestedKey × V × V)} {kvs : List (PyData × D)} {k : NestedKey} {kv v : V} {kd : PyData} {d : D} (r : DctR K H c es kvs) (hk : nk kd = some k) (h8 : k.depth ≤ 8) (hkd : DpZ K H kv kd) (hv : VD K H c v d) : DctR K H c (esPut es k kv v) (putD kvs kd k d) := by
  have mm : (some k ∈ kvs.map fun q => nk q.1) ↔ k ∈ es.map (·.1) := by
    rw [← r.key]
    simp
  unfold esPut putD
  by_cases hm : k ∈ es.map (·.1)
  · rw [if_pos hm, if_pos (mm.mpr hm)]
    have ek2 : ((es.map fun x => if x.1 = k then (x.1, x.2.1, v) else x).map (·.2.1)) = es.map (·.2.1) := by
      rw [List.map_map]
      exact List.map_congr_left fun x _ => by simp only [Function.comp]; split <;> rfl
    have ek3 : ((kvs.map fun q => if nk q.1 = some k then (q.1, d) else q).map (·.1)) = kvs.map (·.1) := by
      rw [List.map_map]
      exact List.map_congr_left fun x _ => by simp only [Function.comp]; split <;> rfl
    refine ⟨?_, fun e he => ?_, by rw [keys_esPut]; exact r.nd, by rw [ek2, ek3]; exact r.kd, vd_put hv r.key r.vd⟩
    · have a1 := congrArg (List.map some) (keys_esPut (k := k) (v := v) (es := es))
      have a2 := congrArg (List.map nk) ek3
      simp only [List.map_map] at a1 a2 ⊢
      have r' := r.key
      exact a1.trans (r'.trans a2.symm)
    · obtain ⟨x, hx, rfl⟩ := List.mem_map.mp he
      have := r.dp x hx
      split <;> exact this
  · rw [if_neg hm, if_neg fun z => hm (mm.mp z)]
    refine ⟨?_, fun e he => ?_, ?_, ?_, ?_⟩
    · rw [List.map_append, List.map_append, r.key]
      simp [hk]
    · rcases List.mem_append.mp he with he | he
      · exact r.dp e he
      · obtain rfl := List.mem_singleton.mp he
        exact h8
    · rw [List.map_append, List.nodup_append]
      refine ⟨r.nd, by simp, fun a ha b hb e => ?_⟩
      have : b = k := by simpa using hb
      exact hm (by rw [← this, ← e]; exact ha)
    · rw [List.map_append, List.map_append]
      exact DpZs.app r.kd (.cons hkd .nil)
    · rw [List.map_append, List.map_append]
      exact r.vd.append (VDs.one hv)
/-- how a told dict is told anew -/
theorem gd_ok {P : Program} {w : World} {h : Heap} {a : Addr} {es : List (NestedKey × V × V)} {xs : List Ent} (hS : (a == sysModules) = false) (hg : GDict w h a xs) (hp : Paired EntV es xs) : ObjOk P w H h a (gdO w a es) := by
  obtain ⟨o, ens, ep, h1, h2, h3, h4, h5, h6⟩ := hg
  refine ⟨⟨o, ens, ep, hS, h1, h2, h3, ?_⟩, ⟨o, h1⟩, fun g1 g2 z k => ?_⟩
  · rw [h4]
    clear h1 h2 h3 h4 h5 h6
    induction hp with
    | nil => exact .nil
    | cons h r ih => exact .cons ⟨by rw [h.1]; rfl, h.2.1, h.2.2⟩ ih
  · obtain ⟨o, ens, ep, y0, y1, y2, y3, y4⟩ := z
    exact ⟨o, ens, ep, y0, k _ y1, y2, y3, y4⟩
/-- o[i] = v, a dict -/
def setItemDc (o i d : D) (m : Store) : Option Store := match o, i with
  | .cell x, .p kd => match m.at_ x, keyK (.p kd) with
    | some (.dct kvs), some k => if kvs.length < sizeLine ∧ okIn d x = true then some (m.set (.dct (putD kvs kd k d)) x) else none
    | _, _ => none
  | _, _ => none
theorem keyK_p {kd : PyData} {k : NestedKey} (e : keyK (.p kd) = some k) : nk kd = some k ∧ k.depth ≤ 8 := by
  unfold keyK at e
  dsimp only at e
  split at e
  · rename_i k' hk
    split at e
    · rename_i hd
      cases e
      exact ⟨hk, hd⟩
    · cases e
  · cases e
theorem set_dict (hu : X.A.units + 65 < cLine) : PSet X (rSetOf X.kw setItemDc) := by
  intro pins s σ H o i v ov iv u Q I ro ri rv h
  obtain ⟨c, m, m', do_, di, dd, r, h1, h2, h3, e, q⟩ := h
  unfold setItemDc at e
  split at e
  · rename_i x kd
    split at e
    · rename_i kvs k hm hk
      split at e
      · rename_i hc
        cases e
        unfold VD at h1
        obtain ⟨a, ha, rfl⟩ := h1
        cases ro
        obtain ⟨es, g1, g2⟩ := r.at_ x a _ ha hm
        obtain ⟨hS, xs, hg, hp⟩ := gd_at I (.inl g1) g2.warm
        obtain ⟨k1, k2⟩ := keyK_p hk
        have hlen : xs.length ≤ sizeLine := by
          have a1 := congrArg List.length (ents_keys hp)
          have a2 := congrArg List.length g2.key
          simp only [List.length_map] at a1 a2
          have := hc.1
          omega
        refine si_key (by omega) (keyK_is I (c := c) h2 hk ri) hg hlen fun h' hg' hs => ?_
        have hkd : DpZ X.kw H i kd := by unfold VD at h2; exact h2
        have r2 : DctR X.kw.cold H (forI c x) (esPut es k i v) (putD kvs kd k dd) := g2.put k1 k2 (DpZ.kw (K := X.kw) (K' := X.kw.cold) rfl rfl hkd) (VD.forI h3 hc.2)
        refine ⟨_, I.write (x := a) (e := a) (o := gdO X.w a (esPut es k i v)) (by rw [g1]; exact True.intro) (.inl rfl) (fun b u hb e => (hs.2 b hb).trans e) ?_ (gd_ok hS hg' (ent_put ri rv hp)), q _ ?_⟩
        · obtain ⟨o, _, _, e, _⟩ := hg'
          exact ⟨o, e⟩
        · exact r.putC ha hm (by intro z; cases z) g1 rfl ⟨_, upd_same, r2.mono (Ext.putO g1 rfl) (Pre.refl _)⟩
      · cases e
    · cases e
  · cases e
end
end L2.Dn
namespace L2.Dn
open PySem PySem.Spec PyProof.Rows L2
section
variable {X : Cx} {W : WX} {pos : Pos} {c : Anc} {ρ : Rho} {m : Store} {σ : St} {H : Hp}
theorem gd_empty {P : Program} {w : World} {H : Hp} (h : Heap) (hb : sysModules < h.objs.size) : ObjOk P w H (h.push { cls := .type "dict", data := .dict #[] }) h.objs.size (gdO w h.objs.size []) :=
  gd_ok (xs := []) (beq_eq_false_iff_ne.mpr (Nat.ne_of_gt hb)) ⟨_, #[], 0, Heap.get?_push_size _ rfl, ⟨rfl, rfl, rfl⟩, rfl, rfl, fun x hx => (by cases hx), List.nodup_nil⟩ .nil
/-- {} -/
def tDNew (w : World) : TE := fun _ H Q => ∀ p, H p = none → Q (.ref p) (upd H p (gdO w p []))
theorem pe_dnew : PE X (.Dict [] [] pos) (tDNew X.w) := ⟨fun pins s σ H Q I h =>
  wpAny_Dict_empty ⟨.ref s.heap.objs.size, _, I.laid (a := s.heap.objs.size) (o := gdO X.w s.heap.objs.size []) (h' := s.heap.push { cls := .type "dict", data := .dict #[] }) (t' := s.toks) (fun _ _ q => Heap.get?_push_of_some _ q) (Nat.le_refl _) (gd_empty s.heap I.big), rfl, h _ (I.hok.fresh (Nat.le_refl _))⟩⟩
/-- a new dict, a cell -/
def newD : Md → List (PyData × D) → Store → Res D
  | .z, kvs, m => .ok (mkDct kvs) m
  | .l, kvs, m => if nxs (kvs.map (·.2)) then .ok (.cell (m.next true)) (m.push (.dct kvs) true) else .stuck
  | .g, kvs, m => if nls (kvs.map (·.2)) then .ok (.cell (m.next false)) (m.push (.dct kvs) false) else .stuck
def dct0E (z : Md) : FE := fun _ m => newD z [] m
theorem newD_ok {z : Md} {kvs : List (PyData × D)} {es : List (NestedKey × V × V)} {Q : VK} (r : RelS X.kw c m H) {p : Addr} (hp : H p = none) (hv : DctR X.kw H c es kvs) (h : Want X W c H σ (newD z kvs m) Q) : QF Q (.ref p) (upd H p (gdO X.w p es)) := by
  have ex : Ext H (upd H p (gdO X.w p es)) := Ext.new hp
  cases z with
  | z =>
    right
    refine ⟨p, _, rfl, upd_same, trivial, fun o => ?_⟩
    rw [upd_upd]
    have g : Gd X.kw c c m H (upd H p (.frz o (gdO X.w p es))) := r.lay hp
    exact h c _ _ g (mkDct_ok (hv.mono g.ext (Pre.refl _)) upd_same)
  | l =>
    left
    cases hn : nxs (kvs.map (·.2)) with
    | false => rw [newD, hn] at h; exact h.elim
    | true =>
      rw [newD, hn] at h
      have cr : DctR X.kw.cold H c es kvs := ⟨hv.key, hv.dp, hv.nd, DpZs.kw (K := X.kw) (K' := X.kw.cold) rfl rfl hv.kd, hv.vd.cold hn⟩
      refine h _ _ _ (r.newC true hp ⟨es, upd_same, cr.mono ex (Pre.refl _)⟩) ?_
      unfold VD
      exact ⟨p, by rw [← next_eq r]; exact push_next _ _ _, rfl⟩
  | g =>
    left
    cases hn : nls (kvs.map (·.2)) with
    | false => rw [newD, hn] at h; exact h.elim
    | true =>
      rw [newD, hn] at h
      have cr : DctR X.kw.cold H (glob c) es kvs := ⟨hv.key, hv.dp, hv.nd, DpZs.kw (K := X.kw) (K' := X.kw.cold) rfl rfl hv.kd, (VDs.nl _ hv.vd hn).cold (nxs_of_nls _ hn)⟩
      refine h _ _ _ (r.newC false hp ⟨es, upd_same, cr.mono ex (Pre.refl _)⟩) ?_
      unfold VD
      exact ⟨p, by rw [← next_eq r]; exact push_next _ _ _, rfl⟩
/-- the same of a dict that lies already, beside the cells -/
theorem newD_at {c' : Anc} {m' : Store} {H' : Hp} {z : Md} {kvs : List (PyData × D)} {es es0 : List (NestedKey × V × V)} {p : Addr} {Q : VK} (g : Gd X.kw c c' m' H H') (h0 : H p = none) (hn : ¬ Has c' p) (ha : H' p = some (gdO X.w p es0)) (hv : DctR X.kw H' c' es kvs) (h : Want X W c H σ (newD z kvs m') Q) : QF Q (.ref p) (upd H' p (gdO X.w p es)) := by
  have neF : ∀ b o, H b = some o → b ≠ p := fun b o e z => by rw [z, h0] at e; cases e
  have side : ∀ u, Gd X.kw c c' m' H (upd H' p u) := fun u => by
    have ex : Ext H' (upd H' p u) := Ext.putO ha rfl
    refine ⟨g.pre, g.ext.trans ex, g.new, fun b u hb e => by rw [upd_ne (neF b u e)]; exact g.frame b u hb e, g.rel.len, g.rel.inj, fun i b x h1 h2 => (g.rel.at_ i b x h1 h2).mono ex (Pre.refl _) fun zs _ e => ?_⟩
    rw [upd_ne (fun z => hn ⟨i, by rw [← z]; exact h1⟩)]
    exact e
  have hv2 : ∀ u, DctR X.kw (upd H' p u) c' es kvs := fun u => hv.mono (Ext.putO ha rfl) (Pre.refl _)
  have push : ∀ loc, CellR X.kw.cold (upd H' p (gdO X.w p es)) (forI c' (c'.next loc)) p (.dct kvs) → Gd X.kw c (c'.push p loc) (m'.push (.dct kvs) loc) H (upd H' p (gdO X.w p es)) := fun loc cr => by
    have s := side (gdO X.w p es)
    exact ⟨s.pre.trans (push_pre _ _ _), s.ext, fun b hb => (has_push hb).elim (s.new b) fun e => .inr (by rw [e]; exact h0), s.frame, s.rel.adoptC loc hn cr⟩
  cases z with
  | z =>
    right
    refine ⟨p, _, rfl, upd_same, trivial, fun o => ?_⟩
    rw [upd_upd]
    exact h c' _ _ (side _) (mkDct_ok (hv2 _) upd_same)
  | l =>
    left
    cases hx : nxs (kvs.map (·.2)) with
    | false => rw [newD, hx] at h; exact h.elim
    | true =>
      rw [newD, hx] at h
      have v2 := hv2 (gdO X.w p es)
      refine h _ _ _ (push true ⟨es, upd_same, v2.key, v2.dp, v2.nd, DpZs.kw (K := X.kw) (K' := X.kw.cold) rfl rfl v2.kd, v2.vd.cold hx⟩) ?_
      unfold VD
      exact ⟨p, by rw [← next_eq g.rel]; exact push_next _ _ _, rfl⟩
  | g =>
    left
    cases hx : nls (kvs.map (·.2)) with
    | false => rw [newD, hx] at h; exact h.elim
    | true =>
      rw [newD, hx] at h
      have v2 := hv2 (gdO X.w p es)
      refine h _ _ _ (push false ⟨es, upd_same, v2.key, v2.dp, v2.nd, DpZs.kw (K := X.kw) (K' := X.kw.cold) rfl rfl v2.kd, (VDs.nl _ v2.vd hx).cold (nxs_of_nls _ hx)⟩) ?_
      unfold VD
      exact ⟨p, by rw [← next_eq g.rel]; exact push_next _ _ _, rfl⟩
theorem de_dict0 (z : Md) : DE X W (.Dict [] [] pos) (dct0E z) := fun c ρ m σ H Q r s w => WE.frz (we_of pe_dnew fun p hp =>
  newD_ok (z := z) (kvs := []) (es := []) r hp ⟨rfl, fun e he => (by cases he), List.nodup_nil, .nil, by simp [VDs]⟩ w)
end
end L2.Dn
namespace L2.Dn
open PySem PySem.Spec PyProof.Rows L2
/-! ### {k: v, ..} -/
def putAllE : List Ent → List Ent → List Ent
  | xs, [] => xs
  | xs, e :: r => putAllE (putE xs e.1 e.2.1 e.2.2) r
theorem putE_len (xs : List Ent) (k : NestedKey) (v u : Value) : (putE xs k v u).length ≤ xs.length + 1 := by
  unfold putE
  split
  · rw [List.length_map]; omega
  · simp
section
variable {P : Program} {w : World} {A : Around} {E : Value → Shared → Prop} {d : Addr}
theorem storeG (hu : A.units + 8 < cLine) : ∀ (vs : List Ent) (xs : List Ent) (s : Shared) (Q : PUnit → Shared → Prop), (∀ x ∈ vs, IsK s.heap x.1 x.2.1) → GDict w s.heap d xs → xs.length + vs.length ≤ sizeLine →
    (∀ h' tk, GDict w h' d (putAllE xs vs) → Heap.SameBut d s.heap h' → Q PUnit.unit { s with heap := h', toks := tk }) →
    wpAny (model P w) A (forIn (vs.map fun x => (x.2.1, x.2.2)) PUnit.unit fun (x : Value × Value) (_ : PUnit) => (do dictSet d x.1 x.2; pure (ForInStep.yield PUnit.unit) : Sem (ForInStep PUnit))) Q E s
  | [], xs, s, Q, _, hm, _, hQ => by
    rw [List.map_nil, List.forIn_nil]
    exact wpAny_pure (hQ s.heap s.toks hm (Heap.SameBut.refl _ _))
  | x :: vs, xs, s, Q, hk, hm, hz, hQ => by
    rw [List.length_cons] at hz
    rw [List.map_cons, List.forIn_cons]
    refine wpAny_bind (wpAny_bind (set_key hu (hk x List.mem_cons_self) hm (by omega) fun h1 m1 s1 => wpAny_pure ?_))
    obtain ⟨o, es, ep, ho, _, hd, _⟩ := id hm
    refine storeG hu vs _ _ Q (fun y hy => isK_but (hk y (List.mem_cons_of_mem _ hy)) ho hd s1) m1 (show (putE xs x.1 x.2.1 x.2.2).length + vs.length ≤ sizeLine by have := putE_len xs x.1 x.2.1 x.2.2; omega) fun h2 tk m2 s2 => ?_
    exact hQ h2 tk m2 (s1.trans s2)
theorem subG_ {s : Shared} {prs : List (Sem Value × Sem Value)} {Q : Addr → Shared → Prop} (hu : A.units + 8 < cLine) (hl : prs.length ≤ 15)
    (h : wpAny (model P w) A (evalPairs prs) (fun vs s1 => ∃ es : List Ent, vs = es.map (fun x => (x.2.1, x.2.2)) ∧ (∀ x ∈ es, IsK s1.heap x.1 x.2.1) ∧ GDict w s1.heap s.heap.objs.size [] ∧
      ∀ h' tk, GDict w h' s.heap.objs.size (putAllE [] es) → Heap.SameBut s.heap.objs.size s1.heap h' → Q s.heap.objs.size { s1 with heap := h', toks := tk }) E
      { s with heap := s.heap.push ⟨.type "dict", none, .dict #[] 0, #[]⟩ }) : wpAny (model P w) A (subDict prs) Q E s := by
  unfold subDict
  refine wpAny_bind (wpAny_alloc (wpAny_bind (wpAny_holding ?_)))
  rw [if_pos hl]
  refine wpAny_bind (wpAny_mono (wpAny_evalPairs_len h) ?_ fun _ _ e => e)
  rintro vs s1 ⟨e1, es, rfl, h1, h2, h3⟩
  have z : ([] : List Ent).length + es.length ≤ sizeLine := by
    rw [List.length_map] at e1
    rw [sizeLine_eq, List.length_nil]
    omega
  exact wpAny_holding (wpAny_bind (storeG hu es [] s1 _ h1 h2 z fun h' tk m' s' => wpAny_pure (wpAny_pure (h3 h' tk m' s'))))
end
/-- the pairs of a display -/
abbrev FP := Rho → Store → Res (List (D × D))
def nilP : FP := fun _ m => .ok [] m
def consP (fk fv : FE) (g : FP) : FP := fun ρ m => (fk ρ m).bind fun k m1 => (fv ρ m1).bind fun v m2 => (g ρ m2).bind fun r m3 => .ok ((k, v) :: r) m3
def WantP (X : Cx) (W : WX) (c : Anc) (H : Hp) (σ : St) (r : Res (List (D × D))) (Q : List (V × V) → Hp → Prop) : Prop := match r with
  | .ok ds m' => ∀ c' vs H', Gd X.kw c c' m' H H' → VDs X.kw H' c' (vs.map (·.1)) (ds.map (·.1)) → VDs X.kw H' c' (vs.map (·.2)) (ds.map (·.2)) → Q vs H'
  | .exc x m' => ∀ c' cls dd H', Gd X.kw c c' m' H H' → ExcV X.kw H' c' x cls dd → W cls dd σ H'
  | .stuck => False
def WP (X : Cx) (pos : Pos) (ks : List (Option Expr)) (vs : List Expr) (σ : St) (H : Hp) (Q : List (V × V) → Hp → Prop) : Prop := ∀ (pins : List (Addr × Obj)) (s : Shared), Inv X pins σ H s →
  wpAny (model X.prog X.w) X.A (evalPairs (pairTrees ks vs X.env pos)) (fun us s' => ∃ ps H', Inv X pins σ H' s' ∧ VV ps us ∧ Q ps H') X.xe s
def DPs (X : Cx) (W : WX) (pos : Pos) (ks : List (Option Expr)) (vs : List Expr) (f : FP) : Prop := ∀ (c : Anc) (ρ : Rho) (m : Store) (σ : St) (H : Hp) (Q : List (V × V) → Hp → Prop), RelS X.kw c m H → Slo X.kw H c ρ σ → WantP X W c H σ (f ρ m) Q → WP X pos ks vs σ H Q
section
variable {X : Cx} {W : WX} {a b e k v : Expr} {ks : List (Option Expr)} {vs : List Expr} {fk fv : FE} {g : FP} {pos : Pos} {c : Anc} {ρ : Rho} {m : Store} {σ : St} {H : Hp}
theorem WantP.shift {c' : Anc} {H' : Hp} {m' : Store} {r : Res (List (D × D))} {Q : List (V × V) → Hp → Prop} (gd : Gd X.kw c c' m' H H') (h : WantP X W c H σ r Q) : WantP X W c' H' σ r Q := by
  cases r with
  | ok d m1 => exact fun c1 v H1 g1 h1 h2 => h c1 v H1 (gd.trans g1) h1 h2
  | exc x m1 => exact fun c1 cls dd H1 g1 hv => h c1 cls dd H1 (gd.trans g1) hv
  | stuck => exact h
theorem dps_nil : DPs X W pos [] [] nilP := fun c ρ m σ H Q r s w pins st I => pairTrees_nil_walk ⟨[], H, I, .nil, w c [] H (Gd.refl r) (by simp [VDs]) (by simp [VDs])⟩
theorem DE.thenP {f : FE} {kk : D → Store → Res (List (D × D))} {Q : VK} {Q' : List (V × V) → Hp → Prop} (h : DE X W a f) (r : RelS X.kw c m H) (s : Slo X.kw H c ρ σ) (hb : WantP X W c H σ ((f ρ m).bind kk) Q')
    (q : ∀ d m1 c1 v H1, RelS X.kw c1 m1 H1 → Slo X.kw H1 c1 ρ σ → Gd X.kw c c1 m1 H H1 → VD X.kw H1 c1 v d → WantP X W c1 H1 σ (kk d m1) Q' → Q v H1) : WE X a σ H Q :=
  h.then_ (WB := fun c H r => WantP X W c H σ r Q') r s hb (fun _ _ z => z) (fun _ _ _ _ z => z) (fun g z => z.shift g) q
theorem dps_cons (hk : DE X W k fk) (hv : DE X W v fv) (hr : DPs X W pos ks vs g) : DPs X W pos (some k :: ks) (v :: vs) (consP fk fv g) := fun c ρ m σ H Q r s w pins st I => by
  refine pairTrees_cons_walk (thn ((hk.thenP (Q := fun x H1 => WE X v σ H1 fun y H2 => WP X pos ks vs σ H2 fun ps H3 => Q ((x, y) :: ps) H3) r s w (fun dk m1 c1 vk H1 r1 s1 g1 h1 w1 => ?_)).go pins st I) ?_)
  · refine hv.thenP r1 s1 w1 fun dv m2 c2 vv H2 r2 s2 g2 h2 w2 => ?_
    refine hr c2 ρ m2 σ H2 _ r2 s2 ?_
    cases q : g ρ m2 with
    | stuck => rw [q] at w2; exact w2
    | exc x m3 => rw [q] at w2; exact w2
    | ok ds m3 =>
      rw [q] at w2
      intro c3 ps H3 g3 k1 k2
      refine w2 c3 _ H3 g3 ?_ ?_
      · show VDs X.kw H3 c3 (vk :: ps.map (·.1)) (dk :: ds.map (·.1))
        unfold VDs
        exact ⟨_, _, rfl, g3.vd (g2.vd h1), k1⟩
      · show VDs X.kw H3 c3 (vv :: ps.map (·.2)) (dv :: ds.map (·.2))
        unfold VDs
        exact ⟨_, _, rfl, g3.vd h2, k2⟩
  · rintro u s1 ⟨x, H1, I1, rx, q1⟩
    refine thn (q1.go pins s1 I1) ?_
    rintro u2 s2 ⟨y, H2, I2, ry, q2⟩
    refine thn (q2 pins s2 I2) ?_
    rintro us s3 ⟨ps, H3, I3, rp, q3⟩
    exact ⟨(x, y) :: ps, H3, I3, .cons ⟨rx, ry⟩ rp, q3⟩
/-- the entries of a display, later ones for earlier ones -/
def putsD : List (PyData × D) → List (D × D) → Option (List (PyData × D))
  | kvs, [] => some kvs
  | kvs, (.p kd, d) :: r => match keyK (.p kd) with
    | some k => putsD (putD kvs kd k d) r
    | none => none
  | _, _ => none
theorem puts_ok {pins : List (Addr × Obj)} {s : Shared} {P : Program} (I : Inv X pins σ H s) : ∀ {ds : List (D × D)} {ps : List (V × V)} {us : List (Value × Value)} {kvs kvs' : List (PyData × D)} {es : List (NestedKey × V × V)} {xs : List Ent}, VV ps us → VDs X.kw H c (ps.map (·.1)) (ds.map (·.1)) → VDs X.kw H c (ps.map (·.2)) (ds.map (·.2)) →
    putsD kvs ds = some kvs' → DctR X.kw H c es kvs → Paired EntV es xs → ∃ (en : List Ent) (es' : List (NestedKey × V × V)), us = en.map (fun x => (x.2.1, x.2.2)) ∧ (∀ x ∈ en, IsK s.heap x.1 x.2.1) ∧ DctR X.kw H c es' kvs' ∧ Paired EntV es' (putAllE xs en)
  | [], ps, us, kvs, kvs', es, xs, rv, h1, h2, e, r, p => by
    cases e
    cases ps with
    | cons p ps => simp [VDs] at h1
    | nil =>
      cases rv
      exact ⟨[], es, rfl, fun x hx => (by cases hx), r, p⟩
  | (dk, dv) :: ds, ps, us, kvs, kvs', es, xs, rv, h1, h2, e, r, p => by
    cases ps with
    | nil => simp [VDs] at h1
    | cons q ps =>
      simp only [List.map_cons] at h1 h2
      unfold VDs at h1 h2
      obtain ⟨_, _, z1, h1, h1'⟩ := h1
      cases z1
      obtain ⟨_, _, z2, h2, h2'⟩ := h2
      cases z2
      cases rv with
      | @cons _ u _ us rq rv =>
        cases dk with
        | p kd =>
          unfold putsD at e
          cases hk : keyK (.p kd) with
          | none => rw [hk] at e; cases e
          | some k =>
            rw [hk] at e
            obtain ⟨k1, k2⟩ := keyK_p hk
            have hkd : DpZ X.kw H q.1 kd := by unfold VD at h1; exact h1
            obtain ⟨en, es', e1, e2, e3, e4⟩ := puts_ok (P := P) I rv h1' h2' e (r.put k1 k2 hkd h2) (ent_put rq.1 rq.2 p)
            refine ⟨(k, u.1, u.2) :: en, es', by rw [e1]; rfl, fun x hx => ?_, e3, e4⟩
            rcases List.mem_cons.mp hx with rfl | hx
            · exact keyK_is I (c := c) (by unfold VD; exact hkd) hk rq.1
            · exact e2 x hx
        | _ => cases e
def dctE (z : Md) (g : FP) : FE := fun ρ m => (g ρ m).bind fun ds m1 => match putsD [] ds with
  | some kvs => newD z kvs m1
  | none => .stuck
theorem de_dict (z : Md) (hu : X.A.units + 65 < cLine) (h : DPs X W pos ks vs g) (hall : ks.all (·.isSome) = true := by rfl) (hl : ks.length = vs.length := by rfl) (h0 : ks ≠ [] := by intro z; cases z) (h15 : ks.length ≤ 15 := by decide) : DE X W (.Dict ks vs pos) (dctE z g) := fun c ρ m σ H Q r s w => WE.frz <| .mk fun pins st I => by
  have hn := pairTrees_length ks vs X.env pos hall hl
  have ne : pairTrees ks vs X.env pos ≠ [] := fun z => by
    rw [z] at hn
    exact h0 (List.length_eq_zero_iff.mp hn.symm)
  have hp : H st.heap.objs.size = none := I.hok.fresh (Nat.le_refl _)
  have np : ¬ Has c st.heap.objs.size := r.not hp
  have J := I.laid (a := st.heap.objs.size) (o := gdO X.w st.heap.objs.size []) (h' := st.heap.push ⟨.type "dict", none, .dict #[] 0, #[]⟩) (t' := st.toks) (fun _ _ q => Heap.get?_push_of_some _ q) (Nat.le_refl _) (gd_empty st.heap I.big)
  have g0 : Gd X.kw c c m H (upd H st.heap.objs.size (gdO X.w st.heap.objs.size [])) := r.lay hp
  rw [arm_eval_Dict, zip_pairTrees ks vs X.env pos hall hl, dictDisplay_pairs _ ne (by rw [hn]; omega)]
  refine wpAny_bind (wpAny_standAt (wpAny_bind (subG_ (Q := fun d s' => wpAny (model X.prog X.w) X.A (pure (Value.ref d)) (EP X pins σ (QF Q)) X.xe s') (by omega) (by rw [hn]; exact h15) ?_)))
  refine wpAny_mono (h c ρ m σ _ (fun ps H2 => ∃ c2 m2 kvs ds, Gd X.kw c c2 m2 H H2 ∧ H2 st.heap.objs.size = some (gdO X.w st.heap.objs.size []) ∧ ¬ Has c2 st.heap.objs.size ∧ VDs X.kw H2 c2 (ps.map (·.1)) (ds.map (·.1)) ∧ VDs X.kw H2 c2 (ps.map (·.2)) (ds.map (·.2)) ∧ putsD [] ds = some kvs ∧ Want X W c H σ (newD z kvs m2) Q) g0.rel (g0.slots s) ?_ pins _ J) ?_ fun _ _ e => e
  · unfold dctE at w
    cases q : g ρ m with
    | stuck => rw [q] at w; exact w
    | exc x m1 => rw [q] at w; exact fun c1 cls dd H1 g1 hx => w c1 cls dd H1 (g0.trans g1) hx
    | ok ds m1 =>
      rw [q] at w
      intro c1 ps H1 g1 k1 k2
      have w : Want X W c H σ (match putsD [] ds with | some kvs => newD z kvs m1 | none => .stuck) Q := w
      cases q2 : putsD [] ds with
      | none => rw [q2] at w; exact w.elim
      | some kvs =>
        rw [q2] at w
        refine ⟨c1, m1, kvs, ds, g0.trans g1, g1.frame _ _ np upd_same, fun z => ?_, k1, k2, q2, w⟩
        rcases g1.new _ z with y | y
        · exact np y
        · rw [upd_same] at y; cases y
  · rintro us s1 ⟨ps, H2, I2, rp, c2, m2, kvs, ds, gg, p2, np2, k1, k2, q2, w⟩
    obtain ⟨hS, xs, hg, hx⟩ := gd_at (es := []) (kvs := []) (c := c2) I2 (.inl p2) ⟨rfl, fun e he => (by cases he), List.nodup_nil, .nil, by simp [VDs]⟩
    cases hx
    obtain ⟨en, es', e1, e2, e3, e4⟩ := puts_ok (P := X.prog) I2 rp k1 k2 q2 (es := []) (xs := []) ⟨rfl, fun e he => (by cases he), List.nodup_nil, .nil, by simp [VDs]⟩ .nil
    refine ⟨en, e1, e2, hg, fun h' tk m' s' => wpAny_pure ⟨.ref st.heap.objs.size, upd H2 st.heap.objs.size (gdO X.w st.heap.objs.size es'), ?_, rfl, ?_⟩⟩
    · refine I2.write (t' := tk) (x := st.heap.objs.size) (e := st.heap.objs.size) (o := gdO X.w st.heap.objs.size es') (by rw [p2]; exact True.intro) (.inl rfl) (fun b u hb e => (s'.2 b hb).trans e) ?_ (gd_ok hS m' e4)
      obtain ⟨o, _, _, e, _⟩ := m'
      exact ⟨o, e⟩
    · exact newD_at gg hp np2 p2 e3 w
end
end L2.Dn
namespace L2.Dn
open PySem PySem.Spec PyProof.Rows L2
/-! ### more that is asked of dicts -/
section
variable {P : Program} {w : World} {A : Around} {E : Value → Shared → Prop} {s : Shared} {d : Addr} {xs : List Ent} {ens : Array DictEntry} {ep : Nat} {k : NestedKey} {v u : Value}
theorem GDict.raw (h : GDict w s.heap d xs) : ∃ ens ep, s.heap.DictRaw d ens ep ∧ ens.toList = xs.map (entOf w) ∧ ens.size = xs.length := by
  obtain ⟨o, es, ep, h1, h2, h3, h4, _⟩ := h
  exact ⟨es, ep, ⟨o, h1, h2, h3⟩, h4, by rw [← Array.length_toList, h4, List.length_map]⟩
theorem lenB_raw {Q : Value → Shared → Prop} (hd : (d == sysModules) = false) (hm : s.heap.DictRaw d ens ep) (hf : (ens.size : Int) < 2 ^ 63) (h : ∀ t tk, Q (.int ens.size t) { s with toks := tk }) :
    wpAny (model P w) A (Builtin.«len» ⟨[.ref d], []⟩) (fun fin s' => ∃ r, fin = .done (.ret r) ∧ Q r s') E s := by
  unfold Builtin.«len»
  refine wpAny_bind (m := oneArg "len" _) (wpAny_pure ?_)
  refine wpAny_bind (m := callSpecial? (.ref d) (Str.ofString "__len__")) (wpAny_callSpecial?_slot (name := Str.ofString "__len__") hm.typeIs F.slot_dict_len (call_len_raw hd hm ?_))
  refine wpAny_bind (wpAny_holding (wpAny_pure (wpAny_bind (wpAny_letGo ?_))))
  show wpAny _ _ (if ((ens.size : Nat) : Int) < 0 then _ else _) _ _ _
  rw [if_neg (by omega)]
  show wpAny _ _ (if ((ens.size : Nat) : Int) ≥ 2 ^ 63 then _ else _) _ _ _
  rw [if_neg (by omega)]
  exact wpAny_bind (wpAny_mkInt (wpAny_pure ⟨_, rfl, h _ _⟩))
theorem len_raw {Q : Value → Shared → Prop} (hd : (d == sysModules) = false) (hm : s.heap.DictRaw d ens ep) (hf : (ens.size : Int) < 2 ^ 63) (h : ∀ t tk, Q (.int ens.size t) { s with toks := tk }) : wpAny (model P w) A (call (.builtin "len") [.ref d]) Q E s :=
  Calls.call_function_entry kind_len plain_len entry_len (args_len1 _) (lenB_raw hd hm hf h)
theorem truthy_raw {Q : Bool → Shared → Prop} (hd : (d == sysModules) = false) (hm : s.heap.DictRaw d ens ep) (hf : (ens.size : Int) < 2 ^ 63) (h : ∀ tk, Q ((ens.size : Int) != 0) { s with toks := tk }) : wpAny (model P w) A (truthy (.ref d)) Q E s := by
  have key : wpAny (model P w) A (runValue (.builtin "len" ⟨[.ref d], []⟩)) (fun r s' => ∃ t, r = .int ens.size t ∧ Q ((ens.size : Int) != 0) s') E s := by
    refine wpAny_runValue (codeAny_builtin entry_len ?_)
    rw [Around.under_plainId plain_len _]
    refine wpAny_mono (lenB_raw (Q := fun r s' => ∃ t, r = .int ens.size t ∧ Q ((ens.size : Int) != 0) s') hd hm hf fun t tk => ⟨t, rfl, h tk⟩) ?_ fun _ _ e => e
    rintro fin s' ⟨r, rfl, hq⟩
    exact hq
  unfold truthy
  first
    | refine wpAny_bind (wpAny_callSpecial?_none (name := Str.ofString "__bool__") hm.typeIs noBool_dict ?_)
    | refine wpAny_bind (wpAny_pure (wpAny_bind (wpAny_callSpecial?_none (name := Str.ofString "__bool__") hm.typeIs noBool_dict ?_)))
  first
    | refine wpAny_bind (wpAny_specialOf (name := Str.ofString "__len__") hm.typeIs F.slot_dict_len.lookup ?_)
    | refine wpAny_bind (wpAny_pure (wpAny_bind (wpAny_specialOf (name := Str.ofString "__len__") hm.typeIs F.slot_dict_len.lookup ?_)))
  have fin : ∀ r s', (∃ t, r = Value.int ens.size t ∧ Q ((ens.size : Int) != 0) s') → ∃ t, r = Value.int ens.size t ∧ Q ((ens.size : Int) != 0) s' := fun _ _ z => z
  first
    | exact wpAny_bind (wpAny_mono key (fun r s' h' => by obtain ⟨t, rfl, hq⟩ := h'; exact wpAny_pure hq) fun _ _ e => e)
    | exact wpAny_bind (wpAny_pure (wpAny_bind (wpAny_mono key (fun r s' h' => by obtain ⟨t, rfl, hq⟩ := h'; exact wpAny_pure hq) fun _ _ e => e)))
theorem get_raw1 {Q : Value → Shared → Prop} (hu : A.units + 9 < cLine) (hk : IsK s.heap k v) (hd : (d == sysModules) = false) (hm : GDict w s.heap d xs) (q : Q ((lkE xs k).getD .none) { s with toks := s.toks + k.draws }) : wpAny (model P w) A (call (.builtin "dict.get") [.ref d, v]) Q E s := by
  refine call_meetsIn F.slot_dict_get hm.ty F.entry_dict_get (F.args_dict_get_2 _ _) (S := fun A' R s' => A' = A ∧ s' = s ∧ R (.ok (.ret ((lkE xs k).getD .none))) { s with toks := s.toks + k.draws }) (fun A' R s' hS => ?_) ⟨rfl, rfl, q⟩
  obtain ⟨rfl, rfl, hq⟩ := hS
  show wpAny _ _ (dictGet d v >>= _) _ _ _
  refine wpAny_bind (get_key (by show A'.units + 1 + 8 < _; omega) hk hm ?_)
  cases hf : lkE xs k with
  | some p => rw [hf] at hq; exact wpAny_pure hq
  | none =>
    rw [hf] at hq
    show wpAny _ _ (Builtin.Dict.missed d v >>= _) _ _ _
    exact wpAny_bind (wpAny_missed_other hd (wpAny_pure hq))
theorem get_raw2 {Q : Value → Shared → Prop} (hu : A.units + 9 < cLine) (hk : IsK s.heap k v) (hd : (d == sysModules) = false) (hm : GDict w s.heap d xs) (q : Q ((lkE xs k).getD u) { s with toks := s.toks + k.draws }) : wpAny (model P w) A (call (.builtin "dict.get") [.ref d, v, u]) Q E s := by
  refine call_meetsIn F.slot_dict_get hm.ty F.entry_dict_get (F.args_dict_get_3 _ _ _) (S := fun A' R s' => A' = A ∧ s' = s ∧ R (.ok (.ret ((lkE xs k).getD u))) { s with toks := s.toks + k.draws }) (fun A' R s' hS => ?_) ⟨rfl, rfl, q⟩
  obtain ⟨rfl, rfl, hq⟩ := hS
  show wpAny _ _ (dictGet d v >>= _) _ _ _
  refine wpAny_bind (get_key (by show A'.units + 1 + 8 < _; omega) hk hm ?_)
  cases hf : lkE xs k with
  | some p => rw [hf] at hq; exact wpAny_pure hq
  | none =>
    rw [hf] at hq
    show wpAny _ _ (Builtin.Dict.missed d v >>= _) _ _ _
    exact wpAny_bind (wpAny_missed_other hd (wpAny_pure hq))
end
theorem lk_rel {K : KW} {k : NestedKey} {H : Hp} {c : Anc} {es : List (NestedKey × V × V)} {xs : List Ent} {kvs : List (PyData × D)} (p : Paired EntV es xs) (r : DctR K H c es kvs) {v0 : V} {u0 : Value} {d0 : D} (r0 : RelV v0 u0) (h0 : VD K H c v0 d0) : ∃ v, RelV v ((lkE xs k).getD u0) ∧ VD K H c v ((lkD kvs k).getD d0) := by
  cases e : lkD kvs k with
  | none => rw [lk_none p r.key e]; exact ⟨v0, r0, h0⟩
  | some d =>
    obtain ⟨v, u, h1, h2, h3⟩ := lk_some p r.key r.vd e
    rw [h1]
    exact ⟨v, h2, h3⟩
def getD1 : D → List D → Store → OD
  | d, [y], m => match dctOf d m, keyK y with
    | some kvs, some k => some ((lkD kvs k).getD (.p .none), m)
    | _, _ => none
  | d, [y, z], m => match dctOf d m, keyK y with
    | some kvs, some k => some ((lkD kvs k).getD z, m)
    | _, _ => none
  | _, _, _ => none
def clearD : D → List D → Store → OD
  | .cell i, [], m => match m.at_ i with
    | some (.dct kvs) => if kvs.length ≤ sizeLine then some (.p .none, m.set (.dct []) i) else none
    | _ => none
  | _, _, _ => none
section
variable {X : Cx} {W : WX} {a b e o : Expr} {es rest : List Expr} {fa fb f fo : FE} {fl : FI} {pos apos cpos : Pos} {c : Anc} {ρ : Rho} {m : Store} {σ : St} {H : Hp} {name : Str}
theorem dlen {K : KW} {es : List (NestedKey × V × V)} {kvs : List (PyData × D)} (r : DctR K H c es kvs) : es.length = kvs.length := by
  have := congrArg List.length r.key
  simpa using this
theorem mt_getD (hu : X.A.units + 65 < cLine) : MtR X "dict.get" (rOfM X.kw getD1) := by
  intro pins s σ H x xs v us Q I rx rs h
  obtain ⟨c, m, dx, ds, r, h1, h2, w⟩ := h
  unfold getD1 at w
  split at w
  · rename_i y
    split at w
    · rename_i kvs k hd hk
      obtain ⟨a, en, rfl, g1, g2⟩ := dctOf_ok r h1 hd
      cases rx
      obtain ⟨hS, ys, hg, hp⟩ := gd_at I g1 g2
      obtain ⟨vy, rfl, hy⟩ := VDs.onlyOne h2
      obtain ⟨uy, rfl, ry⟩ := vals1 rs
      obtain ⟨v', r1, r2⟩ := lk_rel (k := k) hp g2 (v0 := .non) (u0 := .none) (d0 := .p .none) rfl (VD.non.mpr rfl)
      exact get_raw1 (by omega) (keyK_is I hy hk ry) hS hg ⟨v', H, I.tok _, r1, w.now r r2⟩
    · exact w.elim
  · rename_i y z
    split at w
    · rename_i kvs k hd hk
      obtain ⟨a, en, rfl, g1, g2⟩ := dctOf_ok r h1 hd
      cases rx
      obtain ⟨hS, ys, hg, hp⟩ := gd_at I g1 g2
      obtain ⟨vy, vz, rfl, hy, hz⟩ := VDs.two h2
      obtain ⟨uy, uz, rfl, ry, rz⟩ := vals2 rs
      obtain ⟨v', r1, r2⟩ := lk_rel (k := k) hp g2 rz hz
      exact get_raw2 (by omega) (keyK_is I hy hk ry) hS hg ⟨v', H, I.tok _, r1, w.now r r2⟩
    · exact w.elim
  · exact w.elim
theorem mt_clearD : MtR X "dict.clear" (rOfM X.kw clearD) := by
  intro pins s σ H x xs v us Q I rx rs h
  obtain ⟨c, m, dx, ds, r, h1, h2, w⟩ := h
  unfold clearD at w
  split at w
  · rename_i i
    split at w
    · rename_i kvs hm
      split at w
      · rename_i hz
        unfold VD at h1
        obtain ⟨a, ha, rfl⟩ := h1
        cases rx
        simp [VDs] at h2
        subst h2
        cases rs
        obtain ⟨en, g1, g2⟩ := r.at_ i a _ ha hm
        obtain ⟨hS, ys, hg, hp⟩ := gd_at I (.inl g1) g2.warm
        obtain ⟨ens, ep, y1, y2, y3⟩ := hg.raw
        have l1 := dlen g2
        have l2 : en.length = ys.length := Paired.length hp
        refine call_meetsIn F.slot_dict_clear hg.ty F.entry_dict_clear (F.args_dict_clear_1 _) (meets_dict_clear_raw a) ⟨ens, ep, y1, by omega, fun h' z1 z2 => ?_⟩
        obtain ⟨o', q1, q2, q3⟩ := z1
        have gd : GDict X.w h' a [] := ⟨o', #[], ep + 1, q1, q2, q3, rfl, fun x hx => (by cases hx), List.nodup_nil⟩
        refine ⟨.non, upd H a (gdO X.w a []), I.write (t' := s.toks) (x := a) (e := a) (o := gdO X.w a []) (by rw [g1]; exact True.intro) (.inl rfl) (fun b u hb e => (z2.2 b hb).trans e) ⟨o', q1⟩ (gd_ok hS gd .nil), rfl, ?_⟩
        exact w c _ _ (r.putC ha hm (by intro z; cases z) g1 rfl ⟨[], upd_same, rfl, fun e he => (by cases he), List.nodup_nil, .nil, by simp [VDs]⟩) (VD.non.mpr rfl)
      · exact w.elim
    · exact w.elim
  · exact w.elim
/-- a dict's own methods -/
def dmE (g : D → List D → Store → OD) (fo : FE) (fl : FI) : FE := fun ρ m => (fo ρ m).bind fun d m1 => if (dctOf d m1).isSome then (fl ρ m1).bind fun ds m2 => lift (g d ds m2) else .stuck
theorem dct_ty {pins : List (Addr × Obj)} {s : Shared} {d : D} {v : V} {u : Value} (I : Inv X pins σ H s) (r : RelS X.kw c m H) (hv : VD X.kw H c v d) (e : (dctOf d m).isSome = true) (ru : RelV v u) : s.TypeIs u "dict" ∧ ∀ a, u = .ref a → ∃ ob, s.heap.get? a = some ob ∧ ob.dict = none := by
  obtain ⟨kvs, q⟩ := Option.isSome_iff_exists.mp e
  obtain ⟨a, en, rfl, g1, g2⟩ := dctOf_ok r hv q
  cases ru
  obtain ⟨hS, ys, hg, hp⟩ := gd_at I g1 g2
  refine ⟨hg.ty, fun b z => ?_⟩
  cases z
  obtain ⟨o, _, _, h1, h2, _⟩ := hg
  exact ⟨o, h1, h2.2.1⟩
theorem de_dm {id : String} {g : D → List D → Store → OD} (slot : Slot "dict" name id) (hty : typeOf (.builtin id) = pure (.type "method_descriptor")) (hm : MtR X id (rOfM X.kw g)) (ho : DE X W o fo) (ha : DA X W (e :: es) fl)
    (hbase : attributeBase o name X.env (eval o X.env) = eval o X.env := by rfl)
    (hfew : ((backTo cpos (starEach (e :: es) X.env)).all (fun x => !x.1) && (backToKw cpos (keywordEach [] X.env)).all (fun x => x.1.isSome)
      && decide ((e :: es).length + ([] : List Keyword).length + (if ([] : List Keyword).isEmpty then 0 else 1) < 30)) = true := by rfl)
    (hline : (apos.endLine == cpos.line) = true := by rfl) (hs : starEach (e :: es) X.env = (false, eval e X.env) :: starEach es X.env := by rfl) (hplain : (backTo cpos (starEach es X.env)).any (·.1) = false := by rfl) :
    DE X W (.Call (.Attribute o name apos) (e :: es) [] cpos) (dmE g fo fl) := fun c ρ m σ H Q r s w => .mk fun pins st I => by
  refine wpAny_Call_method_late hbase hfew hline rfl (thn ((ho.thenE (Q := fun v H1 => ∃ c1 m1 d, RelS X.kw c1 m1 H1 ∧ VD X.kw H1 c1 v d ∧ (dctOf d m1).isSome = true ∧ WA X (e :: es) σ H1 fun vs H2 => rOfM X.kw g v vs H2 Q) r s w (fun d m1 c1 v H1 r1 s1 g1 h1 w1 => ?_)).go pins st I) ?_)
  · cases q : (dctOf d m1).isSome with
    | false => rw [q] at w1; exact w1.elim
    | true =>
      rw [q] at w1
      exact ⟨c1, m1, d, r1, h1, q, ha.thenE r1 s1 w1 fun ds m2 c2 vs H2 r2 s2 g2 h2 w2 => ⟨c2, m2, d, ds, r2, g2.vd h1, h2, w2.o⟩⟩
  · rintro v s1 ⟨x, H1, I1, r1, c1, m1, d, k1, k2, k3, q1⟩
    obtain ⟨t1, t2⟩ := dct_ty I1 k1 k2 k3 r1
    refine ⟨"dict", id, F.plainAttrs_dict, slot, hty, t1, t2, ?_⟩
    have hA := q1.go cpos pins s1 I1
    rw [hs] at hA ⊢
    refine Calls.callWith_builtin (by show (false || (backTo cpos (starEach es X.env)).any (·.1)) = false; rw [hplain] <;> rfl) (Calls.evalArgs_plain (thn hA ?_))
    rintro us s2 ⟨vs, H2, I2, r2, q2⟩
    exact hm pins s2 σ H2 x vs v us Q I2 r1 r2 q2
theorem de_dm0 {id : String} {g : D → List D → Store → OD} (slot : Slot "dict" name id) (hty : typeOf (.builtin id) = pure (.type "method_descriptor")) (hm : MtR X id (rOfM X.kw g)) (ho : DE X W o fo)
    (hbase : attributeBase o name X.env (eval o X.env) = eval o X.env := by rfl) (hline : (apos.endLine == cpos.line) = true := by rfl) : DE X W (.Call (.Attribute o name apos) [] [] cpos) (dmE g fo nilA) := fun c ρ m σ H Q r s w => .mk fun pins st I => by
  refine wpAny_Call_method0_late hbase hline (thn ((ho.thenE (Q := fun v H1 => ∃ c1 m1 d, RelS X.kw c1 m1 H1 ∧ VD X.kw H1 c1 v d ∧ (dctOf d m1).isSome = true ∧ rOfM X.kw g v [] H1 Q) r s w (fun d m1 c1 v H1 r1 s1 g1 h1 w1 => ?_)).go pins st I) ?_)
  · cases q : (dctOf d m1).isSome with
    | false => rw [q] at w1; exact w1.elim
    | true =>
      rw [q] at w1
      exact ⟨c1, m1, d, r1, h1, q, c1, m1, d, [], r1, h1, (by unfold VDs; rfl), Want.o w1⟩
  · rintro v s1 ⟨x, H1, I1, r1, c1, m1, d, k1, k2, k3, q1⟩
    obtain ⟨t1, t2⟩ := dct_ty I1 k1 k2 k3 r1
    exact ⟨"dict", id, F.plainAttrs_dict, slot, hty, t1, t2, Calls.callWith_builtin rfl (PySem.evalArgs_none (hm pins s1 σ H1 x [] v [] Q I1 r1 .nil q1))⟩
/-! ### truth -/
def truG (d : D) (m : Store) : Option Bool := match truD d m with
  | some b => some b
  | none => match dctOf d m with
    | some kvs => if kvs.length ≤ sizeLine then some (!kvs.isEmpty) else none
    | none => none
theorem truG_ok {pins : List (Addr × Obj)} {s : Shared} {d : D} {v : V} {u : Value} {k : Bool} {A : Around} {E : Value → Shared → Prop} {Q : Bool → Shared → Prop} (I : Inv X pins σ H s) (r : RelS X.kw c m H) (hv : VD X.kw H c v d) (e : truG d m = some k) (ru : RelV v u)
    (q : ∀ s', Inv X pins σ H s' → Q k s') : wpAny (model X.prog X.w) X.A (truthy u) Q X.xe s := by
  unfold truG at e
  cases e1 : truD d m with
  | some b =>
    rw [e1] at e
    cases e
    refine thn (tru_ok pins s σ H v u (fun c H2 => c = k ∧ H2 = H) I ru ⟨k, truD_ok r hv e1, rfl, rfl⟩) ?_
    rintro c2 s2 ⟨H2, I2, rfl, rfl⟩
    exact q s2 I2
  | none =>
    rw [e1] at e
    cases e2 : dctOf d m with
    | none => rw [e2] at e; cases e
    | some kvs =>
      rw [e2] at e
      dsimp only at e
      split at e
      · rename_i hz
        cases e
        obtain ⟨a, en, rfl, g1, g2⟩ := dctOf_ok r hv e2
        cases ru
        obtain ⟨hS, ys, hg, hp⟩ := gd_at I g1 g2
        obtain ⟨ens, ep, y1, y2, y3⟩ := hg.raw
        have l1 := dlen g2
        have l2 : en.length = ys.length := Paired.length hp
        have ez : ((ens.size : Int) != 0) = !kvs.isEmpty := by
          have : ens.size = kvs.length := by omega
          rw [this]
          cases kvs <;> simp <;> omega
        refine truthy_raw hS y1 (by rw [sizeLine_eq] at hz; omega) fun tk => ?_
        rw [ez]
        exact q _ (I.tok tk)
      · cases e
def tvE (f : FE) : Rho → Store → Res Bool := fun ρ m => (f ρ m).bind fun d m1 => match truG d m1 with
  | some k => .ok k m1
  | none => .stuck
theorem dt_tv (h : DE X W e f) (he : ∀ whole, isTrue e X.env whole = (do let v ← whole; standAt e.pos; holding [v] (truthy v)) := by intro _; rfl) : DT X W e (tvE f) := fun c ρ m σ H Q r s w => .mk fun pins st I => by
  refine isTrue_plain (thn ((h.thenB (Q := fun v H1 => ∃ c1 m1 d k, RelS X.kw c1 m1 H1 ∧ VD X.kw H1 c1 v d ∧ truG d m1 = some k ∧ Q k H1) r s w (fun d m1 c1 v H1 r1 s1 g1 h1 w1 => ?_)).go pins st I) ?_) (he _)
  · cases q : truG d m1 with
    | none => rw [q] at w1; exact w1.elim
    | some k => rw [q] at w1; exact ⟨c1, m1, d, k, r1, h1, q, w1 c1 H1 (Gd.refl r1)⟩
  · rintro v s1 ⟨x, H1, I1, r1, c1, m1, d, k, k1, k2, k3, q1⟩
    exact truG_ok (A := X.A) (E := X.xe) I1 k1 k2 k3 r1 fun s' I' => ⟨H1, I', q1⟩
def orG (f g : FE) : FE := fun ρ m => (f ρ m).bind fun x m1 => match truG x m1 with
  | some true => .ok x m1
  | some false => g ρ m1
  | none => .stuck
def andG (f g : FE) : FE := fun ρ m => (f ρ m).bind fun x m1 => match truG x m1 with
  | some true => g ρ m1
  | some false => .ok x m1
  | none => .stuck
theorem de_orG (h : DE X W a fa) (h2 : DE X W (.BoolOp .Or (b :: rest) pos) fb) : DE X W (.BoolOp .Or (a :: b :: rest) pos) (orG fa fb) := fun c ρ m σ H Q r s w => .mk fun pins st I => by
  refine BoolOp_or (thn ((h.thenE (Q := fun v H1 => ∃ c1 m1 d k, RelS X.kw c1 m1 H1 ∧ VD X.kw H1 c1 v d ∧ truG d m1 = some k ∧ if k = true then Q v H1 else WE X (.BoolOp .Or (b :: rest) pos) σ H1 Q) r s w (fun d m1 c1 v H1 r1 s1 g1 h1 w1 => ?_)).go pins st I) ?_)
  · cases q : truG d m1 with
    | none => rw [q] at w1; exact w1.elim
    | some k =>
      rw [q] at w1
      refine ⟨c1, m1, d, k, r1, h1, q, ?_⟩
      cases k with
      | true => rw [if_pos rfl]; exact w1.now r1 h1
      | false => rw [if_neg Bool.false_ne_true]; exact h2 c1 ρ m1 σ H1 Q r1 s1 w1
  · rintro v s1 ⟨x, H1, I1, r1, c1, m1, d, k, k1, k2, k3, q1⟩
    refine truG_ok (A := X.A) (E := X.xe) I1 k1 k2 k3 r1 fun s' I' => ?_
    cases k with
    | true => rw [if_pos rfl] at q1; exact ⟨x, H1, I', r1, q1⟩
    | false => rw [if_neg Bool.false_ne_true] at q1; exact q1.go pins s' I'
theorem de_andG (h : DE X W a fa) (h2 : DE X W (.BoolOp .And (b :: rest) pos) fb) : DE X W (.BoolOp .And (a :: b :: rest) pos) (andG fa fb) := fun c ρ m σ H Q r s w => .mk fun pins st I => by
  refine BoolOp_and (thn ((h.thenE (Q := fun v H1 => ∃ c1 m1 d k, RelS X.kw c1 m1 H1 ∧ VD X.kw H1 c1 v d ∧ truG d m1 = some k ∧ if k = true then WE X (.BoolOp .And (b :: rest) pos) σ H1 Q else Q v H1) r s w (fun d m1 c1 v H1 r1 s1 g1 h1 w1 => ?_)).go pins st I) ?_)
  · cases q : truG d m1 with
    | none => rw [q] at w1; exact w1.elim
    | some k =>
      rw [q] at w1
      refine ⟨c1, m1, d, k, r1, h1, q, ?_⟩
      cases k with
      | true => rw [if_pos rfl]; exact h2 c1 ρ m1 σ H1 Q r1 s1 w1
      | false => rw [if_neg Bool.false_ne_true]; exact w1.now r1 h1
  · rintro v s1 ⟨x, H1, I1, r1, c1, m1, d, k, k1, k2, k3, q1⟩
    refine truG_ok (A := X.A) (E := X.xe) I1 k1 k2 k3 r1 fun s' I' => ?_
    cases k with
    | true => rw [if_pos rfl] at q1; exact q1.go pins s' I'
    | false => rw [if_neg Bool.false_ne_true] at q1; exact ⟨x, H1, I', r1, q1⟩
end
end L2.Dn
namespace L2.Dn
open PySem PySem.Spec PyProof.Rows L2
/-! ### dict(d) -/
mutual
/-- the hash of a key without texts -/
def hI : NestedKey → Option Int
  | .none => some (reduceHash 0xFCA86420)
  | .num i => some (hashInt i)
  | .text _ => none
  | .tup ks => (hIs ks).map fun hs => reduceHash (Builtin.Tuple.tupleHashOf hs)
def hIs : List NestedKey → Option (List Int)
  | [] => some []
  | k :: ks => match hI k, hIs ks with
    | some h, some hs => some (h :: hs)
    | _, _ => none
end
mutual
theorem hI_ok (w : World) : ∀ (k : NestedKey) (h : Int), hI k = some h → k.hash w = h
  | .none, h, e => by cases e; rfl
  | .num i, h, e => by cases e; rfl
  | .text x, h, e => by simp [hI] at e
  | .tup ks, h, e => by
    simp only [hI, Option.map_eq_some_iff] at e
    obtain ⟨hs, e1, rfl⟩ := e
    simp only [NestedKey.hash]
    rw [hIs_ok w ks hs e1]
theorem hIs_ok (w : World) : ∀ (ks : List NestedKey) (hs : List Int), hIs ks = some hs → NestedKey.hashes w ks = hs
  | [], hs, e => by cases e; rfl
  | k :: ks, hs, e => by
    unfold hIs at e
    split at e
    · rename_i h hs' e1 e2
      cases e
      simp only [NestedKey.hashes]
      rw [hI_ok w k h e1, hIs_ok w ks hs' e2]
    · cases e
end
def isTupK : NestedKey → Bool
  | .tup _ => true
  | _ => false
/-- no two keys of one hash, where tuples are among them -/
def apartK (ks : List NestedKey) : Bool := !ks.any isTupK || (match hIs ks with
  | some hs => decide hs.Nodup
  | none => false)
theorem hashes_map (w : World) : ∀ ks : List NestedKey, NestedKey.hashes w ks = ks.map (NestedKey.hash w)
  | [] => rfl
  | k :: ks => by simp only [NestedKey.hashes, List.map_cons, hashes_map w ks]
section
variable {P : Program} {w : World} {A : Around} {E : Value → Shared → Prop} {s : Shared} {d o : Addr} {xs : List Ent}
theorem apart_ok (hm : GDict w s.heap o xs) {ens : Array DictEntry} (he : ens.toList = xs.map (entOf w)) (ha : apartK (xs.map (·.1)) = true) : ∀ e ∈ ens.toList, KeyApart s ens e := by
  obtain ⟨_, _, _, _, _, _, _, his, _⟩ := hm
  intro e hee
  rw [he] at hee
  obtain ⟨x, hx, rfl⟩ := List.mem_map.mp hee
  obtain ⟨h1, _⟩ := his x hx
  obtain ⟨k, v, u⟩ := x
  cases h1 with
  | none => exact .inl rfl
  | bool _ => exact .inl rfl
  | int _ _ => exact .inl rfl
  | text _ _ => exact .inl rfl
  | @tup a ob vs n ks q1 q2 q3 q4 =>
    refine .inr ⟨a, rfl, ⟨ob, q1, q2⟩, ?_⟩
    have hany : (xs.map (·.1)).any isTupK = true := List.any_eq_true.mpr ⟨.tup ks, List.mem_map.mpr ⟨_, hx, rfl⟩, rfl⟩
    unfold apartK at ha
    rw [hany] at ha
    simp only [Bool.not_true, Bool.false_or] at ha
    split at ha
    · rename_i hs eh
      have nd : hs.Nodup := of_decide_eq_true ha
      rw [← hIs_ok w _ _ eh, hashes_map, List.map_map] at nd
      have l := filter_le_one (fun x : Ent => (entOf w x).hash) (NestedKey.hash w (.tup ks)) xs nd
      have e2 : (ens.filter (·.hash == (entOf w ((NestedKey.tup ks, Value.ref a, u) : Ent)).hash)).toList.length = (xs.filter fun x => (entOf w x).hash == NestedKey.hash w (.tup ks)).length := by
        rw [Array.toList_filter, he, List.filter_map, List.length_map]
        rfl
      rw [Array.length_toList] at e2
      rw [e2]
      exact l
    · cases ha
theorem putE_new {k : NestedKey} {v u : Value} {ys : List Ent} (h : k ∉ ys.map (·.1)) : putE ys k v u = ys ++ [(k, v, u)] := if_neg h
theorem take_app {α : Type} {l : List α} {i : Nat} {x : α} (h : l[i]? = some x) : l.take i ++ [x] = l.take (i + 1) := by
  rw [List.take_add_one, h]
  rfl
theorem GDict.same {h h' : Heap} (hm : GDict w h o xs) {oo : Obj} {es : Array DictEntry} {ep : Nat} (h1 : h.get? d = some oo) (h2 : oo.data = .dict es ep) (hne : d ≠ o) (hs : Heap.SameBut d h h') : GDict w h' o xs := by
  obtain ⟨ob, en, e, g1, g2, g3, g4, g5, g6⟩ := hm
  exact ⟨ob, en, e, (hs.2 o (Ne.symm hne)).trans g1, g2, g3, g4, fun x hx => isK_but (g5 x hx) h1 h2 hs, g6⟩
theorem mergeG {nm : String} {Q : Unit → Shared → Prop} (hu : A.units + 8 < cLine) (hdo : d ≠ o) (hoS : (o == sysModules) = false) (hd : GDict w s.heap d []) (ho : GDict w s.heap o xs) (ha : apartK (xs.map (·.1)) = true) (hz : xs.length ≤ sizeLine)
    (hQ : ∀ h', GDict w h' d xs → Heap.SameBut d s.heap h' → Q () { s with heap := h' }) : wpAny (model P w) A (Builtin.Dict.mergeDict nm d o) Q E s := by
  obtain ⟨od, esd, epd, d1, d2, d3, d4, d5, d6⟩ := id hd
  obtain ⟨oo, eso, epo, o1, o2, o3, o4, o5, o6⟩ := id ho
  have hlen : eso.size = xs.length := by rw [← Array.length_toList, o4, List.length_map]
  unfold Builtin.Dict.mergeDict
  rw [if_neg (by simpa using hdo)]
  unfold Builtin.Dict.showsAll
  rw [if_neg (by rw [hoS]; exact Bool.false_ne_true)]
  refine wpAny_bind (wpAny_pure (wpAny_bind (wpAny_dictEntries o1 o3 ?_)))
  have ze : esd = #[] := by
    have : esd.toList = [] := d4
    exact Array.toList_eq_nil_iff.mp this
  have loop : wpAny (model P w) A (do
      let epoch ← dictEpoch o
      let l ← dictEntries o
      forIn [:l.size] PUnit.unit fun i (_ : PUnit) => (do
          let l' ← dictEntries o
          match l'[i]? with
            | some e => do
              holding [e.key, e.val] (dictSetHashed d e.key e.hash e.val)
              let ep' ← dictEpoch o
              if (ep' != epoch) = true then do
                  (unsupported (toString nm ++ toString ":source-changed-during-callback") : Sem PUnit)
                  pure (ForInStep.yield PUnit.unit)
                else pure (ForInStep.yield PUnit.unit)
            | _ => do
              (unsupported "internal:dict-merge" : Sem PUnit)
              pure (ForInStep.yield PUnit.unit) : Sem (ForInStep PUnit))
      pure ()) Q E s := by
    refine wpAny_bind (wpAny_dictEpoch o1 o3 (wpAny_bind (wpAny_dictEntries o1 o3 (wpAny_bind ?_))))
    rw [Std.Legacy.Range.forIn_eq_forIn_range']
    simp only [Std.Legacy.Range.size, Nat.sub_zero, Nat.add_sub_cancel, Nat.div_one]
    refine wpAny_forIn_list _ (fun rest _ s' => ∃ h' i, s' = { s with heap := h' } ∧ rest = List.range' i (xs.length - i) ∧ i ≤ xs.length ∧ GDict w h' d (xs.take i) ∧ GDict w h' o xs ∧ h'.get? o = some oo ∧ Heap.SameBut d s.heap h')
      _ ?_ ?_ _ _ ⟨s.heap, 0, rfl, by rw [hlen, Nat.sub_zero], Nat.zero_le _, hd, ho, o1, Heap.SameBut.refl _ _⟩
    · rintro x rest b s' ⟨h', i, rfl, hr, hi, hd', ho', o1', hs'⟩
      have hlt : i < xs.length := by
        rcases Nat.lt_or_ge i xs.length with z | z
        · exact z
        · rw [Nat.sub_eq_zero_of_le z] at hr; cases hr
      have e1 : xs.length - i = (xs.length - (i + 1)) + 1 := by omega
      rw [e1, List.range'_succ] at hr
      injection hr with hx hrest
      subst hx
      have ex : xs[x]? = some xs[x] := List.getElem?_eq_getElem hlt
      refine wpAny_bind (wpAny_dictEntries o1' o3 ?_)
      have en : eso[x]? = some (entOf w xs[x]) := by
        rw [← Array.getElem?_toList, o4, List.getElem?_map, ex]
        rfl
      rw [en]
      show wpAny _ _ (holding [xs[x].2.1, xs[x].2.2] (dictSetHashed d xs[x].2.1 (xs[x].1.hash w) xs[x].2.2) >>= _) _ _ _
      have hk : IsK h' xs[x].1 xs[x].2.1 := by
        obtain ⟨_, _, _, _, _, _, _, z, _⟩ := ho'
        exact z _ (List.getElem_mem hlt)
      have hn : xs[x].1 ∉ (xs.take x).map (·.1) := fun hm => by
        have nd := o6
        rw [← List.take_append_drop x xs, List.map_append, List.nodup_append] at nd
        refine nd.2.2 _ hm xs[x].1 ?_ rfl
        rw [List.drop_eq_getElem_cons hlt]
        exact List.mem_cons_self
      obtain ⟨od', esd', epd', t1, _, t3, _⟩ := id hd'
      refine wpAny_bind (wpAny_holding (seth_key (s := { s with heap := h' }) hu hk hd' (by rw [List.length_take]; omega) fun h2 g2 s2 => ?_))
      have o1'' : h2.get? o = some oo := (s2.2 o (Ne.symm hdo)).trans o1'
      refine wpAny_bind (wpAny_dictEpoch o1'' o3 ?_)
      rw [if_neg (by simp)]
      refine wpAny_pure ⟨h2, x + 1, rfl, hrest, hlt, ?_, ho'.same t1 t3 hdo s2, o1'', hs'.trans s2⟩
      rw [putE_new hn] at g2
      rw [← take_app ex]
      exact g2
    · rintro b s' ⟨h', i, rfl, hr, hi, hd', ho', o1', hs'⟩
      have hin : i = xs.length := by
        rcases Nat.lt_or_ge i xs.length with z | z
        · have e1 : xs.length - i = (xs.length - (i + 1)) + 1 := by omega
          rw [e1, List.range'_succ] at hr
          cases hr
        · omega
      rw [hin, List.take_length] at hd'
      exact wpAny_pure (hQ h' hd' hs')
  dsimp only
  split
  · refine wpAny_bind (wpAny_dictEntries d1 d3 ?_)
    rw [ze]
    rw [if_pos (show (#[] : Array DictEntry).isEmpty = true from rfl)]
    refine wpAny_bind (wpAny_entriesForEmpty_raw o1 o3 (apart_ok ho o4 ha) ?_)
    split
    · refine wpAny_bind (wpAny_updateDictKeysTo d1 d3 (wpAny_pure (hQ _ ⟨_, _, epd + 1, Heap.get?_update_self _ d1 (Obj.isFreed_of_dict (Obj.data_mapDictKeys d3 _)), d2.mapDictKeys _, Obj.data_mapDictKeys d3 _, o4, fun x hx => isK_but (o5 x hx) d1 d3 (Heap.SameBut.update ..), o6⟩ (Heap.SameBut.update ..))) (by omega))
    · rename_i hne
      have z0 : eso = #[] := Array.isEmpty_iff.mp (by simpa using hne)
      have x0 : xs = [] := List.length_eq_zero_iff.mp (by rw [← hlen, z0]; rfl)
      subst x0
      exact wpAny_pure (hQ _ hd (Heap.SameBut.refl _ _))
  · exact loop
theorem dict_of {Q : Value → Shared → Prop} (hu : A.units + 10 < cLine) (hb : sysModules < s.heap.objs.size) (hoS : (o == sysModules) = false) (ho : GDict w s.heap o xs) (ha : apartK (xs.map (·.1)) = true) (hz : xs.length ≤ sizeLine)
    (h : ∀ h', GDict w h' s.heap.objs.size xs → (∀ b ob, s.heap.get? b = some ob → h'.get? b = some ob) → Q (.ref s.heap.objs.size) { s with heap := h' }) : wpAny (model P w) A (call (.type "dict") [.ref o]) Q E s := by
  refine callType_codes (Q₁ := fun obj s₁ => obj = .ref s.heap.objs.size ∧ s₁ = { s with heap := s.heap.push ⟨.type "dict", none, .dict #[] 0, #[]⟩ }) F.kt_called_dict (F.kt_typeCall_dict_1 _) F.entry_dict_init (kt_code_dict_new _ ⟨rfl, rfl⟩) ?_
  rintro obj s₁ ⟨rfl, rfl⟩
  have hlt : o < s.heap.objs.size := by
    obtain ⟨_, _, _, e, _⟩ := ho
    exact Heap.lt_size e
  have hnew : GDict w (s.heap.push ⟨.type "dict", none, .dict #[] 0, #[]⟩) s.heap.objs.size [] := ⟨_, #[], 0, Heap.get?_push_size _ rfl, ⟨rfl, rfl, rfl⟩, rfl, rfl, fun x hx => (by cases hx), List.nodup_nil⟩
  have ho' : GDict w (s.heap.push ⟨.type "dict", none, .dict #[] 0, #[]⟩) o xs := by
    obtain ⟨ob, en, e, g1, g2, g3, g4, g5, g6⟩ := ho
    exact ⟨ob, en, e, Heap.get?_push_of_some _ g1, g2, g3, g4, fun x hx => ⟨NestedIs.at (fun c ob vs n hb hc => Heap.get?_push_of_some _ hb) _ _ (g5 x hx).1, (g5 x hx).2⟩, g6⟩
  have ty1 : (⟨s.heap.push ⟨.type "dict", none, .dict #[] 0, #[]⟩, s.gens, s.drawn, s.toks, s.os⟩ : Shared).TypeIs (.ref s.heap.objs.size) "dict" := GDict.ty (s := ⟨s.heap.push ⟨.type "dict", none, .dict #[] 0, #[]⟩, s.gens, s.drawn, s.toks, s.os⟩) hnew
  have ty2 : (⟨s.heap.push ⟨.type "dict", none, .dict #[] 0, #[]⟩, s.gens, s.drawn, s.toks, s.os⟩ : Shared).TypeIs (.ref o) "dict" := GDict.ty (s := ⟨s.heap.push ⟨.type "dict", none, .dict #[] 0, #[]⟩, s.gens, s.drawn, s.toks, s.os⟩) ho'
  refine ⟨ty1, F.args_dict_init_2 _ _, ?_⟩
  unfold Builtin.«dict.__init__»
  refine wpAny_bind ?_
  unfold Builtin.Dict.selfAndRest
  refine wpAny_bind (wpAny_notOrdered_dict ty1 ?_)
  show wpAny _ _ (pure (s.heap.objs.size, [Value.ref o])) _ _ _
  refine wpAny_pure ?_
  show wpAny _ _ (Builtin.Dict.updateFrom "dict.__init__" s.heap.objs.size (.ref o) [] .none) _ _ _
  unfold Builtin.Dict.updateFrom
  refine wpAny_bind (wpAny_typeOf ty2 ?_)
  rw [if_neg (by decide)]
  refine wpAny_bind ?_
  unfold Builtin.Dict.merge
  refine wpAny_bind ?_
  unfold Builtin.Dict.readDirectly
  refine wpAny_bind (wpAny_isInstance ty2 isSubtype_dict_dict ?_)
  simp only [Bool.not_true, Bool.false_eq_true, if_false]
  refine wpAny_bind (wpAny_specialOf ty2 F.slot_dict_iter.lookup (wpAny_pure ?_))
  simp only [beq_self_eq_true, if_true]
  refine wpAny_bind (wpAny_pure ?_)
  refine mergeG (by show A.units + 1 + 1 + 8 < _; omega) (Nat.ne_of_gt hlt) hoS hnew ho' ha hz fun h' g' s' => ?_
  show wpAny _ _ (Builtin.Dict.addKeywords s.heap.objs.size [] >>= _) _ _ _
  exact wpAny_bind (wpAny_pure (wpAny_pure ⟨rfl, h h' g' fun b ob e => (s'.2 b (Nat.ne_of_lt (Heap.lt_size e))).trans (Heap.get?_push_of_some _ e)⟩))
end
/-! ### as data: dict(d), len(d), list(d), list(d.values()), xs * n -/
theorem pair_keys : ∀ {es : List (NestedKey × V × V)} {xs : List Ent}, Paired EntV es xs → xs.map (·.1) = es.map (·.1) := fun p => (ents_keys p).symm
def keysK (kvs : List (PyData × D)) : List NestedKey := kvs.filterMap fun q => nk q.1
theorem keysK_ok {K : KW} {H : Hp} {c : Anc} {es : List (NestedKey × V × V)} {kvs : List (PyData × D)} (r : DctR K H c es kvs) : keysK kvs = es.map (·.1) := by
  have := congrArg (List.filterMap id) r.key
  rw [List.filterMap_map, List.filterMap_map] at this
  unfold keysK
  have e1 : (es.filterMap (id ∘ fun e => some e.1)) = es.map (·.1) := by
    rw [← List.filterMap_eq_map]
    rfl
  rw [e1] at this
  exact this.symm
def newDO (z : Md) (kvs : List (PyData × D)) (m : Store) : OD := match newD z kvs m with
  | .ok d m' => some (d, m')
  | _ => none
theorem newDO_want {X : Cx} {c : Anc} {H : Hp} {σ : St} {z : Md} {kvs : List (PyData × D)} {m : Store} {Q : VK} (h : WantO X.kw c H (newDO z kvs m) Q) : Want X (fun _ _ _ _ => False) c H σ (newD z kvs m) Q := by
  unfold newDO at h
  cases q : newD z kvs m with
  | ok d m' => rw [q] at h; exact h
  | exc x m' => rw [q] at h; exact h.elim
  | stuck => rw [q] at h; exact h.elim
def dictD (z : Md) : List D → Store → OD
  | [d], m => match dctOf d m with
    | some kvs => if apartK (keysK kvs) = true ∧ kvs.length ≤ sizeLine then newDO z kvs m else none
    | none => none
  | _, _ => none
section
variable {X : Cx} {W : WX} {a b e o : Expr} {es rest : List Expr} {fa fb f fo : FE} {fl : FI} {pos apos cpos p : Pos} {c : Anc} {ρ : Rho} {m : Store} {σ : St} {H : Hp} {name : Str}
theorem call_dictD (z : Md) (hu : X.A.units + 65 < cLine) : CallR X (.type "dict") (rOfL X.kw (dictD z)) := by
  intro pins s σ H xs us Q I rv h
  obtain ⟨c, m, ds, r, hv, w⟩ := h
  unfold dictD at w
  split at w
  · rename_i d
    split at w
    · rename_i kvs hd
      split at w
      · rename_i hc
        obtain ⟨v, rfl, hv1⟩ := VDs.onlyOne hv
        obtain ⟨u, rfl, ru⟩ := vals1 rv
        obtain ⟨a, en, rfl, g1, g2⟩ := dctOf_ok r hv1 hd
        cases ru
        obtain ⟨hS, ys, hg, hp⟩ := gd_at I g1 g2
        have l1 := dlen g2
        have l2 : en.length = ys.length := Paired.length hp
        have ka : apartK (ys.map (·.1)) = true := by
          rw [pair_keys hp, ← keysK_ok g2]
          exact hc.1
        have hn : H s.heap.objs.size = none := I.hok.fresh (Nat.le_refl _)
        refine dict_of (by omega) I.big hS hg ka (by omega) fun h' g' k' => ?_
        have hm : (s.heap.objs.size == sysModules) = false := beq_eq_false_iff_ne.mpr (Nat.ne_of_gt I.big)
        refine EP.frz ⟨.ref s.heap.objs.size, upd H s.heap.objs.size (gdO X.w s.heap.objs.size en), I.laid (t' := s.toks) k' (Nat.le_refl _) (gd_ok hm g' hp), rfl, ?_⟩
        exact newD_ok (σ := σ) (W := fun _ _ _ _ => False) r hn g2 (newDO_want w)
      · exact w.elim
    · exact w.elim
  · exact w.elim
def lenG (ds : List D) (m : Store) : OD := match lenD ds m with
  | some r => some r
  | none => match ds with
    | [d] => match dctOf d m with
      | some kvs => if kvs.length ≤ sizeLine then some (.p (.int kvs.length), m) else none
      | none => none
    | _ => none
theorem call_lenG : CallR X (.builtin "len") (rOfL X.kw lenG) := by
  intro pins s σ H xs us Q I rv h
  obtain ⟨c, m, ds, r, hv, w⟩ := h
  unfold lenG at w
  cases e : lenD ds m with
  | some q => rw [e] at w; exact call_lenD pins s σ H xs us Q I rv ⟨c, m, ds, r, hv, by rw [e]; exact w⟩
  | none =>
    rw [e] at w
    dsimp only at w
    split at w
    · rename_i d
      split at w
      · rename_i kvs hd
        split at w
        · rename_i hz
          obtain ⟨v, rfl, hv1⟩ := VDs.onlyOne hv
          obtain ⟨u, rfl, ru⟩ := vals1 rv
          obtain ⟨a, en, rfl, g1, g2⟩ := dctOf_ok r hv1 hd
          cases ru
          obtain ⟨hS, ys, hg, hp⟩ := gd_at I g1 g2
          obtain ⟨ens, ep, y1, y2, y3⟩ := hg.raw
          have l1 := dlen g2
          have l2 : en.length = ys.length := Paired.length hp
          have el : ens.size = kvs.length := by omega
          refine len_raw hS y1 (by rw [sizeLine_eq] at hz; omega) fun t tk => ⟨.int kvs.length, H, I.tok tk, ⟨t, by rw [el]⟩, w.now r (VD.int.mpr rfl)⟩
        · exact w.elim
      · exact w.elim
    · exact w.elim
/-- list(d): its keys -/
def listG (z : Md) (ds : List D) (m : Store) : OD := match listD z ds m with
  | some r => some r
  | none => match ds with
    | [d] => match dctOf d m with
      | some kvs => if kvs.length ≤ sizeLine then newO z ((kvs.map (·.1)).map D.p) m else none
      | none => none
    | _ => none
theorem vals_of {w : World} {es : List (NestedKey × V × V)} {ens : Array DictEntry} {acc : Array Value} (f : NestedKey × V × V → V) (g : DictEntry → Value) (h : ∀ e x, EnR w e x → RelV (f e) (g x)) (p : Paired (EnR w) es ens.toList) (ha : ItemsOf (fun i v => ∃ hi : i < ens.size, v = g ens[i]) acc ens.size) : Vals (es.map f) acc.toList := by
  have ea : acc.toList = ens.toList.map g := by
    apply List.ext_getElem?
    intro i
    rw [List.getElem?_map, Array.getElem?_toList, Array.getElem?_toList]
    cases e : acc[i]? with
    | none =>
      have : acc.size ≤ i := Array.getElem?_eq_none_iff.mp e
      rw [Array.getElem?_eq_none (by rw [← ha.1]; exact this)]
      rfl
    | some v =>
      obtain ⟨hi, rfl⟩ := ha.2 i v e
      rw [Array.getElem?_eq_getElem hi]
      rfl
  rw [ea]
  clear ea ha
  generalize ens.toList = l at p
  induction p with
  | nil => exact .nil
  | cons hh r ih => exact .cons (h _ _ hh) ih
theorem rd_raw {pins : List (Addr × Obj)} {s : Shared} {d : Addr} {es : EsE} (I : Inv X pins σ H s) (h : Rd H d (gdO X.w d es)) :
    (d == sysModules) = false ∧ ∃ (ens : Array DictEntry) (ep : Nat), s.heap.DictRaw d ens ep ∧ ens.size = es.length ∧ Paired (EnR X.w) es ens.toList := by
  have z : ObjOk X.prog X.w H s.heap d (HO.ext _) := h.ok I.hok
  obtain ⟨o', ens, ep, h0, h1, h2, h3, h4⟩ := z.1
  have l : es.length = ens.toList.length := Paired.length h4
  exact ⟨h0, ens, ep, ⟨o', h1, h2, h3⟩, by simpa using l.symm, h4⟩
theorem call_listG (z : Md) (hc : X.calm = true) : CallR X (.type "list") (rOfL X.kw (listG z)) := by
  intro pins s σ H xs us Q I rv h
  obtain ⟨c, m, ds, r, hv, w⟩ := h
  unfold listG at w
  cases e : listD z ds m with
  | some q => rw [e] at w; exact Dn.call_listD z pins s σ H xs us Q I rv ⟨c, m, ds, r, hv, by rw [e]; exact w⟩
  | none =>
    rw [e] at w
    dsimp only at w
    split at w
    · rename_i d
      split at w
      · rename_i kvs hd
        split at w
        · rename_i hz
          obtain ⟨v, rfl, hv1⟩ := VDs.onlyOne hv
          obtain ⟨u, rfl, ru⟩ := vals1 rv
          obtain ⟨a, en, rfl, g1, g2⟩ := dctOf_ok r hv1 hd
          cases ru
          obtain ⟨hS, ens, ep, y1, y2, y3⟩ := rd_raw I g1
          have l1 := dlen g2
          have hn : H s.heap.objs.size = none := I.hok.fresh (Nat.le_refl _)
          refine PySem.W.kdl_call (KdlSrc.rawDict (ep := ep) (es := ens) hS) (I.ok.hd hc) y1 (by omega) fun h' tk acc c' hk hD hacc => ?_
          have hvl : Vals (en.map (·.2.1)) acc.toList := vals_of (·.2.1) (·.key) (fun _ _ z => z.2.1) y3 hacc
          refine EP.frz ⟨.ref s.heap.objs.size, upd H s.heap.objs.size (.lst (en.map (·.2.1))), I.laid (t' := tk) hk (Nat.le_refl _) ⟨by rw [List.length_map]; omega, acc.toList, c', hvl, by rw [Array.toArray_toList]; exact hD⟩, rfl, ?_⟩
          exact newO_ok r (VDs.ofp g2.kd) w _ hn
        · exact w.elim
      · exact w.elim
    · exact w.elim
/-- list(d.values()) -/
def lvE (z : Md) (f : FE) : FE := fun ρ m => (f ρ m).bind fun d m1 => match dctOf d m1 with
  | some kvs => if kvs.length ≤ sizeLine then lift (newO z (kvs.map (·.2)) m1) else .stuck
  | none => .stuck
theorem de_listVals (z : Md) {pl pc pa : Pos} (hg : Gl X "list") (hm : X.mg "list" = none) (hc : X.calm = true) (h : DE X W e f) (hbase : attributeBase e "values" X.env (eval e X.env) = eval e X.env := by rfl) (hline : (pa.endLine == pc.line) = true := by rfl)
    (hs : starEach [.Call (.Attribute e "values" pa) [] [] pc] X.env = [(false, eval (.Call (.Attribute e "values" pa) [] [] pc) X.env)] := by rfl) :
    DE X W (.Call (.Name "list" pl) [.Call (.Attribute e "values" pa) [] [] pc] [] pos) (lvE z f) := fun c ρ m σ H Q r s w => .mk fun pins st I => by
  refine Call_ (ld_blt I hg hm (show bootBuiltins "list" = some (.type "list") by decide +kernel) (PyProof.Rows.callWith_type1 ?_ hs rfl))
  have ev : WE X e σ H (fun v H1 => ∃ c1 m1 d kvs, RelS X.kw c1 m1 H1 ∧ VD X.kw H1 c1 v d ∧ dctOf d m1 = some kvs ∧ kvs.length ≤ sizeLine ∧ WantO X.kw c1 H1 (newO z (kvs.map (·.2)) m1) Q) := h.thenE r s w fun d m1 c1 v H1 r1 s1 g1 h1 w1 => by
    cases q : dctOf d m1 with
    | none => simp only [q] at w1; exact w1.elim
    | some kvs =>
      simp only [q] at w1
      by_cases hz : kvs.length ≤ sizeLine
      · rw [if_pos hz] at w1
        exact ⟨c1, m1, d, kvs, r1, h1, q, hz, w1.o⟩
      · rw [if_neg hz] at w1; exact w1.elim
  refine Calls.spliced_cons (wpAny_Call_method (T := "dict") (id := "dict.values") hbase rfl hline F.plainAttrs_dict F.slot_dict_values F.type_dict_values (thn (ev.go pins st I) ?_))
  rintro u s1 ⟨v, H1, J, rv, c1, m1, d, kvs, r1, h1, hd, hz, w1⟩
  obtain ⟨a, en, rfl, g1, g2⟩ := dctOf_ok r1 h1 hd
  cases rv
  obtain ⟨hS, ens, ep, y1, y2, y3⟩ := rd_raw J g1
  have l1 := dlen g2
  refine ⟨y1.typeIs, raw_noDict y1, ?_⟩
  show wpAny _ _ (callWith pc (.builtin "dict.values") [.ref a] [] []) _ X.xe s1
  refine method_meetsIn F.slot_dict_values F.entry_dict_values rfl (PySem.evalArgs_none ⟨rfl, y1.typeIs, F.args_dict_values_1 _, _, meets_dict_values_raw a hS, ⟨ens, ep, y1⟩, ?_⟩)
  refine Calls.spliced_nil ?_
  have J2 : Inv X pins σ H1 { s1 with heap := s1.heap.push ⟨.type "dict_values", none, .fields #[.ref a], #[]⟩ } := J.kept (t' := s1.toks) fun b ob q => Heap.get?_push_of_some _ q
  refine PySem.W.kdl_call (KdlSrc.rawValues (r := s1.heap.objs.size) (d := a) (ep := ep) (es := ens)) (I.ok.hd hc) ⟨⟨_, Heap.get?_push_size _ rfl, rfl, rfl⟩, DictRaw.pushed y1 _⟩ (by omega) fun h' tk acc c' hk hD hacc => ?_
  have hvl : Vals (en.map (·.2.2)) acc.toList := vals_of (·.2.2) (·.val) (fun _ _ z => z.2.2) y3 hacc
  have hn : H1 (s1.heap.push ⟨.type "dict_values", none, .fields #[.ref a], #[]⟩).objs.size = none := J2.hok.fresh (Nat.le_refl _)
  refine EP.frz ⟨.ref _, upd H1 (s1.heap.push ⟨.type "dict_values", none, .fields #[.ref a], #[]⟩).objs.size (.lst (en.map (·.2.2))), J2.laid (t' := tk) hk (Nat.le_refl _) ⟨by rw [List.length_map]; omega, acc.toList, c', hvl, by rw [Array.toArray_toList]; exact hD⟩, rfl, ?_⟩
  exact newO_ok r1 g2.vd w1 _ hn
end
end L2.Dn
namespace L2.Dn
open PySem PySem.Spec PyProof.Rows L2
/-! ### what the text says of a class -/
/-- a class of the module whose instances are plain, or an exception class -/
structure ClT (K : PySem.W.Frag) (Ca : Addr) : Prop where
  cl : Cls K Ca
  pc : PySem.W.plainGet K Ca "__class__" = true
  ha : PySem.W.findIn K (.ref Ca) "__class__" = some (some (.builtin "object.__class__"))
  hn : PySem.W.specialIn K (.builtin "object.__class__") "__get__" = some (some (.builtin "getset_descriptor.__get__"))
  ht : PySem.W.takesIn K (.builtin "object.__class__") = some true
  hm : PySem.W.mroIn K Ca (.type "object") = some true
structure XcT (K : PySem.W.Frag) (Ca : Addr) : Prop where
  oex : OexC K Ca
  xf : XfC K Ca
  ec : ExcC K Ca
/-- exceptions of a class, instances of a class, read by their fields -/
def FldX (K : PySem.W.Frag) (Ca : Addr) (f : Str) : Prop := XcT K Ca ∧ PySem.W.findIn K (.ref Ca) f = some none
def FldI (K : PySem.W.Frag) (Ca : Addr) (f : Str) : Prop := ClT K Ca ∧ NoAttr K Ca f
def fldIn (l : List Str) (C : Str) (f : Str) (ns : List Str) (xs : List D) (m : Store) : OD := if C ∈ l then ((ns.zip xs).lookup f).map fun d => (d, m) else none
def fldD (lx l : List Str) (f : Str) (d : D) (m : Store) : OD := match d with
  | .exn C ns xs => fldIn lx C f ns xs m
  | .obj C ns xs => fldIn l C f ns xs m
  | .cell i => match m.at_ i with
    | some (.ins C fs) => fldIn l C f (fs.map (·.1)) (fs.map (·.2)) m
    | _ => none
  | _ => none
section
variable {K : KW} {H : Hp} {c : Anc}
theorem fs_zip {fs : List (Str × V)} {ns : List Str} (h : fs.map (·.1) = ns) : fs = ns.zip (fs.map (·.2)) := by
  subst h
  induction fs with
  | nil => rfl
  | cons q fs ih => rw [List.map_cons, List.map_cons, List.zip_cons_cons, ← ih]
theorem lookup_rel {f : Str} : ∀ {ns : List Str} {vs : List V} {xs : List D} {d : D}, VDs K H c vs xs → (ns.zip xs).lookup f = some d → ∃ v, (ns.zip vs).lookup f = some v ∧ VD K H c v d
  | [], _, _, _, _, e => by simp at e
  | n :: ns, vs, [], d, h, e => by simp at e
  | n :: ns, vs, x :: xs, d, h, e => by
    unfold VDs at h
    obtain ⟨v, r, rfl, h1, h2⟩ := h
    simp only [List.zip_cons_cons, List.lookup_cons] at e ⊢
    cases q : f == n with
    | true => rw [q] at e; cases e; exact ⟨v, rfl, h1⟩
    | false => rw [q] at e; exact lookup_rel h2 e
end
section
variable {X : Cx} {W : WX} {a b e o : Expr} {es rest : List Expr} {fa fb f fo : FE} {fl : FI} {pos apos cpos p : Pos} {c : Anc} {ρ : Rho} {m : Store} {σ : St} {H : Hp} {name : Str}
theorem ins_rd {P : Program} {w : World} {h : Heap} {a C dx : Addr} {fs : List (Str × V)} (hok : HOk P w H h) (e : Rd H a (.ins C dx fs)) : ∃ mA, ObjM h a dx C mA ∧ (∀ f, RelO (fs.lookup f) (mA f)) ∧ PySem.Within mA (fs.map (·.1)) := by
  obtain ⟨d, z, ne, ob, mA, n, r, q⟩ := (show ObjOk P w H h a (.ins C dx fs) from e.ok hok)
  exact ⟨mA, ⟨ob, n, ne⟩, r, q⟩
theorem exn_pin {pins : List (Addr × Obj)} {s : Shared} {a : Addr} {oe : Obj} (I : Inv X pins σ H s) (h1 : X.kw.hd = some (a, oe)) : s.heap.get? a = some oe := by
  have h1 : (if X.calm then none else X.pn.head?) = some (a, oe) := h1
  have hcalm : X.calm = false := by
    cases hc : X.calm with
    | false => rfl
    | true => rw [hc] at h1; cases h1
  have hpn : X.pn.head? = some (a, oe) := by rw [hcalm] at h1; exact h1
  have hmem : (a, oe) ∈ X.pn := by
    cases hp : X.pn with
    | nil => rw [hp] at hpn; cases hpn
    | cons q l => rw [hp] at hpn; cases hpn; exact List.mem_cons_self
  exact (I.pin (a, oe) (List.mem_append_left _ hmem)).1
theorem fldIn_m {l : List Str} {C f : Str} {ns : List Str} {xs : List D} {d' : D} {m' : Store} (e : fldIn l C f ns xs m = some (d', m')) : m' = m ∧ C ∈ l ∧ (ns.zip xs).lookup f = some d' := by
  unfold fldIn at e
  split at e
  · rename_i hm
    obtain ⟨y, e1, e2⟩ := Option.map_eq_some_iff.mp e
    cases e2
    exact ⟨rfl, hm, e1⟩
  · cases e
theorem fldD_m {lx l : List Str} {f : Str} {d d' : D} {m' : Store} (e : fldD lx l f d m = some (d', m')) : m' = m := by
  unfold fldD at e
  split at e
  · exact (fldIn_m e).1
  · exact (fldIn_m e).1
  · split at e
    · exact (fldIn_m e).1
    · cases e
  · cases e
/-- o.f -/
theorem fld_ok {pins : List (Addr × Obj)} {s : Shared} {lx l : List Str} {f : Str} {d d' : D} {v : V} {u : Value} {bb : Bool} {m' : Store} {Q : VK} (hx : ∀ C ∈ lx, ∃ Ca, X.mg C = some (.ref Ca) ∧ FldX X.K Ca f) (hl : ∀ C ∈ l, ∃ Ca, X.mg C = some (.ref Ca) ∧ FldI X.K Ca f) (I : Inv X pins σ H s) (r : RelS X.kw c m H) (hv : VD X.kw H c v d) (ru : RelV v u) (e : fldD lx l f d m = some (d', m'))
    (q : ∀ v', VD X.kw H c v' d' → Q v' H) : wpAny (model X.prog X.w) X.A (getAttr u f bb) (EP X pins σ Q) X.xe s := by
  have ins : ∀ {a Ca dx : Addr} {C : Str} {fs : List (Str × V)} {ns : List Str} {xs : List D}, u = .ref a → X.mg C = some (.ref Ca) → Rd H a (.ins Ca dx fs) → fs.map (·.1) = ns → VDs X.kw H c (fs.map (·.2)) xs → fldIn l C f ns xs m = some (d', m') → wpAny (model X.prog X.w) X.A (getAttr u f bb) (EP X pins σ Q) X.xe s := fun {a Ca dx C fs ns xs} eu h1 hr hn hx e => by
    obtain ⟨_, hm, e⟩ := fldIn_m e
    obtain ⟨Cb, h2, T, hno⟩ := hl C hm
    have := h1.symm.trans h2
    cases this
    subst eu
    obtain ⟨mA, O, rr, _⟩ := ins_rd I.hok hr
    obtain ⟨y, k1, k2⟩ := lookup_rel hx e
    rw [← fs_zip hn] at k1
    obtain ⟨u', hu, ru'⟩ := RelO.some_of (v := y) (o := mA f) (by rw [← k1]; exact rr f)
    exact get_map I.kIn O (T.cl.get f) T.cl.hd hno hu (handed_of ru') ⟨y, H, I.tok _, ru', q y k2⟩
  unfold fldD at e
  split at e
  · obtain ⟨_, hm, k3⟩ := fldIn_m e
    obtain ⟨Cb, k1, T, hno⟩ := hx _ hm
    unfold VD at hv
    obtain ⟨a, oe, Ca, dd, fs, h1, rfl, h3, h4, ⟨vs, h5⟩, h6, h7⟩ := hv
    cases ru
    have := h3.symm.trans k1
    cases this
    have ha := exn_pin I h1
    rcases h6 with ⟨e1, _, _⟩ | ⟨dx, rfl, hx, hn⟩
    · rw [e1] at k3
      simp at k3
    · obtain ⟨mA, hns, hr⟩ := (show ObjOk X.prog X.w H s.heap dx (.xd fs) from I.hok dx _ hx)
      obtain ⟨od, ho, hlk⟩ := lookIn_ns hns
      obtain ⟨y, y1, y2⟩ := lookup_rel h7 k3
      rw [← fs_zip hn] at y1
      obtain ⟨u', hu, ru'⟩ := RelO.some_of (v := y) (o := mA f) (by rw [← y1]; exact hr f)
      have J : PySem.W.InstAt s.heap a oe _ (some od) := ⟨ha, h4.1, by unfold PySem.W.notCls; rw [h5] <;> rfl, by rw [h4.2]; exact ho⟩
      exact HandSPX.exc_get I.kIn J T.xf.ga T.xf.gg T.xf.exC (PySem.W.findObj_own T.xf.hdC hno rfl (by rw [hlk, hu])) (handed_of ru') ⟨y, H, I.tok _, ru', q y y2⟩
  · unfold VD at hv
    obtain ⟨a, ob, Ca, dx, fs, rfl, h2, h3, h4, h5⟩ := hv
    cases ru
    exact ins rfl h2 (.inr ⟨ob, h3⟩) h4 h5 e
  · rename_i i
    split at e
    · rename_i C fs hm
      unfold VD at hv
      obtain ⟨a, ha, rfl⟩ := hv
      cases ru
      obtain ⟨Ca, dx, vs, g1, g2, g3, g4⟩ := r.at_ i a _ ha hm
      exact ins rfl g2 (.inl g1) g3 (VDs.mono (Ext.refl _) (forI_le _ _) _ g4.warm) e
    · cases e
  · cases e
def fldE (lx l : List Str) (f : Str) (fa : FE) : FE := fun ρ m => (fa ρ m).bind fun d m1 => lift (fldD lx l f d m1)
theorem de_fld {lx l : List Str} {f : Str} (hx : ∀ C ∈ lx, ∃ Ca, X.mg C = some (.ref Ca) ∧ FldX X.K Ca f) (hl : ∀ C ∈ l, ∃ Ca, X.mg C = some (.ref Ca) ∧ FldI X.K Ca f) (ha : DE X W a fa) (hb : attributeBase a f X.env (eval a X.env) = eval a X.env := by rfl) : DE X W (.Attribute a f pos) (fldE lx l f fa) := fun c ρ m σ H Q r s w => .mk fun pins st I => by
  refine attr_of hb (thn ((ha.thenE (Q := fun v H1 => ∃ c1 m1 d, RelS X.kw c1 m1 H1 ∧ VD X.kw H1 c1 v d ∧ WantO X.kw c1 H1 (fldD lx l f d m1) Q) r s w (fun d m1 c1 v H1 r1 s1 g1 h1 w1 => ⟨c1, m1, d, r1, h1, w1.o⟩)).go pins st I) ?_)
  rintro u s1 ⟨v, H1, I1, ru, c1, m1, d, r1, h1, w1⟩
  cases q : fldD lx l f d m1 with
  | none => rw [q] at w1; exact w1.elim
  | some y =>
    obtain ⟨d', m'⟩ := y
    rw [q] at w1
    have e0 := fldD_m q
    subst e0
    exact fld_ok (bb := true) (Q := Q) hx hl I1 r1 h1 ru q fun v' hv' => w1 c1 v' H1 (Gd.refl r1) hv'
/-! ### isinstance(o, C), C a class of the module -/
def IsX (K : PySem.W.Frag) (Ca Cb : Addr) (b : Bool) : Prop := XcT K Ca ∧ PySem.W.kitOne K (.ref Ca) (.ref Cb) = some b
def IsI (K : PySem.W.Frag) (Ca Cb : Addr) (b : Bool) : Prop := ClT K Ca ∧ PySem.W.kitOne K (.ref Ca) (.ref Cb) = some b
def insCls (d : D) (m : Store) : Option Str := match d with
  | .obj C _ _ => some C
  | .cell i => match m.at_ i with
    | some (.ins C _) => some C
    | _ => none
  | _ => none
def exnCls : D → Option Str
  | .exn C _ _ => some C
  | _ => none
/-- lx, l: the classes of the module, with the answer; of built-in types it is no -/
def isCD (lx l : List (Str × Bool)) (d : D) (m : Store) : OD := match exnCls d with
  | some C => (lx.lookup C).map fun b => (.p (.bool b), m)
  | none => match insCls d m with
    | some C => (l.lookup C).map fun b => (.p (.bool b), m)
    | none => match tyN d m with
      | some _ => some (.p (.bool false), m)
      | none => none
theorem lookup_mem {l : List (Str × Bool)} {C : Str} {b : Bool} (h : l.lookup C = some b) : (C, b) ∈ l := by
  induction l with
  | nil => cases h
  | cons q l ih =>
    obtain ⟨n, k⟩ := q
    simp only [List.lookup_cons] at h
    cases e : C == n with
    | true => rw [e] at h; cases h; rw [eq_of_beq e]; exact List.mem_cons_self
    | false => rw [e] at h; exact List.mem_cons_of_mem _ (ih h)
/-- what isinstance says of the built-in types that data have -/
def NoTys (K : PySem.W.Frag) (Cb : Addr) : Prop := ∀ t ∈ ["NoneType", "bool", "int", "str", "list", "tuple", "dict"], PySem.W.kitOne K (.type t) (.ref Cb) = some false
theorem tyN_mem {d : D} {t : String} (h : tyN d m = some t) : t ∈ ["NoneType", "bool", "int", "str", "list", "tuple", "dict"] := by
  unfold tyN at h
  split at h <;> first
    | (cases h; done)
    | (cases h; decide)
    | (split at h <;> first | (cases h; done) | (cases h; decide))
theorem isC_ok {pins : List (Addr × Obj)} {s : Shared} {lx l : List (Str × Bool)} {Cb : Addr} {d d' : D} {v : V} {u : Value} {m' : Store} {Q : VK} (hx : ∀ q ∈ lx, ∃ Ca, X.mg q.1 = some (.ref Ca) ∧ IsX X.K Ca Cb q.2) (hl : ∀ q ∈ l, ∃ Ca, X.mg q.1 = some (.ref Ca) ∧ IsI X.K Ca Cb q.2) (hB : NoTys X.K Cb) (I : Inv X pins σ H s) (r : RelS X.kw c m H) (hv : VD X.kw H c v d) (ru : RelV v u) (e : isCD lx l d m = some (d', m'))
    (q : WantO X.kw c H (some (d', m')) Q) : wpAny (model X.prog X.w) X.A (call (.builtin "isinstance") [u, .ref Cb]) (EP X pins σ Q) X.xe s := by
  have fin : ∀ {b : Bool}, some (D.p (.bool b), m) = some (d', m') → ∀ tk, EP X pins σ Q (.bool b) { s with toks := tk } := fun {b} z tk => by
    cases z
    exact ⟨.bl b, H, I.tok tk, rfl, q.now r (VD.bl.mpr rfl)⟩
  have ins : ∀ {a Ca dx : Addr} {C : Str} {fs : List (Str × V)}, u = .ref a → X.mg C = some (.ref Ca) → Rd H a (.ins Ca dx fs) → (l.lookup C).map (fun b => (D.p (.bool b), m)) = some (d', m') → wpAny (model X.prog X.w) X.A (call (.builtin "isinstance") [u, .ref Cb]) (EP X pins σ Q) X.xe s := fun {a Ca dx C fs} eu h1 hr e => by
    obtain ⟨b, e1, e2⟩ := Option.map_eq_some_iff.mp e
    obtain ⟨Ca', k1, T, k3⟩ := hl _ (lookup_mem e1)
    have := h1.symm.trans k1
    cases this
    subst eu
    obtain ⟨mA, O, rr, _⟩ := ins_rd I.hok hr
    obtain ⟨od, J, hlk⟩ := O.look
    exact PySem.W.kia_one (PySem.W.kitx_own T.pc T.cl.hd T.ha T.hn T.ht T.hm) I.kIn J k3 (fun z => nomatch z) (fin (congrArg some e2))
  unfold isCD at e
  cases q0 : exnCls d with
  | some C =>
    rw [q0] at e
    obtain ⟨b, e1, e2⟩ := Option.map_eq_some_iff.mp e
    obtain ⟨Ca', k1, T, k3⟩ := hx _ (lookup_mem e1)
    cases d with
    | exn C' ns xs =>
      cases q0
      unfold VD at hv
      obtain ⟨a, oe, Ca, dd, fs, h1, rfl, h3, h4, ⟨vs, h5⟩, h6, h7⟩ := hv
      cases ru
      have ec : Ca = Ca' := by
        have := h3.symm.trans k1
        cases this
        rfl
      subst ec
      have ha := exn_pin I h1
      have go : ∀ od, PySem.W.InstAt s.heap a oe Ca od → wpAny (model X.prog X.w) X.A (call (.builtin "isinstance") [.ref a, .ref Cb]) (EP X pins σ Q) X.xe s := fun od J =>
        PySem.W.kia_one (PySem.W.kitx_exc (by obtain ⟨cd, hc, _⟩ := PySem.W.any_some T.ec.hd; rw [hc]; rfl) T.ec.hg T.ec.hk T.ec.hs T.ec.ha T.ec.hn T.ec.ht T.ec.hm) I.kIn J k3 (fun z => nomatch z) (fin (congrArg some e2))
      rcases h6 with ⟨_, e0, _⟩ | ⟨dx, rfl, hx, hn⟩
      · subst e0
        exact go none ⟨ha, h4.1, by unfold PySem.W.notCls; rw [h5] <;> rfl, by rw [h4.2]; trivial⟩
      · obtain ⟨mA, hns, hr⟩ := (show ObjOk X.prog X.w H s.heap dx (.xd fs) from I.hok dx _ hx)
        obtain ⟨od, ho, hlk⟩ := lookIn_ns hns
        exact go (some od) ⟨ha, h4.1, by unfold PySem.W.notCls; rw [h5] <;> rfl, by rw [h4.2]; exact ho⟩
    | _ => cases q0
  | none =>
    rw [q0] at e
    dsimp only at e
    cases q1 : insCls d m with
    | none =>
      rw [q1] at e
      dsimp only at e
      cases q2 : tyN d m with
      | none => rw [q2] at e; cases e
      | some t =>
        rw [q2] at e
        obtain ⟨P, Z, pp, hx⟩ := kitG I ru (tyN_ok r hv q2)
        exact PySem.W.kia_one Z I.kIn pp (hB t (tyN_mem q2)) hx (fin e)
    | some C =>
      rw [q1] at e
      unfold insCls at q1
      split at q1
      · cases q1
        unfold VD at hv
        obtain ⟨a, ob, Ca, dx, fs, rfl, h2, h3, h4, h5⟩ := hv
        cases ru
        exact ins rfl h2 (.inr ⟨ob, h3⟩) e
      · rename_i i
        split at q1
        · rename_i C' fs hmm
          cases q1
          unfold VD at hv
          obtain ⟨a, ha, rfl⟩ := hv
          cases ru
          obtain ⟨Ca, dx, vs, g1, g2, g3, g4⟩ := r.at_ i a _ ha hmm
          exact ins rfl g2 (.inl g1) e
        · cases q1
      · cases q1
/-- a def or a class as a value -/
def fnE (x : Str) : FE := fun _ m => .ok (.fn x) m
theorem de_fn {x : Str} {fa : Addr} (hm : X.mg x = some (.ref fa)) (hg : Gl X x := by rfl) (hd : (x == ("__debug__" : Str)) = false := by decide) : DE X W (.Name x pos) (fnE x) := fun c ρ m σ H Q rr s h =>
  we_of (pe_glob hg hm (v := .ref fa) rfl hd) (h.now rr (by unfold VD; exact ⟨fa, hm, rfl⟩))
def isCL (C : Str) (lx l : List (Str × Bool)) : List D → Store → OD
  | [d, .fn x], m => if x = C then isCD lx l d m else none
  | _, _ => none
theorem call_isC {C : Str} {Cb : Addr} {lx l : List (Str × Bool)} (hC : X.mg C = some (.ref Cb)) (hx : ∀ q ∈ lx, ∃ Ca, X.mg q.1 = some (.ref Ca) ∧ IsX X.K Ca Cb q.2) (hl : ∀ q ∈ l, ∃ Ca, X.mg q.1 = some (.ref Ca) ∧ IsI X.K Ca Cb q.2) (hB : NoTys X.K Cb) : CallR X (.builtin "isinstance") (rOfL X.kw (isCL C lx l)) := by
  intro pins s σ H xs us Q I rv h
  obtain ⟨c, m, ds, r, hv, w⟩ := h
  unfold isCL at w
  split at w
  · rename_i d x
    split at w
    · rename_i ex
      obtain ⟨v, v', rfl, h1, h2⟩ := VDs.two hv
      obtain ⟨u1, u2, rfl, r1, r2⟩ := vals2 rv
      unfold VD at h2
      obtain ⟨a, e1, rfl⟩ := h2
      cases r2
      rw [ex] at e1
      have := e1.symm.trans hC
      cases this
      cases q : isCD lx l d m with
      | none => rw [q] at w; exact w.elim
      | some y =>
        rw [q] at w
        exact isC_ok hx hl hB I r h1 r1 q w
    · exact w.elim
  · exact w.elim
end
end L2.Dn
namespace L2.Dn
open PySem PySem.Spec PyProof.Rows L2
/-! ### raise C(..) -/
/-- what the __init__ of an exception class promises: its fields are its arguments -/
def spX (Ca : Addr) (ns : List Str) : Sp := fun vs H Q _ => ∃ a ws, vs = .ref a :: ws ∧ ws.length = ns.length ∧ H a = some (exo a Ca none) ∧
  ∀ d H', H d = none → d ≠ a → H' a = some (exo a Ca (some d)) → H' d = some (exd d (ns.zip ws).reverse) → (∀ b, b ≠ a → b ≠ d → H' b = H b) → Q .non H'
theorem spX_len {Ca : Addr} {ns : List Str} : ∀ vs H Q E, spX Ca ns vs H Q E → vs.length = ((Str.ofString "self") :: ns).length := by
  rintro vs H Q E ⟨a, ws, rfl, h, _⟩
  simp [h]
section
variable {X : Cx} {W : WX} {a b e o : Expr} {es rest : List Expr} {fa fb f fo : FE} {fl : FI} {pos pos' apos cpos p p1 p2 : Pos} {c : Anc} {ρ : Rho} {m : Store} {σ : St} {H : Hp} {name x : Str} {ta : TA} {P Ca fI : Addr} {k : Nat} {fd : FuncData} {ns : List Str}
/-- P.__init__(self, ..), P an own class over ValueError without an __init__ of its own -/
theorem pe_ceinit {pl : Sem Bool} (hg : Gl X x) (hm : X.mg x = some (.ref P)) (g1 : PySem.W.specialIn X.K (.ref P) "__getattribute__" = some (some (.builtin "type.__getattribute__"))) (g2 : PySem.W.readsIn X.K P (.type "type") = true) (g3 : PySem.W.findCls X.K (.ref P) (.type "type") "__init__" = some (.val (.builtin "ValueError.__init__"))) (ha : PA X (e :: es) ta)
    (hdb : (x == ("__debug__" : Str)) = false := by decide)
    (hc : eval (.Call (.Attribute (.Name x p1) "__init__" p2) (e :: es) [] pos) X.env = (do
      let ov ← eval (.Name x p1) X.env
      standAt p2.atName
      let (f, first) ← holding [ov] (getMethod ov "__init__" pl)
      callWith pos f first (backTo pos (starEach (e :: es) X.env)) (backToKw pos (keywordEach [] X.env))) := by rfl)
    (he : starEach (e :: es) X.env = (false, eval e X.env) :: starEach es X.env := by rfl) (hpl : (backTo pos (starEach es X.env)).any (·.1) = false := by rfl) :
    PE X (.Call (.Attribute (.Name x p1) "__init__" p2) (e :: es) [] pos) (tVeI X.K ta) := by
  refine ⟨fun pins s σ H Q I h => PySem.W.methodCall_KW (ld_glob I hg hm ?_ hdb) hc⟩
  refine PySem.W.method_cls I.kIn g1 (PySem.W.cls_value I.kIn g2 g3 (by decide +kernel) ?_)
  show wpAny _ _ (callWith pos (Value.builtin "ValueError.__init__") [] (backTo pos (starEach (e :: es) X.env)) []) _ _ _
  refine PyProof.Rows.callWith_method1 (thn (ha.run pos pins _ σ H _ (I.tok _) h) ?_) he hpl
  rintro us s1 ⟨vs, H1, I1, r1, a, C, ws, rfl, hl, T, ea, q⟩
  cases r1 with
  | @cons _ u0 _ ur ra rw' =>
    cases ra
    have hlen : ur.length ≤ sizeLine := by
      rw [← Paired.length rw', sizeLine_eq]
      omega
    exact oinit_ok T I1 ea hlen fun s' J => ⟨.non, H1, J, rfl, q⟩
def raiseS (C : Str) (ns : List Str) (fl : FI) : FS := fun ρ m => (fl ρ m).bindS ρ fun ds m1 => if ds.length = ns.length then .exc ⟨C, (ns.zip ds).reverse⟩ ρ m1 else .stuck
theorem zip_map1 {α β : Type} {l : List α} {r : List β} (h : l.length = r.length) : (l.zip r).map (·.1) = l := List.map_fst_zip (by omega)
theorem zip_map2 {α β : Type} {l : List α} {r : List β} (h : l.length = r.length) : (l.zip r).map (·.2) = r := List.map_snd_zip (by omega)
theorem ds_raise {C : Str} (T : XcT X.K Ca) (hm : X.mg C = some (.ref Ca)) (iC : PySem.W.findIn X.K (.ref Ca) "__init__" = some (some (.ref fI))) (tI : PySem.W.typeIn X.K (.ref fI) = some (.type "function"))
    (F1 : FnOk X.prog X.w X.K X.mg X.base CX0 k fI fd (Str.ofString "self" :: ns) (spX Ca ns)) (hr : Room (k + 1) X.A) (hb : Binds X.K fd (Str.ofString "self" :: ns) []) (tk : Takes X W) (ha : DA X W (e :: es) fl)
    (hn : ns.length ≤ 1000 := by decide) (hg : Gl X C := by rfl) (hcalm : X.calm = true := by rfl) (hdb : (C == ("__debug__" : Str)) = false := by decide) (he : starEach (e :: es) X.env = (false, eval e X.env) :: starEach es X.env := by rfl) (hpl : (backTo pos (starEach es X.env)).any (·.1) = false := by rfl) :
    DS X W (.Raise (some (.Call (.Name C p) (e :: es) [] pos)) none pos') (raiseS C ns fl) := fun c ρ m σ H En r s w => by
  refine wst_of (ps_raise hcalm tk (pmk_oex T.oex iC tI F1 hr hb .nil pass0 hg hm pa_w hdb he hpl)) ?_
  refine ha.thenS (Q := fun vs H1 => vs.length ≤ 1000 ∧ ∀ a, H1 a = none → spX Ca ns (.ref a :: (vs ++ [])) (upd H1 a (exo a Ca none)) (fun v H2 => v = .non ∧ ∃ (d : Addr) (fs : List (Str × V)), H2 a = some (exo a Ca (some d)) ∧ H2 d = some (exd d fs) ∧ H1 d = none ∧ W (.ref Ca) (some d) σ (upd (del H2 a) d (.xd fs))) (fun _ _ _ => False)) r s w fun ds m1 c1 vs H1 r1 s1 g1 h1 w1 => ?_
  by_cases hl : ds.length = ns.length
  · rw [if_pos hl] at w1
    have hlv : vs.length = ns.length := by rw [h1.length]; exact hl
    refine ⟨by omega, fun a ha => ⟨a, vs ++ [], rfl, by rw [List.append_nil]; exact hlv, upd_same, fun d H' hd hne ha' hd' hrest => ⟨rfl, d, _, ha', hd', ?_, ?_⟩⟩⟩
    · rw [upd_ne hne] at hd
      exact hd
    · have hd1 : H1 d = none := by rw [upd_ne hne] at hd; exact hd
      rw [List.append_nil]
      have eH : upd (del H' a) d (.xd (ns.zip vs).reverse) = upd H1 d (.xd (ns.zip vs).reverse) := by
        funext b
        by_cases hbd : b = d
        · rw [hbd, upd_same, upd_same]
        · rw [upd_ne hbd, upd_ne hbd]
          by_cases hba : b = a
          · rw [hba, del_same, ha]
          · rw [del_ne hba, hrest b hba hbd, upd_ne hba]
      rw [eH]
      have g : Gd X.kw c1 c1 m1 H1 (upd H1 d (.xd (ns.zip vs).reverse)) := r1.lay hd1
      refine w1 c1 σ _ _ _ g (g.slots s1) ⟨Ca, hm, rfl, .inr ⟨d, _, rfl, upd_same, ?_, ?_⟩⟩
      · rw [List.map_reverse, List.map_reverse, zip_map1 hlv.symm, zip_map1 hl.symm]
      · rw [List.map_reverse, List.map_reverse, zip_map2 hlv.symm, zip_map2 hl.symm]
        exact (g.vds h1).reverse
  · rw [if_neg hl] at w1
    exact w1.elim
/-! ### try .. except C as n -/
def cleanR (ρ : Rho) : Bool := ρ.all fun o => match o with
  | some d => nx d
  | none => true
def endT (i : Nat) : SRes → SRes
  | .nx ρ m => if cleanR (ρ.set i none) then .nx (ρ.set i none) m else .stuck
  | .rt d m => if nx d then .rt d m else .stuck
  | .bk ρ m => if cleanR (ρ.set i none) then .bk (ρ.set i none) m else .stuck
  | .ct ρ m => if cleanR (ρ.set i none) then .ct (ρ.set i none) m else .stuck
  | _ => .stuck
/-- l: the exceptions that may come, and whether the clause names them -/
def tryS (l : List (Str × Bool)) (i : Nat) (gb gs : FS) : FS := fun ρ m => match gb ρ m with
  | .exc x ρ1 m1 => match l.lookup x.cls with
    | some true => endT i (gs (ρ1.set i (some (.exn x.cls (x.fs.map (·.1)) (x.fs.map (·.2))))) m1)
    | some false => .exc x ρ1 m1
    | none => .stuck
  | r => r
theorem Slo.kw {K K' : KW} (hk : K'.K = K.K) (hw : K'.w = K.w) (hm : K'.mg = K.mg) {ρ : Rho} (s : Slo K H c ρ σ) (h : cleanR ρ = true) : Slo K' H c ρ σ := by
  refine ⟨s.len, fun i d e => ?_⟩
  obtain ⟨v, h1, h2⟩ := s.at_ i d e
  refine ⟨v, h1, VD.kw hk hw hm d h2 ?_⟩
  have := List.all_eq_true.mp h _ (List.mem_of_getElem? e)
  exact this
theorem Slo.clean {K : KW} (hh : K.hd = none) {ρ : Rho} (s : Slo K H c ρ σ) : ∀ (i : Nat) (d : D), ρ[i]? = some (some d) → nx d = true := fun i d e => by
  obtain ⟨v, h1, h2⟩ := s.at_ i d e
  exact VD.nx hh d h2
theorem Slo.hot {K K' : KW} (hh : K.hd = none) (hk : K'.K = K.K) (hw : K'.w = K.w) (hm : K'.mg = K.mg) {ρ : Rho} (s : Slo K H c ρ σ) : Slo K' H c ρ σ :=
  ⟨s.len, fun i d e => let ⟨v, h1, h2⟩ := s.at_ i d e; ⟨v, h1, VD.kw hk hw hm d h2 (VD.nx hh d h2)⟩⟩
theorem Slo.del {K : KW} {ρ : Rho} (s : Slo K H c ρ σ) (i : Nat) : Slo K H c (ρ.set i none) (σ.set i none) := by
  refine ⟨by simp [s.len], fun j d e => ?_⟩
  by_cases hj : j = i
  · subst hj
    have hl : j < (ρ.set j none).length := (List.getElem?_eq_some_iff.mp e).1
    rw [List.getElem?_set_self (by simpa using hl)] at e
    cases e
  · rw [List.getElem?_set_ne (Ne.symm hj)] at e ⊢
    exact s.at_ j d e
theorem RelS.kw {K K' : KW} (h : K'.cold = K.cold) {c : Anc} {m : Store} {H : Hp} (r : RelS K c m H) : RelS K' c m H := ⟨r.len, r.inj, fun i a x h1 h2 => by rw [h]; exact r.at_ i a x h1 h2⟩
theorem Gd.kw {K K' : KW} (h : K'.cold = K.cold) {c c' : Anc} {m' : Store} {H H' : Hp} (g : Gd K c c' m' H H') : Gd K' c c' m' H H' := ⟨g.pre, g.ext, g.new, g.frame, g.rel.kw h⟩
variable {body suite : List Stmt} {b₀ : Stmt} {np : Pos} {gb gs : FS} {n C : Str} {cv : Value} {l : List (Str × Bool)}
theorem ds_try_as (i : Nat) (hN : X.N.Nodup) (hc : Names X C cv) (hx : ∀ q ∈ l, ∃ Ca, X.mg q.1 = some (.ref Ca) ∧ PySem.W.exmOne X.K (.ref Ca) cv = some q.2) (tk : Takes X W)
    (hb : ∀ (W' : WX) (pn : List (Addr × Obj)) (xe : Value → Shared → Prop), Takes (X.tr pn xe) W' → PassesOwn (model X.prog X.w) X.A X.env xe → DSs (X.tr pn xe) W' body gb)
    (hsu : ∀ (a : Addr) (oe : Obj) (pn : List (Addr × Obj)), DSs (X.suite a ((a, oe) :: pn)) (fun _ _ _ _ => False) (b₀ :: suite) gs)
    (hi : X.N[i]? = some n := by rfl) (hln : X.env.kindOf n = some .local := by rfl) (hcalm : X.calm = true := by rfl) (hs : X.stack = X.env :: X.outer := by rfl) (hf : X.env.frame = some X.env.locals := by rfl) :
    DS X W (.Try body [.ExceptHandler (some (.Name C np)) (some n) (b₀ :: suite) pos'] [] [] pos) (tryS l i gb gs) := fun c ρ m σ H En r s w => by
  have hh : X.kw.hd = none := by show (if X.calm then none else X.pn.head?) = none; rw [hcalm]; rfl
  have ktr : ∀ pn xe, (X.tr pn xe).kw = X.kw := fun pn xe => by simp [Cx.kw, hcalm]
  refine wst_of (ps_try_as (i := i) (tb := fun W' D σ H => ∀ pn xe, Takes (X.tr pn xe) W' → PassesOwn (model X.prog X.w) X.A X.env xe → WSs (X.tr pn xe) body D σ H)
    (ts := fun a cls d D σ H => ∀ oe pn, Zc cls d oe → (∃ vs, oe.data = .fields vs) → WSs (X.suite a ((a, oe) :: pn)) (b₀ :: suite) D σ H) hs hf hN hi hln hc tk
    (fun W' pn xe tk' po => ⟨fun pins st σ H D I h => (h pn xe tk' po).go pins st I⟩) (fun a oe cls d pn hz hfs => ⟨fun pins st σ H D I h => (h oe pn hz hfs).go pins st I⟩)) ?_
  intro pn xe tk' po
  refine hb _ pn xe tk' po c ρ m σ H En (by rw [ktr]; exact r) (by rw [ktr]; exact s) ?_
  unfold tryS at w
  cases q : gb ρ m with
  | nx ρ1 m1 => rw [q] at w; exact fun c' σ' H' g1 s1 => w c' σ' H' (by rw [ktr] at g1; exact g1) (by rw [ktr] at s1; exact s1)
  | bk ρ1 m1 => rw [q] at w; exact fun c' σ' H' g1 s1 => w c' σ' H' (by rw [ktr] at g1; exact g1) (by rw [ktr] at s1; exact s1)
  | ct ρ1 m1 => rw [q] at w; exact fun c' σ' H' g1 s1 => w c' σ' H' (by rw [ktr] at g1; exact g1) (by rw [ktr] at s1; exact s1)
  | rt d m1 => rw [q] at w; exact fun c' v H' g1 hv => w c' v H' (by rw [ktr] at g1; exact g1) (by rw [ktr] at hv; exact hv)
  | stuck => rw [q] at w; exact w
  | exc x ρ1 m1 =>
    rw [q] at w
    intro c1 σ1 cls dd H1 g1 s1 hx1
    rw [ktr] at g1 s1 hx1
    dsimp only at w
    cases ql : l.lookup x.cls with
    | none => rw [ql] at w; exact w.elim
    | some bb =>
      rw [ql] at w
      obtain ⟨Ca, k1, k2⟩ := hx _ (lookup_mem ql)
      obtain ⟨Cb, e1, e2, e3⟩ := hx1
      have ec : Ca = Cb := by
        have := e1.symm.trans k1
        cases this
        rfl
      subst ec
      subst e2
      refine ⟨bb, k2, fun hbb a ha oe pn2 hz hfs => ?_, fun hbb => ?_⟩
      · subst hbb
        have kc : (X.suite a ((a, oe) :: pn2)).kw.cold = X.kw.cold := rfl
        have kh : (X.suite a ((a, oe) :: pn2)).kw.hd = some (a, oe) := rfl
        have exv : VD (X.suite a ((a, oe) :: pn2)).kw H1 c1 (.ref a) (.exn x.cls (x.fs.map (·.1)) (x.fs.map (·.2))) := by
          unfold VD
          rcases e3 with ⟨f0, d0⟩ | ⟨dx, vs, d0, y1, y2, y3⟩
          · refine ⟨a, oe, Ca, dd, [], kh, rfl, e1, hz, hfs, .inl ⟨by rw [f0]; rfl, d0, rfl⟩, by rw [f0]; simp [VDs]⟩
          · exact ⟨a, oe, Ca, dd, vs, kh, rfl, e1, hz, hfs, .inr ⟨dx, d0, y1, y2⟩, VDs.kw (K := X.kw) (K' := (X.suite a ((a, oe) :: pn2)).kw) rfl rfl rfl _ y3 (VDs.nx hh _ y3)⟩
        refine hsu a oe pn2 c1 _ m1 _ H1 _ (g1.rel.kw kc) ((Slo.hot (K' := (X.suite a ((a, oe) :: pn2)).kw) hh rfl rfl rfl s1).set i exv) ?_
        have w2 := WantS.shift g1 w
        dsimp only at w2
        cases qs : gs (ρ1.set i (some (.exn x.cls (x.fs.map (·.1)) (x.fs.map (·.2))))) m1 with
        | nx ρ2 m2 =>
          rw [qs] at w2
          intro c2 σ2 H2 g2 s2
          simp only [endT] at w2
          split at w2
          · rename_i hcl
            exact w2 c2 _ H2 (Gd.kw (K := (X.suite a ((a, oe) :: pn2)).kw) (K' := X.kw) rfl g2) (Slo.kw (K := (X.suite a ((a, oe) :: pn2)).kw) (K' := X.kw) rfl rfl rfl (s2.del i) hcl)
          · exact w2.elim
        | bk ρ2 m2 =>
          rw [qs] at w2
          intro c2 σ2 H2 g2 s2
          simp only [endT] at w2
          split at w2
          · rename_i hcl
            exact w2 c2 _ H2 (Gd.kw (K := (X.suite a ((a, oe) :: pn2)).kw) (K' := X.kw) rfl g2) (Slo.kw (K := (X.suite a ((a, oe) :: pn2)).kw) (K' := X.kw) rfl rfl rfl (s2.del i) hcl)
          · exact w2.elim
        | ct ρ2 m2 =>
          rw [qs] at w2
          intro c2 σ2 H2 g2 s2
          simp only [endT] at w2
          split at w2
          · rename_i hcl
            exact w2 c2 _ H2 (Gd.kw (K := (X.suite a ((a, oe) :: pn2)).kw) (K' := X.kw) rfl g2) (Slo.kw (K := (X.suite a ((a, oe) :: pn2)).kw) (K' := X.kw) rfl rfl rfl (s2.del i) hcl)
          · exact w2.elim
        | rt d m2 =>
          rw [qs] at w2
          intro c2 v H2 g2 hv
          simp only [endT] at w2
          split at w2
          · rename_i hcl
            exact w2 c2 v H2 (Gd.kw (K := (X.suite a ((a, oe) :: pn2)).kw) (K' := X.kw) rfl g2) (VD.kw (K := (X.suite a ((a, oe) :: pn2)).kw) (K' := X.kw) rfl rfl rfl d hv hcl)
          · exact w2.elim
        | exc y ρ2 m2 => rw [qs] at w2; exact w2.elim
        | stuck => rw [qs] at w2; exact w2.elim
      · subst hbb
        exact w c1 σ1 _ dd H1 g1 s1 ⟨Ca, e1, rfl, e3⟩
end
end L2.Dn
namespace L2.Dn
open PySem PySem.Spec PyProof.Rows L2
section
variable {P : Program} {w : World} {K : PySem.W.Frag} {mg : Str → Option Value} {base : Heap}
/-- a def with defaults, by its body -/
theorem fn_denD {x qual : Str} {st : Stmt} {f : Addr} {fd : FuncData} {N ps : List Str} {k n np : Nat} {body : FS} {dvs : List V} {kws : List (Str × V)} (F : FunD K x qual (defArgs st) (defBody st) (defScope st) dvs kws f fd) (S : FnScope N ps (defScope st)) (hN : N.length = n) (hp : ps.length = np) (hps : np ≤ n)
    (hb : ∀ (cdv : Value) (A : Around) (outer : List Env) (s : Shared) (H : Hp) (E : XK), A.guards = some [] → Room k (A.deeper (envOfC qual (defScope st) s.heap.objs.size f cdv)) →
      DSs (cxOf (L2.CX P w) P w K mg base N qual (defScope st) f cdv A outer s H E) (fun cls dd _ H' => E cls dd H') (defBody st) body) : FnG P w K mg base (k + 1) f fd ps (spD ⟨K, w, mg, none⟩ np (fnD n body)) := by
  subst hN hp
  obtain ⟨oc, od, dV, kV, doc, pm, an, cdv, ct, osl, rfl, lk, hcd, _, _⟩ := F.ex
  have hlen : ∀ vs H Q E, spD ⟨K, w, mg, none⟩ ps.length (fnD N.length body) vs H Q E → vs.length = ps.length := by
    rintro vs H Q E ⟨cg, ds, g, h1, h2, h3, h4⟩
    rw [h3.length, h1]
  refine ⟨hlen, fun A outer s H as us vs Q E hg hr env bd rl want => ?_⟩
  have stay : ∀ b o, base.get? b = some o → s.heap.get? b = some o := fun b o h => (env.bs b o h).1
  have kin : K.In s.heap := env.mod.kin.keeps stay
  refine codeAny_call_function hr.depth (kin _ _ lk) rfl S.co S.gen rfl (PySem.W.codeRec_of kin hcd) (bd _ _ _ _ ?_)
  refine wpAny_newFunctionEnv_cells S.kind (fun y hy => ?_) fun ev hev s1 ic => ?_
  · rcases S.par y.1 (List.of_mem_zip (show (y.1, y.2) ∈ ps.zip us from hy)).1 with q | q
    · exact Or.inl q
    · exact Or.inr ⟨q, PySem.W.cellsFrom_some _ _ _ (Or.inl q)⟩
  subst hev
  refine ⟨(env.mod.nolimit.keeps stay).keeps ic.toInCall.keep, codeAny_func ?_⟩
  have J0 := inv_start (CX := L2.CX P w) (E := E) S hr.hd env (hlen _ _ _ _ want) rl ic
  obtain ⟨cg, ds, g, h1, h2, h3, h4⟩ := want
  have run := hb cdv A outer s H E hg (hr.deeper _) ⟨cg, []⟩ _ ⟨g, []⟩ _ H ⟨fun _ H' => Q .non H', Q, fun _ _ => False, fun _ _ => False⟩ h2 (Slo.start (N := N) h3 (by omega)) (by
    unfold fnD at h4
    cases q : body (ds.map some ++ List.replicate (N.length - ds.length) none) ⟨g, []⟩ with
    | nx ρ m =>
      rw [q] at h4
      exact fun c' σ' H' g1 s1 => h4 c'.g .non H' (Gd.glob (c := ⟨cg, []⟩) g1) (VD.non.mpr rfl)
    | rt d m =>
      rw [q] at h4
      cases hn : nl d with
      | false => simp only [fin, hn, Bool.false_eq_true, if_false] at h4
      | true =>
        simp only [fin, hn, if_true] at h4
        exact fun c' v H' g1 hv => h4 c'.g v H' (Gd.glob (c := ⟨cg, []⟩) g1) (VD.nl d hv hn)
    | exc x ρ m =>
      rw [q] at h4
      cases hn : nls (x.fs.map (·.2)) with
      | false => simp only [fin, hn, Bool.false_eq_true, if_false] at h4
      | true =>
        simp only [fin, hn, if_true] at h4
        intro c' σ' cls dd H' g1 s1 hx
        refine h4 c'.g cls dd H' (Gd.glob (c := ⟨cg, []⟩) g1) ?_
        obtain ⟨C, e1, e2, e3⟩ := hx
        refine ⟨C, e1, e2, e3.imp (fun z => z) ?_⟩
        rintro ⟨dx, vs, q1, q2, q3, q4⟩
        exact ⟨dx, vs, q1, q2, q3, VDs.nl _ q4 hn⟩
    | bk ρ m => rw [q] at h4; exact h4.elim
    | ct ρ m => rw [q] at h4; exact h4.elim
    | stuck => rw [q] at h4; exact h4.elim)
  refine wpAny_mono (run.go [] s1 J0) (fun fl s' out => ?_) fun _ _ z => z
  cases fl with
  | next => obtain ⟨_, H', J, z⟩ := out; exact ⟨.non, H', J.os, J.bare, J.base, J.hok, rfl, z⟩
  | ret u => obtain ⟨v, _, H', J, rv, z⟩ := out; exact ⟨v, H', J.os, J.bare, J.base, J.hok, rv, z⟩
  | brk => obtain ⟨_, _, _, z⟩ := out; exact z.elim
  | cont => obtain ⟨_, _, _, z⟩ := out; exact z.elim
end
/-! ### keywords -/
def WK (X : Cx) (kws : List Keyword) (σ : St) (H : Hp) (Q : List V → Hp → Prop) : Prop := ∀ (pos : Pos) (pins : List (Addr × Obj)) (s : Shared), Inv X pins σ H s → wpAny (model X.prog X.w) X.A (evalAll ((backToKw pos (keywordEach kws X.env)).map (·.2))) (AP X pins σ Q) X.xe s
def DK (X : Cx) (W : WX) (kws : List Keyword) (f : FI) : Prop := ∀ (c : Anc) (ρ : Rho) (m : Store) (σ : St) (H : Hp) (Q : List V → Hp → Prop), RelS X.kw c m H → Slo X.kw H c ρ σ → WantL X W c H σ (f ρ m) Q → WK X kws σ H Q
/-- how the values come to the parameters: by data -/
structure Arr (n k : Nat) (gV : List V → List V → List V) (gD : List D → List D → List D) : Prop where
  vd : ∀ {K : KW} {H : Hp} {c : Anc} {vs zs : List V} {ds es : List D}, VDs K H c vs ds → VDs K H c zs es → ds.length = n → es.length = k → VDs K H c (gV vs zs) (gD ds es)
def makeR (C : Str) (den : Den) (args : D → List D) (m : Store) : Res D := if nls (args (.cell (.g m.g.length))) then (match den (args (.cell (.g m.g.length))) (m.g ++ [.ins C []]) with
  | .ok (.p .none) g' => frzR (.ok (.cell (.g m.g.length)) ⟨g', m.l⟩)
  | .ok _ _ => .stuck
  | .exc x g' => .exc x ⟨g', m.l⟩
  | .stuck => .stuck) else .stuck
def makeE (C : Str) (den : Den) (n k : Nat) (gD : List D → List D → List D) (fl fk : FI) : FE := fun ρ m => (fl ρ m).bind fun ds m1 => (fk ρ m1).bind fun es m2 => if ds.length = n ∧ es.length = k then makeR C den (fun s => gD (s :: ds) es) m2 else .stuck
section
variable {X : Cx} {W : WX} {a b e o : Expr} {es rest : List Expr} {fa fb f fo : FE} {fl fk : FI} {pos pos' apos cpos p p1 p2 kpos : Pos} {c : Anc} {ρ : Rho} {m : Store} {σ : St} {H : Hp} {name x C : Str} {Ca fI : Addr} {k n np : Nat} {fd : FuncData} {ps ks : List Str} {kws : List Keyword} {nm : Option Str} {den : Den} {g : List Value → List Value → List Value} {gV : List V → List V → List V} {gD : List D → List D → List D}
theorem dk_nil : DK X W [] nilA := fun c ρ m σ H Q r s w pos pins st I => wpAny_evalAll_nil ⟨[], H, I, .nil, w c [] H (Gd.refl r) (by unfold VDs; rfl)⟩
theorem DE.thenK {kk : D → Store → Res (List D)} {Q : VK} {Q' : List V → Hp → Prop} (h : DE X W a fa) (r : RelS X.kw c m H) (s : Slo X.kw H c ρ σ) (hb : WantL X W c H σ ((fa ρ m).bind kk) Q')
    (q : ∀ d m1 c1 v H1, RelS X.kw c1 m1 H1 → Slo X.kw H1 c1 ρ σ → Gd X.kw c c1 m1 H H1 → VD X.kw H1 c1 v d → WantL X W c1 H1 σ (kk d m1) Q' → Q v H1) : WE X a σ H Q := h.thenL r s hb q
theorem dk_cons (ha : DE X W e f) (hr : DK X W kws fk) : DK X W (⟨nm, e, kpos⟩ :: kws) (consA f fk) := fun c ρ m σ H Q r s w pos pins st I => by
  show wpAny _ _ (evalAll ((do let v ← eval e X.env; standAt pos; pure v) :: (backToKw pos (keywordEach kws X.env)).map (·.2))) _ _ st
  refine wpAny_evalAll_cons (wpAny_bind (thn ((ha.thenL (Q := fun v H1 => WK X kws σ H1 fun vs H2 => Q (v :: vs) H2) r s w (fun d m1 c1 v H1 r1 s1 g1 h1 w1 => ?_)).go pins st I) ?_))
  · refine hr c1 ρ m1 σ H1 _ r1 s1 ?_
    cases q : fk ρ m1 with
    | stuck => rw [q] at w1; exact w1
    | exc x m2 => rw [q] at w1; exact w1
    | ok ds m2 =>
      rw [q] at w1
      exact fun c2 vs H2 g2 h2 => w1 c2 _ H2 g2 (by unfold VDs; exact ⟨v, vs, rfl, g2.vd h1, h2⟩)
  · rintro u s1 ⟨v, H1, I1, ru, q⟩
    refine wpAny_bind (wpAny_standAt (wpAny_pure (thn (q pos pins s1 I1) ?_)))
    rintro us s2 ⟨vs, H2, I2, r2, q2⟩
    exact ⟨v :: vs, H2, I2, .cons ru r2, q2⟩
theorem guards_make {A : Around} {C : Addr} {us : List Value} {kw : List (Str × Value)} (h : A.guards = some []) : (A.under (.builtin "type.__call__" ⟨.ref C :: us, kw⟩)).guards = some [] := by
  first
    | exact h
    | simpa [Around.under, Code.weight, Code.isCreation, Code.isGuard, Code.isCaller, Code.frames, Code.isFrame, guardIds] using h
theorem run_makeG {pins : List (Addr × Obj)} {s : Shared} {Q : VK} {us ws : List Value} {vs zs : List V} {sp : Sp} (M : Mk X.K Ca fI) (F : FnG X.prog X.w X.K X.mg X.base k fI fd ps sp) (hG : X.A.guards = some []) (hr : Room (k + 1) X.A) (hb : KBn X.K fd ps (n + 1) ks g gV) (tk : Takes X W)
    (I : Inv X pins σ H s) (r : Vals vs us) (rz : Vals zs ws) (l1 : vs.length = n) (l2 : zs.length = ks.length)
    (h : ∀ x dx, H x = none → H dx = none → dx ≠ x → sp (gV (.ref x :: vs) zs) (upd (upd H dx (.own x)) x (.ins Ca dx [])) (fun v H2 => v = .non ∧ Q (.ref x) H2) (L2.WE W σ)) :
    wpAny (model X.prog X.w) X.A (call (.ref Ca) us (ks.zip ws)) (EP X pins σ Q) X.xe s := by
  have hq := h (s.heap.objs.size + 1) s.heap.objs.size (I.hok.fresh (Nat.le_succ _)) (I.hok.fresh (Nat.le_refl _)) (Nat.ne_of_lt (Nat.lt_succ_self _))
  have J := Inv.made (C := Ca) I
  have r1 : Vals (V.ref (s.heap.objs.size + 1) :: vs) (Value.ref (s.heap.objs.size + 1) :: us) := .cons rfl r
  have r2 := hb.rel r1 rz
  have n1 : (Value.ref (s.heap.objs.size + 1) :: us).length = n + 1 := by rw [List.length_cons, ← r.length, l1]
  refine wpAny_call (make_map (f := fI) I.kIn M.makes M.init (beq_iff_eq.mp M.fn) (codeAny_mono (F.go _ X.stack _ _ ⟨Value.ref (s.heap.objs.size + 1) :: us, ks.zip ws⟩ (g (Value.ref (s.heap.objs.size + 1) :: us) ws) _ _ (L2.WE W σ) (guards_make hG) (hr.make Ca us (ks.zip ws))
    (J.env0.make Ca us (ks.zip ws)) (hb.to _ (Value.ref (s.heap.objs.size + 1) :: us) ws J.kIn n1 (rz.length.symm.trans l2)) r2 hq) fun out s' q => ?_))
  match out, q with
  | .error e, q => exact passAt tk σ pins _ _ e s' J q
  | .ok (.ret u), q =>
    obtain ⟨v, H', J3, rv, ev, q3⟩ := J.after q
    subst ev
    exact ⟨rv, ⟨V.ref (s.heap.objs.size + 1), H', J3, rfl, q3⟩⟩
/-- the promise, from what is wanted of the new object -/
theorem makeR_sp {vs zs : List V} {ds es : List D} {Q : VK} (hA : Arr (n + 1) ks.length gV gD) (r : RelS X.kw c m H) (hC : X.mg C = some (.ref Ca)) (hv : VDs X.kw H c vs ds) (hz : VDs X.kw H c zs es) (l1 : ds.length = n) (l2 : es.length = ks.length) (hn : (gD (.cell (.g m.g.length) :: ds) es).length = np) (w : Want X W c H σ (makeR C den (fun s => gD (s :: ds) es) m) Q)
    (y dx : Addr) (hy : H y = none) (hd : H dx = none) (hne : dx ≠ y) : spD X.kw.cold np den (gV (.ref y :: vs) zs) (upd (upd H dx (.own y)) y (.ins Ca dx [])) (fun v H2 => v = .non ∧ QF Q (.ref y) H2) (L2.WE W σ) := by
  have g0 : Gd X.kw c c m H (upd H dx (.own y)) := r.lay hd
  have hy1 : upd H dx (.own y) y = none := by rw [upd_ne (Ne.symm hne)]; exact hy
  have g1 : Gd X.kw c (c.push y false) (m.push (.ins C []) false) (upd H dx (.own y)) (upd (upd H dx (.own y)) y (.ins Ca dx [])) := g0.rel.newC false hy1 ⟨Ca, dx, [], upd_same, hC, rfl, by simp [VDs]⟩
  have gg := g0.trans g1
  have self : VD X.kw (upd (upd H dx (.own y)) y (.ins Ca dx [])) (c.push y false) (.ref y) (.cell (.g m.g.length)) := by
    unfold VD
    refine ⟨y, ?_, rfl⟩
    have := push_next c y false
    rw [next_eq r] at this
    exact this
  have args : VDs X.kw (upd (upd H dx (.own y)) y (.ins Ca dx [])) (c.push y false) (gV (.ref y :: vs) zs) (gD (.cell (.g m.g.length) :: ds) es) := hA.vd (by unfold VDs; exact ⟨_, _, rfl, self, gg.vds hv⟩) (gg.vds hz) (by simp [l1]) l2
  unfold makeR at w
  cases hl : nls (gD (.cell (.g m.g.length) :: ds) es) with
  | false => simp only [hl] at w; exact w.elim
  | true =>
    simp only [hl, if_true] at w
    refine ⟨(c.push y false).g, _, (m.push (.ins C []) false).g, hn, gg.rel.glob.cold, (VDs.nl _ args hl).cold (nxs_of_nls _ hl), ?_⟩
    have em : (m.push (.ins C []) false).g = m.g ++ [.ins C []] := rfl
    rw [em]
    cases q : den (gD (.cell (.g m.g.length) :: ds) es) (m.g ++ [.ins C []]) with
    | stuck => rw [q] at w; exact w.elim
    | exc x g' =>
      rw [q] at w
      intro cg' cls dd H' g2 hx
      have up : Pre ⟨cg', []⟩ ⟨cg', c.l⟩ := ⟨List.prefix_refl _, List.nil_prefix⟩
      have g3 := Gd.back (c := c.push y false) (m := m.push (.ins C []) false) gg.rel g2.warm
      refine w ⟨cg', c.l⟩ cls dd H' (gg.trans g3) ?_
      obtain ⟨Cx, e1, e2, e3⟩ := hx.warm
      refine ⟨Cx, e1, e2, e3.imp (fun z => z) ?_⟩
      rintro ⟨dx, vs, q1, q2, q3, q4⟩
      exact ⟨dx, vs, q1, q2, q3, VDs.mono (Ext.refl _) up _ q4⟩
    | ok d g' =>
      rw [q] at w
      intro cg' v H' g2 hv'
      have g3 := gg.trans (Gd.back (c := c.push y false) (m := m.push (.ins C []) false) gg.rel g2.warm)
      cases d with
      | p d =>
        cases d with
        | none =>
          refine ⟨VD.non.mp hv', ?_⟩
          have w : Want X W c H σ (frzR (.ok (.cell (.g m.g.length)) ⟨g', m.l⟩)) Q := w
          have at_ : (⟨cg', (c.push y false).l⟩ : Anc).at_ (.g m.g.length) = some y := by
            have := push_next c y false
            rw [next_eq r] at this
            exact pre_get (Gd.back (c := c.push y false) (m := m.push (.ins C []) false) gg.rel g2.warm).pre this
          cases q2 : (⟨g', m.l⟩ : Store).at_ (.g m.g.length) with
          | none => simp only [frzR, q2] at w; exact w.elim
          | some xx =>
            cases q3 : frzC xx with
            | none => simp only [frzR, q2, q3] at w; exact w.elim
            | some dd =>
              simp only [frzR, q2, q3] at w
              obtain ⟨u, h3, mu, kk⟩ := frzC_ok g3.rel at_ q2 q3
              exact .inr ⟨y, u, rfl, h3, mu, fun o => w _ _ _ (g3.trans (kk o).1) (kk o).2⟩
        | _ => exact w.elim
      | _ => exact w.elim
theorem de_make (M : Mk X.K Ca fI) (F : FnG X.prog X.w X.K X.mg X.base k fI fd ps (spD X.kw.cold np den)) (hG : X.A.guards = some []) (hr : Room (k + 1) X.A) (hm : X.mg C = some (.ref Ca)) (hb : KBn X.K fd ps (n + 1) ks g gV) (hA : Arr (n + 1) ks.length gV gD) (hnp : ∀ ds es : List D, ds.length = n + 1 → es.length = ks.length → (gD ds es).length = np) (tk : Takes X W) (ha : DA X W (e :: es) fl) (hk : DK X W kws fk)
    (hg : Gl X C := by rfl) (hall : (backToKw pos (keywordEach kws X.env)).all (·.1.isSome) = true := by rfl) (hks : (backToKw pos (keywordEach kws X.env)).filterMap (·.1) = ks := by rfl) (hdb : (C == ("__debug__" : Str)) = false := by decide)
    (he : starEach (e :: es) X.env = (false, eval e X.env) :: starEach es X.env := by rfl) (hpl : ((backTo pos (starEach (e :: es) X.env)).any (·.1) || (backToKw pos (keywordEach kws X.env)).any (·.1.isNone)) = false := by rfl) :
    DE X W (.Call (.Name C p) (e :: es) kws pos) (makeE C den n ks.length gD fl fk) := fun c ρ m σ H Q r s w => WE.frz <| .mk fun pins st I => by
  have ev : WA X (e :: es) σ H (fun vs H1 => WK X kws σ H1 fun zs H2 => vs.length = n ∧ zs.length = ks.length ∧ ∀ y dx, H2 y = none → H2 dx = none → dx ≠ y → spD X.kw.cold np den (gV (.ref y :: vs) zs) (upd (upd H2 dx (.own y)) y (.ins Ca dx [])) (fun v H3 => v = .non ∧ QF Q (.ref y) H3) (L2.WE W σ)) := by
    refine ha.thenE r s w fun ds m1 c1 vs H1 r1 s1 g1 h1 w1 => ?_
    refine hk c1 ρ m1 σ H1 _ r1 s1 ?_
    cases q : fk ρ m1 with
    | stuck => rw [q] at w1; exact w1
    | exc x m2 => rw [q] at w1; exact w1
    | ok es' m2 =>
      rw [q] at w1
      intro c2 zs H2 g2 h2
      have w2 := Want.shift g2 w1
      have w2 : Want X W c2 H2 σ (if ds.length = n ∧ es'.length = ks.length then makeR C den (fun s => gD (s :: ds) es') m2 else .stuck) Q := w2
      by_cases hl : ds.length = n ∧ es'.length = ks.length
      · rw [if_pos hl] at w2
        exact ⟨by rw [h1.length]; exact hl.1, by rw [h2.length]; exact hl.2, makeR_sp hA g2.rel hm (g2.vds h1) h2 hl.1 hl.2 (hnp _ _ (by simp [hl.1]) hl.2) w2⟩
      · rw [if_neg hl] at w2; exact w2.elim
  refine wpAny_Call_Name_kw (ld_glob I hg hm ?_ hdb)
  refine PySem.W.callWith_KW (h₀ := X.base) I.ok.mod.kin M.kp hall (thn (ev.go pos pins st I) ?_) hpl he
  rintro us s1 ⟨vs, H1, I1, r1, q1⟩
  refine thn (q1 pos pins s1 I1) ?_
  rintro ws s2 ⟨zs, H2, I2, r2, l1, l2, q2⟩
  refine ⟨I2.kIn, ?_⟩
  rw [hks]
  exact run_makeG M F hG hr hb tk I2 r1 r2 l1 l2 q2
/-! ### self.f = e -/
def putFD (f : Str) (d : D) : List (Str × D) → List (Str × D)
  | [] => [(f, d)]
  | (g, x) :: r => if g = f then (g, d) :: r else (g, x) :: putFD f d r
theorem putF_rel {K : KW} {f : Str} {v : V} {d : D} (h : VD K H c v d) : ∀ {vs : List (Str × V)} {fs : List (Str × D)}, vs.map (·.1) = fs.map (·.1) → VDs K H c (vs.map (·.2)) (fs.map (·.2)) → (putF f v vs).map (·.1) = (putFD f d fs).map (·.1) ∧ VDs K H c ((putF f v vs).map (·.2)) ((putFD f d fs).map (·.2))
  | [], [], _, _ => ⟨rfl, VDs.one h⟩
  | [], _ :: _, e, _ => by cases e
  | _ :: _, [], e, _ => by cases e
  | (g, x) :: vs, (g', y) :: fs, e, hv => by
    simp only [List.map_cons, List.cons.injEq] at e
    obtain ⟨e1, e2⟩ := e
    simp only [List.map_cons] at hv
    unfold VDs at hv
    obtain ⟨v1, r1, z, h1, h2⟩ := hv
    cases z
    have eg : g = g' := e1
    subst eg
    by_cases hg : g = f
    · simp only [putF, putFD, if_pos hg]
      refine ⟨by simp [e2], ?_⟩
      show VDs K H c (v :: _) (d :: _)
      unfold VDs
      exact ⟨_, _, rfl, h, h2⟩
    · obtain ⟨i1, i2⟩ := putF_rel (f := f) h e2 h2
      simp only [putF, putFD, if_neg hg]
      refine ⟨by simp [i1], ?_⟩
      show VDs K H c (x :: _) (y :: _)
      unfold VDs
      exact ⟨_, _, rfl, h1, i2⟩
def setFD (l : List Str) (f : Str) (o d : D) (m : Store) : Option Store := match o with
  | .cell i => match m.at_ i with
    | some (.ins C fs) => if C ∈ l ∧ fs.length < 1000 ∧ okIn d i = true then some (m.set (.ins C (putFD f d fs)) i) else none
    | _ => none
  | _ => none
def setFS (l : List Str) (f : Str) (fo fe : FE) : FS := fun ρ m => (fe ρ m).bindS ρ fun d m1 => (fo ρ m1).bindS ρ fun o m2 => match setFD l f o d m2 with
  | some m3 => .nx ρ m3
  | none => .stuck
theorem ds_setF {l : List Str} {f : Str} {fe : FE} (hl : ∀ C ∈ l, ∃ Ca, X.mg C = some (.ref Ca) ∧ FldI X.K Ca f) (ho : DE X W o fo) (he : DE X W e fe) (hs : swapsWith e (some (.Attribute o f pos')) pos.line X.env = pure false := by rfl) : DS X W (.Assign [.Attribute o f pos'] e pos) (setFS l f fo fe) := fun c ρ m σ H En r s w => by
  refine wst_of (ps_fld pe_w pe_w hs) (he.thenS r s w fun d m1 c1 v H1 r1 s1 g1 h1 w1 => ho.thenS r1 s1 w1 fun ob m2 c2 vo H2 r2 s2 g2 h2 w2 => ?_)
  cases q : setFD l f ob d m2 with
  | none => simp only [q] at w2; exact w2.elim
  | some m3 =>
    simp only [q] at w2
    unfold setFD at q
    split at q
    · rename_i i
      split at q
      · rename_i C fs hm
        split at q
        · rename_i hc
          cases q
          unfold VD at h2
          obtain ⟨a, ha, rfl⟩ := h2
          obtain ⟨Ca, dx, vs, k1, k2, k3, k4⟩ := r2.at_ i a _ ha hm
          obtain ⟨Cb, j1, T, hno⟩ := hl C hc.1
          have ec : Ca = Cb := by
            have := k2.symm.trans j1
            cases this
            rfl
          subst ec
          have lv : vs.length = fs.length := by have := congrArg List.length k3; simpa using this
          refine ⟨a, Ca, dx, vs, rfl, k1, T.cl, hno, by omega, ?_⟩
          obtain ⟨y1, y2⟩ := putF_rel (f := f) (VD.forI (g2.vd h1) hc.2.2) k3 k4
          have g3 : Gd X.kw c2 c2 (m2.set (.ins C (putFD f d fs)) i) H2 (upd H2 a (.ins Ca dx (putF f v vs))) := r2.putC ha hm (by intro z; cases z) k1 rfl ⟨Ca, dx, _, upd_same, k2, y1, VDs.mono (Ext.putO k1 rfl) (Pre.refl _) _ y2⟩
          exact w2 c2 σ _ g3 (g3.slots s2)
        · cases q
      · cases q
    · cases q
end
end L2.Dn
namespace L2.Dn
open PySem PySem.Spec PyProof.Rows L2
/-! ### the operations as the printer names them -/
theorem fcons {α : Type} {P : α → Prop} {a : α} {l : List α} (h : P a) (t : ∀ x ∈ l, P x) : ∀ x ∈ a :: l, P x := fun x hx => (List.mem_cons.mp hx).elim (fun e => e ▸ h) (t x)
section
variable {X : Cx} {W : WX} {c : Anc} {m : Store} {σ : St} {H : Hp}
theorem IxR.alt {g h : D → D → Store → OD} (a : IxR X (rOf X.kw g)) (b : IxR X (rOf X.kw h)) : IxR X (rOf X.kw (altO g h)) := fun value slice pins s σ H x y v u Q I rx ry w hs =>
  (rOf_alt w).elim (fun w => a value slice pins s σ H x y v u Q I rx ry w hs) (fun w => b value slice pins s σ H x y v u Q I rx ry w hs)
def ixG := altO ixD ixDc
theorem ix_G (hu : X.A.units + 65 < cLine) : IxR X (rOf X.kw ixG) := IxR.alt ix_D (ix_Dc hu)
def setG : SetD := fun o i d m => match setItemD o i d m with
  | some m' => some m'
  | none => setItemDc o i d m
theorem set_G (hu : X.A.units + 65 < cLine) : PSet X (rSetOf X.kw setG) := fun pins s σ H o i v ov iv u Q I ro ri rv ⟨c, m, m', do_, di, dd, r, h1, h2, h3, e, q⟩ => by
  unfold setG at e
  cases q1 : setItemD do_ di dd m with
  | some m2 =>
    rw [q1] at e
    cases e
    exact set_L pins s σ H o i v ov iv u Q I ro ri rv ⟨c, m, _, do_, di, dd, r, h1, h2, h3, q1, q⟩
  | none =>
    rw [q1] at e
    exact set_dict hu pins s σ H o i v ov iv u Q I ro ri rv ⟨c, m, _, do_, di, dd, r, h1, h2, h3, e, q⟩
def inG := altO inD (inDc false)
theorem op_inG (hu : X.A.units + 65 < cLine) : OpR X (compareOp .In) (rOf X.kw inG) := OpR.alt (op_inD' hu) (op_inDc hu)
def notInG := altO notInD (inDc true)
theorem op_notInG (hu : X.A.units + 65 < cLine) : OpR X (compareOp .NotIn) (rOf X.kw notInG) := OpR.alt (op_notInD' hu) (op_notInDc hu)
def isNo : D → Bool
  | .p .none => true
  | _ => false
theorem isNo_ok {K : KW} {v : V} {d : D} (h : VD K H c v d) : decide (v = .non) = isNo d := by
  cases d with
  | p d =>
    unfold VD at h
    cases h with
    | non => simp [isNo]
    | _ => simp [isNo]
  | cell i => unfold VD at h; obtain ⟨a, _, rfl⟩ := h; simp [isNo]
  | tup xs => unfold VD at h; obtain ⟨a, _, rfl, _⟩ := h; simp [isNo]
  | lst xs => unfold VD at h; obtain ⟨a, _, rfl, _⟩ := h; simp [isNo]
  | dct ks xs => unfold VD at h; obtain ⟨a, _, _, rfl, _⟩ := h; simp [isNo]
  | obj C ns xs => unfold VD at h; obtain ⟨a, _, _, _, _, rfl, _⟩ := h; simp [isNo]
  | exn C ns xs => unfold VD at h; obtain ⟨a, _, _, _, _, _, rfl, _⟩ := h; simp [isNo]
  | fn x => unfold VD at h; obtain ⟨a, _, rfl⟩ := h; simp [isNo]
  | ty n => unfold VD at h; subst h; simp [isNo]
def isG (neg : Bool) (x y : D) (m : Store) : OD := match y with
  | .p .none => some (.p (.bool (if neg then !isNo x else isNo x)), m)
  | _ => none
theorem op_isG : OpR X (compareOp .Is) (rOf X.kw (isG false)) := fun pins s σ H x y v u Q I rx ry h => by
  obtain ⟨c, m, dx, dy, r, h1, h2, w⟩ := h
  unfold isG at w
  split at w
  · exact op_isN pins s σ H x y v u Q I rx ry ⟨VD.non.mp h2, by rw [isNo_ok h1]; exact w.now r (VD.bl.mpr rfl)⟩
  · exact w.elim
theorem op_isNotG : OpR X (compareOp .IsNot) (rOf X.kw (isG true)) := fun pins s σ H x y v u Q I rx ry h => by
  obtain ⟨c, m, dx, dy, r, h1, h2, w⟩ := h
  unfold isG at w
  split at w
  · exact op_notN pins s σ H x y v u Q I rx ry ⟨VD.non.mp h2, by rw [isNo_ok h1]; exact w.now r (VD.bl.mpr rfl)⟩
  · exact w.elim
/-- xs * n, xs a list of the def's own -/
def mulL (z : Md) (x y : D) (m : Store) : OD := match x, y with
  | .cell i, .p (.int n) => match m.at_ i with
    | some (.lst xs) => if -(2 ^ 63) ≤ n ∧ n < 2 ^ 63 ∧ xs.length * n.toNat ≤ sizeLine then newO z (List.replicate n.toNat xs).flatten m else none
    | _ => none
  | _, _ => none
theorem VDs.flat {K : KW} {vs : List V} {ds : List D} (h : VDs K H c vs ds) : ∀ n : Nat, VDs K H c (List.replicate n vs).flatten (List.replicate n ds).flatten
  | 0 => by simp [VDs]
  | n + 1 => by
    rw [List.replicate_succ, List.replicate_succ, List.flatten_cons, List.flatten_cons]
    exact h.append (VDs.flat h n)
theorem op_mulL (z : Md) : OpR X (binaryOp .Mult) (rOf X.kw (mulL z)) := by
  refine OpR.by_ op_rep fun x y H Q w => ?_
  obtain ⟨c, m, dx, dy, r, h1, h2, w⟩ := w
  unfold mulL at w
  split at w
  · rename_i i n
    split at w
    · rename_i xs hm
      split at w
      · rename_i hn
        unfold VD at h1
        obtain ⟨a, ha, rfl⟩ := h1
        obtain ⟨vs, k1, k2⟩ := r.at_ i a _ ha hm
        have k3 := VDs.mono (Ext.refl _) (forI_le _ _) _ k2.warm
        exact ⟨a, n, vs, rfl, VD.int.mp h2, k1, hn.1, hn.2.1, by rw [k3.length]; exact hn.2.2, newO_ok r (k3.flat _) w⟩
      · exact w.elim
    · exact w.elim
  · exact w.elim
def mulG (z : Md) := altO mulD (mulL z)
theorem op_mulG (z : Md) : OpR X (binaryOp .Mult) (rOf X.kw (mulG z)) := OpR.alt op_mulD (op_mulL z)
/-! ### displays of many or deep parts: only the head sign of each part is looked at -/
def nst : Expr → Bool
  | .Starred .. => false
  | _ => true
theorem star_of {e : Expr} {es : List Expr} {env : Env} (h : nst e = true) : starEach (e :: es) env = (false, eval e env) :: starEach es env := by
  cases e <;> first | (exact Bool.noConfusion h) | (unfold starEach; rfl) | (rw [starEach]; intro _ _ hh; exact Expr.noConfusion hh)
theorem da_consN {e : Expr} {es : List Expr} {f : FE} {g : Rho → Store → Res (List D)} (ha : DE X W e f) (hr : DA X W es g) (hs : nst e = true := by rfl) : DA X W (e :: es) (consA f g) := da_cons ha hr (star_of hs)
end
end L2.Dn
namespace L2.Dn
open PySem PySem.Spec PyProof.Rows L2
/-! ### methods and properties of own instances -/
/-- the class and the fields' names -/
def insN (d : D) (m : Store) : Option (Str × List Str) := match d with
  | .obj C ns _ => some (C, ns)
  | .cell i => match m.at_ i with
    | some (.ins C fs) => some (C, fs.map (·.1))
    | _ => none
  | _ => none
/-- which denotation serves: by the class, if no field hides the name -/
def metOf (l : List (Str × Den)) (f : Str) (d : D) (m : Store) : Option Den := match insN d m with
  | some (C, ns) => if f ∈ ns then none else l.lookup C
  | none => none
def methE (l : List (Str × Den)) (f : Str) (fo : FE) (fl : FI) : FE := fun ρ m => (fo ρ m).bind fun d m1 => match metOf l f d m1 with
  | some den => (fl ρ m1).bind fun ds m2 => callR den (d :: ds) m2
  | none => .stuck
/-- the method f of a class, n parameters with self -/
def MetT (X : Cx) (f : Str) (n : Nat) (q : Str × Den) : Prop := ∃ (Ca g : Addr) (fd : FuncData) (ps : List Str) (k : Nat), X.mg q.1 = some (.ref Ca) ∧ Cls X.K Ca ∧ Meth X.K Ca f g ∧ FnG X.prog X.w X.K X.mg X.base k g fd ps (spD X.kw.cold n q.2) ∧ Room k X.A ∧ Binds X.K fd ps []
section
variable {X : Cx} {W : WX} {a b e o : Expr} {es rest : List Expr} {fa fb fo : FE} {fl : FI} {pos apos cpos p : Pos} {c : Anc} {ρ : Rho} {m : Store} {σ : St} {H : Hp} {f : Str} {l : List (Str × Den)} {n : Nat}
theorem insN_rd {v : V} {d : D} {C : Str} {ns : List Str} (r : RelS X.kw c m H) (hv : VD X.kw H c v d) (e : insN d m = some (C, ns)) : ∃ (a Ca dx : Addr) (fs : List (Str × V)), v = .ref a ∧ X.mg C = some (.ref Ca) ∧ Rd H a (.ins Ca dx fs) ∧ fs.map (·.1) = ns := by
  unfold insN at e
  split at e
  · cases e
    unfold VD at hv
    obtain ⟨a, ob, Ca, dx, fs, rfl, h2, h3, h4, h5⟩ := hv
    exact ⟨a, Ca, dx, fs, rfl, h2, .inr ⟨ob, h3⟩, h4⟩
  · rename_i i
    split at e
    · rename_i C' fs hm
      cases e
      unfold VD at hv
      obtain ⟨a, ha, rfl⟩ := hv
      obtain ⟨Ca, dx, vs, g1, g2, g3, g4⟩ := r.at_ i a _ ha hm
      exact ⟨a, Ca, dx, vs, rfl, g2, .inl g1, g3⟩
    · cases e
  · cases e
theorem lookup_none {f : Str} : ∀ {fs : List (Str × V)}, f ∉ fs.map (·.1) → fs.lookup f = none
  | [], _ => rfl
  | q :: fs, h => by
    have h1 : (f == q.1) = false := beq_eq_false_iff_ne.mpr fun z => h (by rw [List.map_cons, z]; exact List.mem_cons_self ..)
    show List.lookup f ((q.1, q.2) :: fs) = none
    rw [List.lookup_cons, h1]
    exact lookup_none fun z => h (List.mem_cons_of_mem _ z)
theorem lookup_memA {α : Type} {f : Str} {d : α} : ∀ {l : List (Str × α)}, l.lookup f = some d → (f, d) ∈ l
  | q :: l, h => by
    have h : List.lookup f ((q.1, q.2) :: l) = some d := h
    rw [List.lookup_cons] at h
    cases z : f == q.1 with
    | true =>
      rw [z] at h
      cases h
      rw [eq_of_beq z]
      exact List.mem_cons_self ..
    | false =>
      rw [z] at h
      exact List.mem_cons_of_mem _ (lookup_memA h)
theorem met_at {v : V} {d : D} {den : Den} (hl : ∀ q ∈ l, MetT X f n q) (r : RelS X.kw c m H) (hv : VD X.kw H c v d) (e : metOf l f d m = some den) : ∃ (a Ca dx : Addr) (fs : List (Str × V)) (g : Addr) (fd : FuncData) (ps : List Str) (k : Nat), v = .ref a ∧ Rd H a (.ins Ca dx fs) ∧ fs.lookup f = none ∧
    Cls X.K Ca ∧ Meth X.K Ca f g ∧ FnG X.prog X.w X.K X.mg X.base k g fd ps (spD X.kw.cold n den) ∧ Room k X.A ∧ Binds X.K fd ps [] := by
  unfold metOf at e
  split at e
  · rename_i C ns hi
    split at e
    · cases e
    · rename_i hf
      obtain ⟨a, Ca, dx, fs, rfl, h1, h2, h3⟩ := insN_rd r hv hi
      obtain ⟨Cb, g, fd, ps, k, k1, k2, k3, k4, k5, k6⟩ := hl (C, den) (lookup_memA e)
      have := h1.symm.trans k1
      cases this
      exact ⟨a, Ca, dx, fs, g, fd, ps, k, rfl, h2, lookup_none (by rw [h3]; exact hf), k2, k3, k4, k5, k6⟩
  · cases e
theorem getmeth_rd {pins : List (Addr × Obj)} {s : Shared} {a C dx g : Addr} {fs : List (Str × V)} {pl : Sem Bool} {A : Around} {E : Value → Shared → Prop} {Q : Value × List Value → Shared → Prop} (I : Inv X pins σ H s) (e : Rd H a (.ins C dx fs)) (c : Cls X.K C) (k : Meth X.K C f g) (l : fs.lookup f = none)
    (h : Q (.ref g, [.ref a]) s) : wpAny (model X.prog X.w) A (getMethod (.ref a) f pl) Q E s := by
  obtain ⟨mA, O, r, _⟩ := ins_rd I.hok e
  have hn : mA f = none := RelO.none_of (by rw [← l]; exact r f)
  exact get_meth I.kIn O (c.get f) k.at_ k.fn hn h
/-- o.f(a, ..) -/
theorem de_meth {pl : Sem Bool} (hG : X.A.guards = some []) (hl : ∀ q ∈ l, MetT X f (n + 1) q) (tk : Takes X W) (ho : DE X W o fo) (ha : DA X W (e :: es) fl) (hn : lenA n fl)
    (hst : starEach (e :: es) X.env = (false, eval e X.env) :: starEach es X.env := by rfl) (hpl : (backTo pos (starEach es X.env)).any (·.1) = false := by rfl)
    (ht : eval (.Call (.Attribute o f apos) (e :: es) [] pos) X.env = (do
      let ov ← eval o X.env
      standAt apos.atName
      let (f, first) ← holding [ov] (getMethod ov f pl)
      callWith pos f first (backTo pos (starEach (e :: es) X.env)) (backToKw pos (keywordEach [] X.env))) := by rfl) :
    DE X W (.Call (.Attribute o f apos) (e :: es) [] pos) (methE l f fo fl) := fun c ρ m σ H Q r s w => .mk fun pins st I => by
  have ev : WE X o σ H (fun v H1 => ∃ (a Ca dx : Addr) (fs : List (Str × V)) (g : Addr) (fd : FuncData) (ps : List Str) (k : Nat) (den : Den), v = .ref a ∧ Rd H1 a (.ins Ca dx fs) ∧ fs.lookup f = none ∧ Cls X.K Ca ∧ Meth X.K Ca f g ∧ FnG X.prog X.w X.K X.mg X.base k g fd ps (spD X.kw.cold (n + 1) den) ∧ Room k X.A ∧ Binds X.K fd ps [] ∧
      WA X (e :: es) σ H1 fun vs H2 => spD X.kw.cold (n + 1) den (.ref a :: vs) H2 Q (L2.WE W σ)) := by
    refine ho.thenE r s w fun d m1 c1 v H1 r1 s1 g1 h1 w1 => ?_
    cases q : metOf l f d m1 with
    | none => rw [q] at w1; exact w1.elim
    | some den =>
      rw [q] at w1
      dsimp only at w1
      obtain ⟨a, Ca, dx, fs, g, fd, ps, k, rfl, k1, k2, k3, k4, k5, k6, k7⟩ := met_at hl r1 h1 q
      refine ⟨a, Ca, dx, fs, g, fd, ps, k, den, rfl, k1, k2, k3, k4, k5, k6, k7, ?_⟩
      refine ha c1 ρ m1 σ H1 _ r1 s1 ?_
      cases q2 : fl ρ m1 with
      | ok ds m2 =>
        rw [q2] at w1
        intro c2 vs H2 g2 hv
        exact callR_sp (ds := d :: ds) g2.rel (by unfold VDs; exact ⟨_, _, rfl, g2.vd h1, hv⟩) (by simp [hn _ _ _ _ q2]) (Want.shift g2 w1)
      | exc x m2 => rw [q2] at w1; exact w1
      | stuck => rw [q2] at w1; exact w1
  refine PySem.W.methodCall_KW (pl := pl) (thn (ev.go pins st I) ?_) ht
  rintro u s1 ⟨x, H1, I1, rx, a, Ca, dx, fs, g, fd, ps, k, den, rfl, k1, k2, k3, k4, k5, k6, k7, q⟩
  obtain rfl : u = Value.ref a := rx
  refine getmeth_rd I1 k1 k3 k4 k2 ?_
  refine PySem.W.callWith_K (first := [.ref a]) (h₀ := X.base) I.ok.mod.kin k4.kp (thn (q.go pos pins s1 I1) fun us s2 ⟨vs, H2, I2, r2, q2⟩ => ⟨I2.kIn, ?_⟩) hst hpl
  exact run_g (us := .ref a :: us) (vs := .ref a :: vs) k5 hG k6 k7 tk I2 (.cons rfl r2) q2
/-- o.f() -/
theorem de_meth0 {pl : Sem Bool} (hG : X.A.guards = some []) (hl : ∀ q ∈ l, MetT X f 1 q) (tk : Takes X W) (ho : DE X W o fo)
    (ht : eval (.Call (.Attribute o f apos) [] [] pos) X.env = (do
      let ov ← eval o X.env
      standAt apos.atName
      let (f, first) ← holding [ov] (getMethod ov f pl)
      callWith pos f first (backTo pos (starEach [] X.env)) (backToKw pos (keywordEach [] X.env))) := by rfl) :
    DE X W (.Call (.Attribute o f apos) [] [] pos) (methE l f fo nilA) := fun c ρ m σ H Q r s w => .mk fun pins st I => by
  have ev : WE X o σ H (fun v H1 => ∃ (a Ca dx : Addr) (fs : List (Str × V)) (g : Addr) (fd : FuncData) (ps : List Str) (k : Nat) (den : Den), v = .ref a ∧ Rd H1 a (.ins Ca dx fs) ∧ fs.lookup f = none ∧ Cls X.K Ca ∧ Meth X.K Ca f g ∧ FnG X.prog X.w X.K X.mg X.base k g fd ps (spD X.kw.cold 1 den) ∧ Room k X.A ∧ Binds X.K fd ps [] ∧
      spD X.kw.cold 1 den [.ref a] H1 Q (L2.WE W σ)) := by
    refine ho.thenE r s w fun d m1 c1 v H1 r1 s1 g1 h1 w1 => ?_
    cases q : metOf l f d m1 with
    | none => rw [q] at w1; exact w1.elim
    | some den =>
      rw [q] at w1
      obtain ⟨a, Ca, dx, fs, g, fd, ps, k, rfl, k1, k2, k3, k4, k5, k6, k7⟩ := met_at hl r1 h1 q
      exact ⟨a, Ca, dx, fs, g, fd, ps, k, den, rfl, k1, k2, k3, k4, k5, k6, k7, callR_sp (ds := [d]) r1 (VDs.one h1) rfl w1⟩
  refine PySem.W.methodCall_KW (pl := pl) (thn (ev.go pins st I) ?_) ht
  rintro u s1 ⟨x, H1, I1, rx, a, Ca, dx, fs, g, fd, ps, k, den, rfl, k1, k2, k3, k4, k5, k6, k7, q⟩
  obtain rfl : u = Value.ref a := rx
  refine getmeth_rd I1 k1 k3 k4 k2 ?_
  exact PySem.W.callWith_K0 (first := [.ref a]) I1.kIn k4.kp (run_g (us := [.ref a]) (vs := [.ref a]) k5 hG k6 k7 tk I1 (.cons rfl .nil) q)
/-! ### what is never reached -/
def stuckE : FE := fun _ _ => .stuck
theorem de_stuck {e : Expr} : DE X W e stuckE := fun c ρ m σ H Q r s w => w.elim
def stuckT : Rho → Store → Res Bool := fun _ _ => .stuck
theorem dt_stuck {e : Expr} : DT X W e stuckT := fun c ρ m σ H Q r s w => w.elim
def stuckS : FS := fun _ _ => .stuck
theorem ds_stuck {st : Stmt} : DS X W st stuckS := fun c ρ m σ H En r s w => w.elim
theorem dss_stuck {sts : List Stmt} : DSs X W sts stuckS := fun c ρ m σ H En r s w => w.elim
def stuckA : FI := fun _ _ => .stuck
theorem da_stuck {es : List Expr} : DA X W es stuckA := fun c ρ m σ H Q r s w => w.elim
theorem di_stuck {tg it : Expr} : DI X W tg it stuckA := fun c ρ m σ H R r s w => w.elim
/-! ### a def in a variable -/
/-- the def g, n parameters -/
def FnT (X : Cx) (n : Nat) (q : Str × Den) : Prop := ∃ (g : Addr) (fd : FuncData) (ps : List Str) (k : Nat), X.mg q.1 = some (.ref g) ∧ PySem.W.keepIn X.K (.ref g) = true ∧ FnG X.prog X.w X.K X.mg X.base k g fd ps (spD X.kw.cold n q.2) ∧ Room k X.A ∧ Binds X.K fd ps []
def fnOfD (l : List (Str × Den)) : D → Option Den
  | .fn x => l.lookup x
  | _ => none
def callV (l : List (Str × Den)) (fo : FE) (fl : FI) : FE := fun ρ m => (fo ρ m).bind fun d m1 => match fnOfD l d with
  | some den => (fl ρ m1).bind fun ds m2 => callR den ds m2
  | none => .stuck
theorem de_callV {x : Str} (hG : X.A.guards = some []) (hl : ∀ q ∈ l, FnT X n q) (tk : Takes X W) (ho : DE X W (.Name x p) fo) (ha : DA X W (e :: es) fl) (hn : lenA n fl)
    (he : starEach (e :: es) X.env = (false, eval e X.env) :: starEach es X.env := by rfl) (hpl : (backTo pos (starEach es X.env)).any (·.1) = false := by rfl) :
    DE X W (.Call (.Name x p) (e :: es) [] pos) (callV l fo fl) := fun c ρ m σ H Q r s w => .mk fun pins st I => by
  have ev : WE X (.Name x p) σ H (fun v H1 => ∃ (g : Addr) (fd : FuncData) (ps : List Str) (k : Nat) (den : Den), v = .ref g ∧ PySem.W.keepIn X.K (.ref g) = true ∧ FnG X.prog X.w X.K X.mg X.base k g fd ps (spD X.kw.cold n den) ∧ Room k X.A ∧ Binds X.K fd ps [] ∧
      WA X (e :: es) σ H1 fun vs H2 => spD X.kw.cold n den vs H2 Q (L2.WE W σ)) := by
    refine ho.thenE r s w fun d m1 c1 v H1 r1 s1 g1 h1 w1 => ?_
    cases q : fnOfD l d with
    | none => rw [q] at w1; exact w1.elim
    | some den =>
      rw [q] at w1
      unfold fnOfD at q
      split at q
      · rename_i y
        obtain ⟨g, fd, ps, k, k1, k2, k3, k4, k5⟩ := hl (y, den) (lookup_memA q)
        unfold VD at h1
        obtain ⟨a, h2, rfl⟩ := h1
        have := h2.symm.trans k1
        cases this
        refine ⟨g, fd, ps, k, den, rfl, k2, k3, k4, k5, ?_⟩
        refine ha c1 ρ m1 σ H1 _ r1 s1 ?_
        cases q2 : fl ρ m1 with
        | ok ds m2 =>
          rw [q2] at w1
          intro c2 vs H2 g2 hv
          exact callR_sp g2.rel hv (hn _ _ _ _ q2) (Want.shift g2 w1)
        | exc x m2 => rw [q2] at w1; exact w1
        | stuck => rw [q2] at w1; exact w1
      · cases q
  refine wpAny_Call_Name_kw (thn (ev.go pins st I) ?_)
  rintro u s1 ⟨x, H1, I1, rx, g, fd, ps, k, den, rfl, k1, k2, k3, k4, q⟩
  obtain rfl : u = Value.ref g := rx
  refine PySem.W.callWith_K (h₀ := X.base) I.ok.mod.kin k1 (thn (q.go pos pins s1 I1) fun us s2 ⟨vs, H2, I2, r2, q2⟩ => ⟨I2.kIn, ?_⟩) he hpl
  exact run_g k2 hG k3 k4 tk I2 r2 q2
end
end L2.Dn
namespace L2.Dn
open PySem PySem.Spec PyProof.Rows L2
/-! ### properties of own instances -/
def ProT (X : Cx) (f : Str) (q : Str × Den) : Prop := ∃ (Ca p g : Addr) (fd : FuncData) (ps : List Str) (k : Nat), X.mg q.1 = some (.ref Ca) ∧ Cls X.K Ca ∧ PropOf X.K Ca f p g ∧ FnG X.prog X.w X.K X.mg X.base k g fd ps (spD X.kw.cold 1 q.2) ∧ Room (k + 1) X.A ∧ Binds X.K fd ps []
def proOf (l : List (Str × Den)) (d : D) (m : Store) : Option Den := match insN d m with
  | some (C, _) => l.lookup C
  | none => none
/-- o.f, a property: its getter lets nothing out -/
def propE (l : List (Str × Den)) (fo : FE) : FE := fun ρ m => (fo ρ m).bind fun d m1 => match proOf l d m1 with
  | some den => noX (callR den [d] m1)
  | none => .stuck
section
variable {X : Cx} {W : WX} {a b e o : Expr} {es rest : List Expr} {fa fb fo : FE} {fl : FI} {pos apos cpos p : Pos} {c : Anc} {ρ : Rho} {m : Store} {σ : St} {H : Hp} {f : Str} {l : List (Str × Den)} {n : Nat}
theorem getprop_g {pins : List (Addr × Obj)} {s : Shared} {Q : VK} {bb : Bool} {E' : Value → Shared → Prop} {a C dx pr g : Addr} {fs : List (Str × V)} {k : Nat} {fd : FuncData} {ps : List Str} {sp : Sp} (I : Inv X pins σ H s) (ea : Rd H a (.ins C dx fs)) (c : Cls X.K C) (hp : PropOf X.K C f pr g)
    (F : FnG X.prog X.w X.K X.mg X.base k g fd ps sp) (hG : X.A.guards = some []) (hr : Room (k + 1) X.A) (hb : Binds X.K fd ps []) (h : sp [.ref a] H Q (L2.WE Wno σ)) : wpAny (model X.prog X.w) X.A (getAttr (.ref a) f bb) (EP X pins σ Q) E' s := by
  obtain ⟨mA, O, _, _⟩ := ins_rd I.hok ea
  obtain ⟨od, J, _⟩ := O.look
  obtain ⟨rest, hrec⟩ := hp.rec_
  have I1 := I.tok (s.toks + 1)
  have hl : [Value.ref a].length = ps.length := F.len _ _ _ _ h
  have hc : (PySem.W.clsIn X.K C).isSome = true := by
    obtain ⟨cd, hc, _⟩ := PySem.W.any_some c.hd
    rw [hc]
    rfl
  have bd := hb { s with toks := s.toks + 1 } [.ref a] I1.kIn (by rw [List.append_nil]; exact hl)
  rw [List.append_nil] at bd
  refine PySem.W.get_bind I.kIn J (PySem.W.plainGet_of (c.get f)).1 (PySem.W.findObj_data hc hp.at_ hp.get hp.tak) (PySem.W.plainGet_of (c.get f)).2 (wpAny_call (PySem.W.prop_get (s := { s with toks := s.toks + 1 }) I.kIn hrec ?_))
  refine codeAny_mono (F.go X.A.in1 X.stack { s with toks := s.toks + 1 } H ⟨[.ref a], []⟩ [.ref a] [.ref a] Q (L2.WE Wno σ) hG hr.in1 I1.env0.in1 bd (.cons rfl .nil) h) fun out s' hq => ?_
  cases out with
  | error er =>
    obtain ⟨_, _, _, _, _, _, _, _, _, _, _, _, z⟩ := hq
    exact z.elim
  | ok w =>
    cases w with
    | ret u =>
      obtain ⟨v, H', I3, rv, q3⟩ := I1.after hq
      show wpAny _ _ (handedOut u) _ _ _
      rw [PySem.W.handedOut_of (handed_of rv)]
      exact wpAny_pure ⟨v, H', I3, rv, q3⟩
    | next => exact False.elim hq
    | brk => exact False.elim hq
    | cont => exact False.elim hq
theorem want_noX {r : Res D} {Q : VK} (h : Want X W c H σ (noX r) Q) : Want X Wno c H σ r Q := by
  cases r with
  | ok => exact h
  | exc => exact h.elim
  | stuck => exact h
theorem de_prop (hG : X.A.guards = some []) (hl : ∀ q ∈ l, ProT X f q) (ho : DE X W o fo) (hb : attributeBase o f X.env (eval o X.env) = eval o X.env := by rfl) : DE X W (.Attribute o f pos) (propE l fo) := fun c ρ m σ H Q r s w => .mk fun pins st I => by
  have ev : WE X o σ H (fun v H1 => ∃ (a Ca dx pr g : Addr) (fs : List (Str × V)) (fd : FuncData) (ps : List Str) (k : Nat) (den : Den), v = .ref a ∧ Rd H1 a (.ins Ca dx fs) ∧ Cls X.K Ca ∧ PropOf X.K Ca f pr g ∧ FnG X.prog X.w X.K X.mg X.base k g fd ps (spD X.kw.cold 1 den) ∧ Room (k + 1) X.A ∧ Binds X.K fd ps [] ∧
      spD X.kw.cold 1 den [.ref a] H1 Q (L2.WE Wno σ)) := by
    refine ho.thenE r s w fun d m1 c1 v H1 r1 s1 g1 h1 w1 => ?_
    cases q : proOf l d m1 with
    | none => rw [q] at w1; exact w1.elim
    | some den =>
      rw [q] at w1
      unfold proOf at q
      split at q
      · rename_i C ns hi
        obtain ⟨a, Ca, dx, fs, rfl, k1, k2, k3⟩ := insN_rd r1 h1 hi
        obtain ⟨Cb, pr, g, fd, ps, k, j1, j2, j3, j4, j5, j6⟩ := hl (C, den) (lookup_memA q)
        have := k1.symm.trans j1
        cases this
        exact ⟨a, Ca, dx, pr, g, fs, fd, ps, k, den, rfl, k2, j2, j3, j4, j5, j6, callR_sp (W := Wno) (ds := [d]) r1 (VDs.one h1) rfl (want_noX w1)⟩
      · cases q
  refine attr_of hb (thn (ev.go pins st I) ?_)
  rintro u s1 ⟨x, H1, I1, rx, a, Ca, dx, pr, g, fs, fd, ps, k, den, rfl, k1, k2, k3, k4, k5, k6, q⟩
  obtain rfl : u = Value.ref a := rx
  exact getprop_g I1 k1 k2 k3 k4 hG k5 k6 q
end
end L2.Dn
namespace L2.Dn
open PySem PySem.Spec PyProof.Rows L2
/-! ### sorted(xs), xs a list of data of one kind -/
def tupB : PyData → Bool
  | .tuple (_ :: _) => true
  | _ => false
def loneB : PyData → Bool
  | .none => false
  | .tuple _ => false
  | _ => true
/-- data that can be sorted: all of one kind, tuples with an item at least, or no tuples and no None -/
def sortB (ps : List PyData) : Bool := (ps.all fun a => ps.all fun b => PySem.W.alike a b) && (ps.all tupB || ps.all loneB) && decide (ps.length ≤ sizeLine) && ps.all fun p => decide (p.depth ≤ 60)
def srtP (ps : List PyData) : List PyData := ps.mergeSort (PySem.W.dataLe false id)
theorem sortB_ok {ps : List PyData} (h : sortB ps = true) : PySem.W.AllAlike (ps.map id) ∧ PySem.W.Sortable (ps.map id) ∧ ps.length ≤ sizeLine ∧ ∀ p ∈ ps, p.depth ≤ 60 := by
  simp only [sortB, Bool.and_eq_true, decide_eq_true_eq, List.all_eq_true, Bool.or_eq_true] at h
  obtain ⟨⟨⟨h1, h2⟩, h3⟩, h4⟩ := h
  rw [List.map_id]
  refine ⟨fun d hd d' hd' => h1 d hd d' hd', ?_, h3, h4⟩
  rcases h2 with h2 | h2
  · refine .inl fun d hd => ?_
    have := h2 d hd
    unfold tupB at this
    split at this
    · exact ⟨_, _, rfl⟩
    · cases this
  · refine .inr fun d hd => ?_
    have := h2 d hd
    constructor
    · rintro rfl
      cases this
    · rintro xs rfl
      cases this
def sortD (z : Md) : List D → Store → OD
  | [d], m => match lstOf d m with
    | some xs => match pures xs with
      | some ps => if sortB ps = true then newO z ((srtP ps).map D.p) m else none
      | none => none
    | none => none
  | _, _ => none
section
variable {X : Cx} {H : Hp} {c : Anc} {m : Store}
theorem each_of : ∀ {vs : List V} {its : List Value} {ps : List PyData}, Vals vs its → VDs X.kw H c vs (ps.map D.p) → PySem.W.EachIs (fun u p => ∃ x, RelV x u ∧ VD X.kw H c x (.p p)) its ps
  | [], _, [], .nil, _ => .nil
  | [], _, _ :: _, _, h => by
    rw [List.map_cons] at h
    unfold VDs at h
    obtain ⟨_, _, e, _⟩ := h
    cases e
  | v :: vs, _, [], _, h => by
    rw [List.map_nil] at h
    unfold VDs at h
    cases h
  | v :: vs, _, p :: ps, .cons r rs, h => by
    rw [List.map_cons] at h
    unfold VDs at h
    obtain ⟨_, _, e, h1, h2⟩ := h
    cases e
    exact .cons ⟨v, r, h1⟩ (each_of rs h2)
theorem of_each : ∀ {its : List Value} {ps : List PyData}, PySem.W.EachIs (fun u p => ∃ x, RelV x u ∧ VD X.kw H c x (.p p)) its ps → ∃ vs, Vals vs its ∧ VDs X.kw H c vs (ps.map D.p)
  | _, _, .nil => ⟨[], .nil, by rw [List.map_nil]; unfold VDs; rfl⟩
  | _, _, .cons ⟨x, r, h⟩ hs => by
    obtain ⟨vs, k1, k2⟩ := of_each hs
    exact ⟨x :: vs, .cons r k1, by rw [List.map_cons]; unfold VDs; exact ⟨x, vs, rfl, h, k2⟩⟩
theorem cr_sortData (hu : X.A.units + 65 < cLine) : CallR X (.builtin "sorted") (fun xs H Q => ∃ (c : Anc) (m : Store) (a : Addr) (vs : List V) (ps : List PyData), xs = [.ref a] ∧ RelS X.kw c m H ∧ RdL X.K H a vs ∧ VDs X.kw H c vs (ps.map D.p) ∧ sortB ps = true ∧
    ∀ ys p, VDs X.kw H c ys ((srtP ps).map D.p) → H p = none → Q (.ref p) (upd H p (.lst ys))) := by
  intro pins s σ H xs us Q I rv h
  obtain ⟨c, m, a, vs, ps, rfl, r, hl, hv, hs, q⟩ := h
  obtain ⟨u, rfl, ru⟩ := vals1 rv
  obtain rfl : u = Value.ref a := ru
  obtain ⟨its, r1, pl, hz⟩ := I.list hl.sq
  obtain ⟨s1, s2, s3, s4⟩ := sortB_ok hs
  have ea := each_of r1 hv
  refine PySem.W.sorted_data (enc := id) pl.isList ea (ea.mono fun u p hx => ?_) s1 s2 s3 (fun b hb => ?_) fun out e1 e2 => ?_
  · obtain ⟨x, rx, hx⟩ := hx
    exact (DpA.rds I (deep_ok r 8 x (.p p) p hx rfl) rx).reads
  · have := s4 b hb
    show X.A.units + 2 + b.depth < cLine
    omega
  · obtain ⟨ys, y1, y2⟩ := of_each e2
    obtain ⟨e, he⟩ := sortedAll_at s.heap its (List.toArray out)
    have hn : H (s.heap.objs.size + 1) = none := I.hok.fresh (Nat.le_succ _)
    have hl2 : ys.length ≤ sizeLine := by
      rw [y1.length, e1]
      exact s3
    exact ⟨.ref (s.heap.objs.size + 1), upd H (s.heap.objs.size + 1) (.lst ys), I.laid (t' := s.toks) (fun b o hb => sortedAll_old hb) (Nat.le_succ _) ⟨hl2, out, e, y1, he⟩, rfl, q ys _ y2 hn⟩
theorem call_sortedD (z : Md) (hu : X.A.units + 65 < cLine) : CallR X (.builtin "sorted") (rOfL X.kw (sortD z)) := by
  refine CallR.by_ (cr_sortData hu) fun xs H Q w => ?_
  obtain ⟨c, m, ds, r, hv, w⟩ := w
  unfold sortD at w
  split at w
  · obtain ⟨v, e, h⟩ := VDs.onlyOne hv
    split at w
    · rename_i xs hx
      obtain ⟨a, vs, e1, k1, k2⟩ := lstOf_ok r h hx
      cases q : pures xs with
      | none => rw [q] at w; exact w.elim
      | some ps =>
        rw [q] at w
        dsimp only at w
        split at w
        · rename_i hs
          have := of_pures q
          subst this e1
          exact ⟨c, m, a, vs, ps, e, r, k1, k2, hs, fun ys p hy hp => newO_ok r hy w p hp⟩
        · exact w.elim
    · exact w.elim
  · exact w.elim
end
end L2.Dn
namespace L2.Dn
open PySem PySem.Spec PyProof.Rows L2
/-! ### sorted(d), the keys of a dict -/
mutual
theorem Rds.there {h : Heap} : ∀ {v : Value} {d : PyData}, Rds h v d → ∃ as, Reads h v d as ∧ ∀ a ∈ as, ∃ o, h.get? a = some o
  | _, _, .none => ⟨_, .none, fun _ z => nomatch z⟩
  | _, _, .bool b => ⟨_, .bool b, fun _ z => nomatch z⟩
  | _, _, .int i t => ⟨_, .int i t, fun _ z => nomatch z⟩
  | _, _, .str x t => ⟨_, .str x t, fun _ z => nomatch z⟩
  | _, _, .list h1 h2 h3 h4 => by
    obtain ⟨as, r, q⟩ := RdsA.there h4
    refine ⟨_, .list h1 h2 h3 r, fun a ha => ?_⟩
    rcases List.mem_cons.mp ha with z | z
    · rw [z]; exact ⟨_, h1⟩
    · exact q a z
  | _, _, .tuple h1 h2 h3 h4 => by
    obtain ⟨as, r, q⟩ := RdsA.there h4
    exact ⟨_, .tuple h1 h2 h3 r, q⟩
  | _, _, .dict _ h1 h2 h3 h4 h5 => by
    obtain ⟨as, r, q⟩ := RdsA.there h4
    obtain ⟨bs, r2, q2⟩ := RdsA.there h5
    refine ⟨_, .dict h1 h2 h3 r r2, fun a ha => ?_⟩
    rcases List.mem_append.mp ha with z | z
    · rcases List.mem_cons.mp z with z | z
      · rw [z]; exact ⟨_, h1⟩
      · exact q a z
    · exact q2 a z
theorem RdsA.there {h : Heap} : ∀ {vs : List Value} {ds : List PyData}, RdsA h vs ds → ∃ as, ReadsAll h vs ds as ∧ ∀ a ∈ as, ∃ o, h.get? a = some o
  | _, _, .nil => ⟨_, .nil, fun _ z => nomatch z⟩
  | _, _, .cons r q => by
    obtain ⟨as, x, hx⟩ := Rds.there r
    obtain ⟨bs, y, hy⟩ := RdsA.there q
    refine ⟨_, .cons x y, fun a ha => ?_⟩
    rcases List.mem_append.mp ha with z | z
    · exact hx a z
    · exact hy a z
end
def sortG (z : Md) (ds : List D) (m : Store) : OD := match sortD z ds m with
  | some r => some r
  | none => match ds with
    | [d] => match dctOf d m with
      | some kvs => if sortB (kvs.map (·.1)) = true then newO z ((srtP (kvs.map (·.1))).map D.p) m else none
      | none => none
    | _ => none
section
variable {X : Cx} {H : Hp} {c : Anc} {m : Store}
theorem call_sortedG (z : Md) (hc : X.calm = true) (hu : X.A.units + 65 < cLine) : CallR X (.builtin "sorted") (rOfL X.kw (sortG z)) := by
  intro pins s σ H xs us Q I rv h
  obtain ⟨c, m, ds, r, hv, w⟩ := h
  unfold sortG at w
  cases e : sortD z ds m with
  | some q => rw [e] at w; exact call_sortedD z hu pins s σ H xs us Q I rv ⟨c, m, ds, r, hv, by rw [e]; exact w⟩
  | none =>
    rw [e] at w
    dsimp only at w
    split at w
    · rename_i d
      split at w
      · rename_i kvs hd
        split at w
        · rename_i hs
          obtain ⟨v, rfl, hv1⟩ := VDs.onlyOne hv
          obtain ⟨u, rfl, ru⟩ := vals1 rv
          obtain ⟨a, en, rfl, g1, g2⟩ := dctOf_ok r hv1 hd
          cases ru
          obtain ⟨hS, ens, ep, y1, y2, y3⟩ := rd_raw I g1
          have l1 := dlen g2
          obtain ⟨s1, s2, s3, s4⟩ := sortB_ok hs
          have hz : kvs.length ≤ sizeLine := by
            rw [List.length_map] at s3
            exact s3
          refine Calls.call_function_entry PyProof.Rows.kind_sorted PyProof.Rows.plain_sorted PyProof.Rows.entry_sorted (PyProof.Rows.args_sorted1 _) ?_
          unfold Builtin.«sorted»
          refine wpAny_bind (m := checkCount "sorted" 1 1 _) (wpAny_pure ?_)
          refine wpAny_bind (PySem.W.kdu_collect (A := X.A.in1) (KdlSrc.rawDict (ep := ep) (es := ens) hS) (I.ok.hd hc) y1 (by omega) fun h' tk acc hk hacc => ?_)
          have I1 : Inv X pins σ H { s with heap := h', toks := tk } := I.kept hk
          have hvl : Vals (en.map (·.2.1)) acc.toList := vals_of (·.2.1) (·.key) (fun _ _ z => z.2.1) y3 hacc
          have hvd : VDs X.kw H c (en.map (·.2.1)) ((kvs.map (·.1)).map D.p) := VDs.ofp g2.kd
          have ea := each_of hvl hvd
          have hal : acc.toList.length = (kvs.map (·.1)).length := by
            rw [← hvl.length, hvd.length, List.length_map]
          refine wpAny_bind (wpAny_newList ?_ (by rw [hal]; exact s3))
          have hoL : (h'.push (seqObj "list" acc.toList.toArray 0)).get? h'.objs.size = some (seqObj "list" acc.toList.toArray 0) := Heap.get?_push_size _ rfl
          show wpAny _ _ _ _ _ { s with heap := h'.push (seqObj "list" acc.toList.toArray 0), toks := tk }
          refine wpAny_bind (wpAny_holding (PySem.W.list_sort_data (s := { s with heap := h'.push (seqObj "list" acc.toList.toArray 0), toks := tk }) (enc := id) (n := 0) hoL ea (ea.mono fun u p hx => ?_) s1 s2 s3 (fun b hb => ?_) fun out e1 e2 => ?_))
          · obtain ⟨x, rx, hx⟩ := hx
            obtain ⟨as, q1, q2⟩ := (DpA.rds I1 (deep_ok r 8 x (.p p) p hx rfl) rx).there
            refine ⟨as, PyProof.Rows.Reads.keeps (fun b o hb => Heap.get?_push_of_some _ hb) q1, fun z => ?_⟩
            obtain ⟨o, ho⟩ := q2 _ z
            exact Nat.lt_irrefl _ (Heap.lt_size ho)
          · have := s4 b hb
            show X.A.units + 1 + 1 + b.depth < cLine
            omega
          · obtain ⟨ys, k1, k2⟩ := of_each e2
            obtain ⟨e', he'⟩ := PyProof.Rows.sortedHeap_at (vs := acc.toList) (out := List.toArray out) hoL
            have hlen : ys.length ≤ sizeLine := by
              rw [k1.length, e1]
              exact s3
            have hn : H h'.objs.size = none := I1.hok.fresh (Nat.le_refl _)
            refine wpAny_pure ⟨_, rfl, EP.frz ⟨.ref h'.objs.size, upd H h'.objs.size (.lst ys), I1.laid (t' := tk) (fun b u e => ?_) (Nat.le_refl _) ⟨hlen, out, e', k1, he'⟩, rfl, newO_ok r k2 w _ hn⟩⟩
            have hb : b < h'.objs.size := Heap.lt_size e
            rw [PyProof.Rows.sortedHeap_old (Nat.ne_of_lt hb) (by rw [size_push']; exact Nat.lt_succ_of_lt hb)]
            exact Heap.get?_push_of_some _ e
        · exact w.elim
      · exact w.elim
    · exact w.elim
end
end L2.Dn
namespace L2.Dn
open PySem PySem.Spec PyProof.Rows L2
/-! ### C(k=a, ..), no values by place -/
section
variable {X : Cx} {W : WX} {a b e o : Expr} {es rest : List Expr} {fa fb f fo : FE} {fl fk : FI} {pos pos' apos cpos p p1 p2 kpos : Pos} {c : Anc} {ρ : Rho} {m : Store} {σ : St} {H : Hp} {name x C : Str} {Ca fI : Addr} {k n np : Nat} {fd : FuncData} {ps ks : List Str} {kws : List Keyword} {nm : Option Str} {den : Den} {g : List Value → List Value → List Value} {gV : List V → List V → List V} {gD : List D → List D → List D}
theorem de_make0 (M : Mk X.K Ca fI) (F : FnG X.prog X.w X.K X.mg X.base k fI fd ps (spD X.kw.cold np den)) (hG : X.A.guards = some []) (hr : Room (k + 1) X.A) (hm : X.mg C = some (.ref Ca)) (hb : KBn X.K fd ps 1 ks g gV) (hA : Arr 1 ks.length gV gD) (hnp : ∀ ds es : List D, ds.length = 1 → es.length = ks.length → (gD ds es).length = np) (tk : Takes X W) (hk : DK X W kws fk)
    (hg : Gl X C := by rfl) (hall : (backToKw pos (keywordEach kws X.env)).all (·.1.isSome) = true := by rfl) (hks : (backToKw pos (keywordEach kws X.env)).filterMap (·.1) = ks := by rfl) (hdb : (C == ("__debug__" : Str)) = false := by decide)
    (hpl : ((backTo pos (starEach [] X.env)).any (·.1) || (backToKw pos (keywordEach kws X.env)).any (·.1.isNone)) = false := by rfl) :
    DE X W (.Call (.Name C p) [] kws pos) (makeE C den 0 ks.length gD nilA fk) := fun c ρ m σ H Q r s w => WE.frz <| .mk fun pins st I => by
  have ev : WK X kws σ H (fun zs H2 => zs.length = ks.length ∧ ∀ y dx, H2 y = none → H2 dx = none → dx ≠ y → spD X.kw.cold np den (gV [.ref y] zs) (upd (upd H2 dx (.own y)) y (.ins Ca dx [])) (fun v H3 => v = .non ∧ QF Q (.ref y) H3) (L2.WE W σ)) := by
    have w1 : Want X W c H σ ((fk ρ m).bind fun es m2 => if ([] : List D).length = 0 ∧ es.length = ks.length then makeR C den (fun s => gD [s] es) m2 else .stuck) Q := w
    refine hk c ρ m σ H _ r s ?_
    cases q : fk ρ m with
    | stuck => rw [q] at w1; exact w1
    | exc x m2 => rw [q] at w1; exact w1
    | ok es' m2 =>
      rw [q] at w1
      intro c2 zs H2 g2 h2
      have w2 := Want.shift g2 w1
      have w2 : Want X W c2 H2 σ (if ([] : List D).length = 0 ∧ es'.length = ks.length then makeR C den (fun s => gD [s] es') m2 else .stuck) Q := w2
      by_cases hl : ([] : List D).length = 0 ∧ es'.length = ks.length
      · rw [if_pos hl] at w2
        exact ⟨by rw [h2.length]; exact hl.2, makeR_sp (n := 0) (ds := []) (vs := []) hA g2.rel hm (by unfold VDs; rfl) h2 rfl hl.2 (hnp _ _ rfl hl.2) w2⟩
      · rw [if_neg hl] at w2; exact w2.elim
  refine wpAny_Call_Name_kw (ld_glob I hg hm ?_ hdb)
  refine PySem.W.callWith_KW0 (h₀ := X.base) I.ok.mod.kin M.kp hall (thn (ev pos pins st I) ?_) hpl
  rintro ws s2 ⟨zs, H2, I2, r2, l2, q2⟩
  refine ⟨I2.kIn, ?_⟩
  rw [hks]
  exact run_makeG (n := 0) (us := []) (vs := []) M F hG hr hb tk I2 .nil r2 rfl l2 q2
end
end L2.Dn
namespace L2.Dn
open PySem PySem.Spec PyProof.Rows L2
/-! ### an own instance called -/
def CalT (X : Cx) (n : Nat) (q : Str × Den) : Prop := ∃ (Ca g : Addr) (fd : FuncData) (ps : List Str) (k : Nat), X.mg q.1 = some (.ref Ca) ∧ StX.CallO X.K Ca g ∧ FnG X.prog X.w X.K X.mg X.base k g fd ps (spD X.kw.cold n q.2) ∧ Room k X.A ∧ Binds X.K fd ps []
def callOE (l : List (Str × Den)) (fo : FE) (fl : FI) : FE := fun ρ m => (fo ρ m).bind fun d m1 => if (insN d m1).isSome = true then (fl ρ m1).bind fun ds m2 => (match proOf l d m2 with
  | some den => callR den (d :: ds) m2
  | none => .stuck) else .stuck
section
variable {X : Cx} {W : WX} {a b e fe o : Expr} {es rest : List Expr} {fa fb fo : FE} {fl : FI} {pos apos cpos p : Pos} {c : Anc} {ρ : Rho} {m : Store} {σ : St} {H : Hp} {f : Str} {l : List (Str × Den)} {n : Nat}
theorem cal_at {v : V} {d : D} {den : Den} (hl : ∀ q ∈ l, CalT X n q) (r : RelS X.kw c m H) (hv : VD X.kw H c v d) (e : proOf l d m = some den) : ∃ (a Ca dx : Addr) (fs : List (Str × V)) (g : Addr) (fd : FuncData) (ps : List Str) (k : Nat), v = .ref a ∧ Rd H a (.ins Ca dx fs) ∧
    StX.CallO X.K Ca g ∧ FnG X.prog X.w X.K X.mg X.base k g fd ps (spD X.kw.cold n den) ∧ Room k X.A ∧ Binds X.K fd ps [] := by
  unfold proOf at e
  split at e
  · rename_i C ns hi
    obtain ⟨a, Ca, dx, fs, rfl, h1, h2, h3⟩ := insN_rd r hv hi
    obtain ⟨Cb, g, fd, ps, k, k1, k2, k3, k4, k5⟩ := hl (C, den) (lookup_memA e)
    have := h1.symm.trans k1
    cases this
    exact ⟨a, Ca, dx, fs, g, fd, ps, k, rfl, h2, k2, k3, k4, k5⟩
  · cases e
theorem rd_inst {pins : List (Addr × Obj)} {s : Shared} {a C dx : Addr} {fs : List (Str × V)} (I : Inv X pins σ H s) (h : Rd H a (.ins C dx fs)) : ∃ ox od, PySem.W.InstAt s.heap a ox C od ∧ ox.data = .plain := by
  obtain ⟨mA, O, _⟩ := ins_rd I.hok h
  obtain ⟨od, J, _⟩ := O.look
  exact ⟨_, _, J, rfl⟩
theorem de_callO (hG : X.A.guards = some []) (hl : ∀ q ∈ l, CalT X (n + 1) q) (tk : Takes X W) (ho : DE X W fe fo) (ha : DA X W (e :: es) fl) (hn : lenA n fl)
    (ht : eval (.Call fe (e :: es) [] pos) X.env = (do callWith pos (← eval fe X.env) [] (backTo pos (starEach (e :: es) X.env)) (backToKw pos (keywordEach [] X.env))) := by rfl)
    (he : starEach (e :: es) X.env = (false, eval e X.env) :: starEach es X.env := by rfl) (hpl : (backTo pos (starEach es X.env)).any (·.1) = false := by rfl) :
    DE X W (.Call fe (e :: es) [] pos) (callOE l fo fl) := fun c ρ m σ H Q r s w => .mk fun pins st I => by
  have ev : WE X fe σ H (fun v H1 => ∃ a, v = .ref a ∧ WA X (e :: es) σ H1 fun vs H2 => ∃ (Ca dx : Addr) (fs : List (Str × V)) (g : Addr) (fd : FuncData) (ps : List Str) (k : Nat) (den : Den), Rd H2 a (.ins Ca dx fs) ∧
      StX.CallO X.K Ca g ∧ FnG X.prog X.w X.K X.mg X.base k g fd ps (spD X.kw.cold (n + 1) den) ∧ Room k X.A ∧ Binds X.K fd ps [] ∧ spD X.kw.cold (n + 1) den (.ref a :: vs) H2 Q (L2.WE W σ)) := by
    refine ho.thenE r s w fun d m1 c1 v H1 r1 s1 g1 h1 w1 => ?_
    by_cases hi : (insN d m1).isSome = true
    · rw [if_pos hi] at w1
      obtain ⟨⟨C, ns⟩, hi⟩ := Option.isSome_iff_exists.mp hi
      obtain ⟨a, Ca, dx, fs, rfl, _⟩ := insN_rd r1 h1 hi
      refine ⟨a, rfl, ha c1 ρ m1 σ H1 _ r1 s1 ?_⟩
      cases q2 : fl ρ m1 with
      | ok ds m2 =>
        rw [q2] at w1
        intro c2 vs H2 g2 hv
        have w2 := Want.shift g2 w1
        have hd := g2.vd h1
        have w2 : Want X W c2 H2 σ (match proOf l d m2 with
          | some den => callR den (d :: ds) m2
          | none => .stuck) Q := w2
        cases q : proOf l d m2 with
        | none => rw [q] at w2; exact w2.elim
        | some den =>
          rw [q] at w2
          obtain ⟨a', Ca, dx, fs, g, fd, ps, k, e1, k1, k2, k3, k4, k5⟩ := cal_at hl g2.rel hd q
          cases e1
          exact ⟨Ca, dx, fs, g, fd, ps, k, den, k1, k2, k3, k4, k5, callR_sp (ds := d :: ds) g2.rel (by unfold VDs; exact ⟨_, _, rfl, hd, hv⟩) (by simp [hn _ _ _ _ q2]) w2⟩
      | exc x m2 => rw [q2] at w1; exact w1
      | stuck => rw [q2] at w1; exact w1
    · rw [if_neg hi] at w1
      exact w1.elim
  refine Call_ (thn (ev.go pins st I) ?_) ht
  rintro u s1 ⟨x, H1, I1, rx, a, rfl, q⟩
  obtain rfl : u = Value.ref a := rx
  refine StX.callO_with (thn (q.go pos pins s1 I1) ?_) he hpl
  rintro us s2 ⟨vs, H2, I2, r2, Ca, dx, fs, g, fd, ps, k, den, k1, k2, k3, k4, k5, q2⟩
  obtain ⟨ox, od, J, hd⟩ := rd_inst I2 k1
  refine ⟨⟨Ca, ox, od, J, hd⟩, ?_⟩
  have hlen : (Value.ref a :: us).length = ps.length := by
    have := k3.len _ _ _ _ q2
    simp only [List.length_cons] at this ⊢
    rw [← this, r2.length]
  have bd := k5 s2 (.ref a :: us) I2.kIn (by rw [List.append_nil]; exact hlen)
  rw [List.append_nil] at bd
  refine wpAny_call (PySem.W.kco_code I2.kIn J hd k2.at_ k2.fn k2.fi (codeAny_mono (k3.go X.A X.stack s2 H2 ⟨.ref a :: us, []⟩ (.ref a :: us) (.ref a :: vs) Q (L2.WE W σ) hG k4 I2.env0 bd (.cons rfl r2) q2) fun out s' q => ?_))
  match out, q with
  | .error e, q => exact passAt tk σ pins H2 s2 e s' I2 q
  | .ok (.ret u), q => exact I2.after q
end
end L2.Dn
namespace L2.Dn
open PySem PySem.Spec PyProof.Rows L2
/-! ### C.f(a, ..), f a static method -/
structure StaT (K : PySem.W.Frag) (C : Addr) (f : Str) (p g : Addr) : Prop where
  ga : PySem.W.specialIn K (.ref C) "__getattribute__" = some (some (.builtin "type.__getattribute__"))
  rd : PySem.W.readsIn K C (.type "type") = true
  at_ : PySem.W.findCls K (.ref C) (.type "type") f = some (.get (.builtin "staticmethod.__get__") (.ref p) .none (.ref C))
  rec_ : ∃ rest, PySem.W.recIn K p "staticmethod" = some (.ref g :: rest)
  kp : PySem.W.keepIn K (.ref g) = true
section
variable {X : Cx} {W : WX} {a b e fe o : Expr} {es rest : List Expr} {fa fb fo : FE} {fl : FI} {pos apos cpos p p1 p2 : Pos} {c : Anc} {ρ : Rho} {m : Store} {σ : St} {H : Hp} {f x : Str} {l : List (Str × Den)} {n k : Nat} {C pr g : Addr} {fd : FuncData} {ps : List Str} {den : Den}
theorem de_static {pl : Sem Bool} (F : FnG X.prog X.w X.K X.mg X.base k g fd ps (spD X.kw.cold n den)) (hG : X.A.guards = some []) (hr : Room k X.A) (hm : X.mg x = some (.ref C)) (S : StaT X.K C f pr g) (hb : Binds X.K fd ps []) (tk : Takes X W) (ha : DA X W (e :: es) fl) (hl : lenA n fl)
    (hg : Gl X x := by rfl) (hdb : (x == ("__debug__" : Str)) = false := by decide)
    (hc : eval (.Call (.Attribute (.Name x p1) f p2) (e :: es) [] pos) X.env = (do
      let ov ← eval (.Name x p1) X.env
      standAt p2.atName
      let (f, first) ← holding [ov] (getMethod ov f pl)
      callWith pos f first (backTo pos (starEach (e :: es) X.env)) (backToKw pos (keywordEach [] X.env))) := by rfl)
    (he : starEach (e :: es) X.env = (false, eval e X.env) :: starEach es X.env := by rfl) (hpl : (backTo pos (starEach es X.env)).any (·.1) = false := by rfl) :
    DE X W (.Call (.Attribute (.Name x p1) f p2) (e :: es) [] pos) (callE den fl) := fun c ρ m σ H Q r s w => .mk fun pins st I => by
  have args : WA X (e :: es) σ H (fun vs H1 => spD X.kw.cold n den vs H1 Q (L2.WE W σ)) := by
    refine ha c ρ m σ H _ r s ?_
    unfold callE at w
    cases q : fl ρ m with
    | ok ds m1 =>
      rw [q] at w
      exact fun c1 vs H1 g1 hv => callR_sp g1.rel hv (hl _ _ _ _ q) (Want.shift g1 w)
    | exc x m1 => rw [q] at w; exact w
    | stuck => rw [q] at w; exact w
  refine PySem.W.methodCall_KW (ld_glob I hg hm ?_ hdb) hc
  obtain ⟨rr, hrec⟩ := S.rec_
  refine PySem.W.method_cls I.kIn S.ga (PySem.W.cls_bind I.kIn S.rd S.at_ (wpAny_call (PySem.W.sm_get (s := { st with toks := st.toks + 1 }) I.kIn hrec ?_)))
  refine PySem.W.handed_on (v := .ref g) rfl ?_
  have I1 : Inv X pins σ H { st with toks := st.toks + 1 } := I.tok _
  refine PySem.W.callWith_K (h₀ := X.base) I.ok.mod.kin S.kp ?_ he hpl
  exact thn (args.go pos pins _ I1) fun us s1 ⟨vs, H1, I2, r1, q⟩ => ⟨I2.kIn, run_g F hG hr hb tk I2 r1 q⟩
end
end L2.Dn
namespace L2.Dn
open PySem PySem.Spec PyProof.Rows L2
/-! ### x == y, instances of one own class with its own __eq__ -/
def EqT (X : Cx) (q : Str × Den) : Prop := ∃ (Ca g : Addr) (fd : FuncData) (ps : List Str) (k : Nat), X.mg q.1 = some (.ref Ca) ∧ PySem.W.findIn X.K (.ref Ca) "__eq__" = some (some (.ref g)) ∧ PySem.W.isFn X.K (.ref g) = true ∧ FnG X.prog X.w X.K X.mg X.base k g fd ps (spD X.kw.cold 2 q.2) ∧ Room k X.A ∧ Binds X.K fd ps []
def blR : Res D → OD
  | .ok (.p (.bool b)) m => some (.p (.bool b), m)
  | _ => none
def eqO (l : List (Str × Den)) (x y : D) (m : Store) : OD := match insN x m, insN y m with
  | some (C, _), some (C', _) => if C = C' then (match l.lookup C with
    | some den => blR (callR den [x, y] m)
    | none => none) else none
  | _, _ => none
section
variable {X : Cx} {c : Anc} {m : Store} {σ : St} {H : Hp} {l : List (Str × Den)}
theorem blR_want {r : Res D} {Q : VK} (w : WantO X.kw c H (blR r) Q) : Want X Wno c H σ r (fun v H' => (∃ b, v = .bl b) ∧ Q v H') := by
  unfold blR at w
  split at w
  · exact fun c' v H' g hv => ⟨⟨_, VD.bl.mp hv⟩, w c' v H' g hv⟩
  · exact w.elim
theorem op_eqO (hG : X.A.guards = some []) (hl : ∀ q ∈ l, EqT X q) : OpR X (compareOp .Eq) (rOf X.kw (eqO l)) := by
  intro pins s σ H x y v u Q I rx ry hq
  obtain ⟨c, m, dx, dy, r, h1, h2, w⟩ := hq
  show wpAny (model X.prog X.w) X.A (richCompare .Eq v u) (EP X pins σ Q) X.xe s
  unfold eqO at w
  split at w
  · rename_i C ns C' ns' e1 e2
    split at w
    · rename_i ec
      subst ec
      cases q : l.lookup C with
      | none => rw [q] at w; exact w.elim
      | some den =>
        rw [q] at w
        obtain ⟨a, Ca, da, fs, rfl, k1, k2, _⟩ := insN_rd r h1 e1
        obtain ⟨b, Cb, db, gs, rfl, j1, j2, _⟩ := insN_rd r h2 e2
        obtain ⟨Cc, g, fd, ps, k, t1, t2, t3, t4, t5, t6⟩ := hl (C, den) (lookup_memA q)
        have e3 := k1.symm.trans t1
        have e4 := j1.symm.trans t1
        cases e3
        cases e4
        cases rx
        cases ry
        obtain ⟨ox, od, J, hd⟩ := rd_inst I k2
        obtain ⟨ox', od', J', hd'⟩ := rd_inst I j2
        obtain ⟨mm, hF⟩ := I.fr
        refine PySem.W.cmp_K (op := .Eq) (tb := .ref Ca) t5.units0 hF I.ok.mod.kin J J'.type (by simp [PySem.W.notFirst]) t2 t3 ?_
        have sp := callR_sp (W := Wno) (ds := [dx, dy]) (vs := [.ref a, .ref b]) (n := 2) r (by unfold VDs; exact ⟨_, _, rfl, h1, VDs.one h2⟩) rfl (blR_want (σ := σ) w)
        have rvs : Vals [V.ref a, V.ref b] [Value.ref a, Value.ref b] := .cons rfl (.cons rfl .nil)
        refine thn (run_g t4 hG t5 t6 takes0 I rvs sp) ?_
        rintro z s' ⟨vz, H', I', rz, ⟨bz, rfl⟩, qz⟩
        cases rz
        exact ⟨.bl bz, H', I', rfl, qz⟩
    · exact w.elim
  · exact w.elim
end
end L2.Dn
namespace L2.Dn
open PySem PySem.Spec PyProof.Rows L2
/-! ### == and != of dicts with any keys -/
section
variable {P : Program} {w : World} {A : Around} {E : Value → Shared → Prop} {s : Shared} {a b : Addr} {xs ys : List Ent}
/-- what the walk over the one dict's entries finds in the other one -/
inductive Hit (P : Program) (w : World) (A : Around) (s : Shared) (ys : List Ent) : List Ent → Bool → Prop
  | nil : Hit P w A s ys [] true
  | miss {x : Ent} {r : List Ent} : lkE ys x.1 = none → Hit P w A s ys (x :: r) false
  | hit {x : Ent} {y : Value} {r : List Ent} {e k : Bool} : lkE ys x.1 = some y → SeqAt.EqP P w A s x.2.2 y e → Hit P w A s ys r k → Hit P w A s ys (x :: r) (e && k)
theorem Hit.inv {x : Ent} {r : List Ent} {k : Bool} (h : Hit P w A s ys (x :: r) k) : (lkE ys x.1 = none ∧ k = false) ∨ ∃ y e k', lkE ys x.1 = some y ∧ SeqAt.EqP P w A s x.2.2 y e ∧ Hit P w A s ys r k' ∧ k = (e && k') := by
  cases h with
  | miss h => exact .inl ⟨h, rfl⟩
  | hit h q t => exact .inr ⟨_, _, _, h, q, t, rfl⟩
theorem same_key {nm : String} {r : Bool} {Q : Bool → Shared → Prop} (ha : (a == sysModules) = false) (hb : (b == sysModules) = false) (ga : GDict w s.heap a xs) (gb : GDict w s.heap b ys) (hu : A.units + 8 < cLine)
    (hits : xs.length = ys.length → Hit P w A s ys xs r) (h : Q (xs.length == ys.length && r) s) : wpAny (model P w) A (Builtin.Dict.samePairs nm a b) Q E s := by
  obtain ⟨oa, ea, na, a1, _, a2, a3, a4, _⟩ := ga
  obtain ⟨ob, eb, nb, b1, _, b2, b3, b4, b5⟩ := gb
  have la := ent_size a3
  have lb := ent_size b3
  rw [← la, ← lb] at h
  unfold Builtin.Dict.samePairs Builtin.Dict.showsAll
  rw [if_neg (by rw [ha]; exact Bool.false_ne_true), if_neg (by rw [hb]; exact Bool.false_ne_true)]
  refine wpAny_bind (wpAny_pure (wpAny_bind (wpAny_pure (wpAny_bind (wpAny_dictEntries a1 a2 ?_)))))
  dsimp only
  refine wpAny_bind (wpAny_dictEntries b1 b2 ?_)
  by_cases hz : ea.size = eb.size
  · have h' : Q r s := by simpa [hz] using h
    have ht := hits (by rw [← la, ← lb]; exact hz)
    rw [if_neg (by rw [hz]; simp)]
    refine wpAny_bind (wpAny_dictEpoch a1 a2 (wpAny_bind ?_))
    rw [Std.Legacy.Range.forIn_eq_forIn_range']; simp only [Std.Legacy.Range.size, Nat.sub_zero, Nat.add_sub_cancel, Nat.div_one]
    refine wpAny_forIn_list _ (fun rest q s' => s' = s ∧ q = (none, ()) ∧ ∃ i, rest = List.range' i (ea.size - i) ∧ i ≤ ea.size ∧ Hit P w A s ys (xs.drop i) r) _ ?_ ?_ _ _ ⟨rfl, rfl, 0, by simp, Nat.zero_le _, ht⟩
    · rintro j rest q s' ⟨rfl, rfl, i, hr, hi, hp⟩
      have hlt : i < ea.size := by
        rcases Nat.lt_or_ge i ea.size with k | k
        · exact k
        · rw [Nat.sub_eq_zero_of_le k] at hr; cases hr
      have e0 : ea.size - i = ea.size - (i + 1) + 1 := by omega
      rw [e0, List.range'_succ] at hr
      obtain ⟨rfl, hrest⟩ : j = i ∧ rest = List.range' (i + 1) (ea.size - (i + 1)) := by injection hr with p q; exact ⟨p, q⟩
      have hlx : j < xs.length := by rw [← la]; exact hlt
      have hdr : xs.drop j = xs[j] :: xs.drop (j + 1) := List.drop_eq_getElem_cons hlx
      rw [hdr] at hp
      have he : ea[j]? = some (entOf w xs[j]) := by rw [ent_get a3 j, List.getElem?_eq_getElem hlx]; rfl
      refine wpAny_bind (wpAny_dictEntries a1 a2 ?_)
      rw [he]
      generalize hx : xs[j] = x at hp he
      have hk : IsK s'.heap x.1 x.2.1 := by rw [← hx]; exact a4 _ (List.getElem_mem hlx)
      show wpAny _ _ (holding [x.2.1, x.2.2] _ >>= _) _ _ _
      refine wpAny_bind (wpAny_holding (wpAny_bind (find_key hu hk b1 b2 b3 b4 b5 (fun no => ?_) fun t p ht => ?_)))
      · rcases hp.inv with ⟨_, er⟩ | ⟨y, _, _, hy, _⟩
        · rw [er] at h'
          refine wpAny_pure ?_
          show wpAny _ _ (if (!false) = true then _ else _) _ _ _
          rw [if_pos (by rfl)]; exact wpAny_pure (wpAny_pure h')
        · rw [lkE_no no] at hy; cases hy
      · rcases hp.inv with ⟨hy, _⟩ | ⟨y, e, k, hy, he, hrr, er⟩
        · rw [lkE_at b5 ht] at hy; cases hy
        · have ey := (lkE_at b5 ht).symm.trans hy
          cases ey
          refine wpAny_bind (wpAny_dictEntries b1 b2 ?_)
          have e2 : eb[t]? = some (entOf w (x.1, p)) := by rw [ent_get b3 t, ht]; rfl
          rw [e2]
          refine wpAny_holding (he _ _ ?_)
          cases e with
          | false =>
            rw [er, Bool.false_and] at h'
            show wpAny _ _ (if (!false) = true then _ else _) _ _ _
            rw [if_pos (by rfl)]; exact wpAny_pure (wpAny_pure h')
          | true =>
            rw [Bool.true_and] at er
            rw [← er] at hrr
            show wpAny _ _ (if (!true) = true then _ else _) _ _ _
            rw [if_neg (by decide)]
            refine wpAny_bind (wpAny_dictEpoch a1 a2 ?_)
            rw [if_neg (by simp)]; exact wpAny_pure ⟨rfl, rfl, j + 1, hrest, hlt, hrr⟩
    · rintro q s' ⟨rfl, rfl, i, hr, hi, hp⟩
      have e0 : i = ea.size := by
        rcases Nat.lt_or_ge i ea.size with k | k
        · have e0 : ea.size - i = ea.size - (i + 1) + 1 := by omega
          rw [e0, List.range'_succ] at hr; cases hr
        · omega
      refine wpAny_pure ?_
      rw [e0, la, List.drop_length] at hp
      cases hp; exact h'
  · rw [if_pos (by simpa using hz)]
    have hf : (ea.size == eb.size) = false := by simpa using hz
    rw [hf, Bool.false_and] at h
    exact wpAny_bind (wpAny_rule (wpAny_pure h))
theorem eq_key {r : Bool} {Q : Value → Shared → Prop} (ha : (a == sysModules) = false) (hb : (b == sysModules) = false) (ga : GDict w s.heap a xs) (gb : GDict w s.heap b ys) (hu : A.units + 9 < cLine)
    (hits : xs.length = ys.length → Hit P w A.in1 s ys xs r) (h : Q (.bool (xs.length == ys.length && r)) s) : wpAny (model P w) A (compareOp .Eq (.ref a) (.ref b)) Q E s := by
  refine wpAny_richCompare_same_room (op := .Eq) ga.ty gb.ty PySem.F.slot_dict_eq (wpAny_call_entry PySem.F.slot_dict_eq ga.ty PySem.F.entry_dict_eq ?_ (PySem.F.args_dict_eq_2 _ _)) (by omega)
  show wpAny _ _ (Builtin.Dict.dictSlotArgs "__eq__" ⟨[.ref a, .ref b], []⟩ >>= _) _ _ s
  unfold Builtin.Dict.dictSlotArgs; refine wpAny_bind (wpAny_bind (wpAny_notOrdered_dict ga.ty ?_))
  show wpAny _ _ (pure (Value.ref a, Value.ref b)) _ _ s
  refine wpAny_pure (wpAny_bind (wpAny_isInstance (T := "dict") gb.ty PySem.F.sub_dict_dict ?_))
  simp only [Bool.not_true, Bool.false_eq_true, if_false]; refine wpAny_bind (wpAny_pure (wpAny_bind (wpAny_pure (wpAny_bind (same_key ha hb ga gb (by show A.units + 1 + 8 < _; omega) hits (wpAny_pure ⟨_, rfl, (by intro x; cases x), ?_⟩))))))
  simpa using h
theorem ne_key {r : Bool} {Q : Value → Shared → Prop} (ha : (a == sysModules) = false) (hb : (b == sysModules) = false) (ga : GDict w s.heap a xs) (gb : GDict w s.heap b ys) (hu : A.units + 9 < cLine)
    (hits : xs.length = ys.length → Hit P w A.in1 s ys xs r) (h : Q (.bool (!(xs.length == ys.length && r))) s) : wpAny (model P w) A (compareOp .NotEq (.ref a) (.ref b)) Q E s := by
  refine wpAny_richCompare_same_room (op := .NotEq) ga.ty gb.ty PySem.F.slot_dict_ne (wpAny_call_entry PySem.F.slot_dict_ne ga.ty PySem.F.entry_dict_ne ?_ (PySem.F.args_dict_ne_2 _ _)) (by omega)
  show wpAny _ _ (Builtin.Dict.dictSlotArgs "__ne__" ⟨[.ref a, .ref b], []⟩ >>= _) _ _ s
  unfold Builtin.Dict.dictSlotArgs; refine wpAny_bind (wpAny_bind (wpAny_notOrdered_dict ga.ty ?_))
  show wpAny _ _ (pure (Value.ref a, Value.ref b)) _ _ s
  refine wpAny_pure (wpAny_bind (wpAny_isInstance (T := "dict") gb.ty PySem.F.sub_dict_dict ?_))
  simp only [Bool.not_true, Bool.false_eq_true, if_false]; refine wpAny_bind (wpAny_pure (wpAny_bind (wpAny_pure (wpAny_bind (same_key ha hb ga gb (by show A.units + 1 + 8 < _; omega) hits (wpAny_pure ⟨_, rfl, (by intro x; cases x), ?_⟩))))))
  simpa using h
end
/-- a value that can be compared -/
def okW (m : Store) (d : D) : Bool := match whole m d with
  | some p => SeqAt.shaped p
  | none => false
def eqW (m : Store) (x y : D) : Bool := match whole m x, whole m y with
  | some p, some q => PyData.eqv p q
  | _, _ => false
/-- entry by entry -/
def hitD (m : Store) (kb : List (PyData × D)) (q : PyData × D) : Bool := match nk q.1 with
  | some k => (match lkD kb k with
    | some d => eqW m q.2 d
    | none => false)
  | none => false
def eqDc (neg : Bool) (x y : D) (m : Store) : OD := match dctOf x m, dctOf y m with
  | some ka, some kb => if ka.all (fun q => okW m q.2) = true ∧ kb.all (fun q => okW m q.2) = true then some (.p (.bool (if neg then !(ka.length == kb.length && ka.all (hitD m kb)) else (ka.length == kb.length && ka.all (hitD m kb)))), m) else none
  | _, _ => none
section
variable {X : Cx} {pins : List (Addr × Obj)} {σ : St} {H : Hp} {s : Shared} {c : Anc} {m : Store}
theorem eqW_run {A : Around} (I : Inv X pins σ H s) (r : RelS X.kw c m H) {v v' : V} {u u' : Value} {d d' : D} (h : VD X.kw H c v d) (h' : VD X.kw H c v' d') (ru : RelV v u) (ru' : RelV v' u') (o : okW m d = true) (o' : okW m d' = true) (hu : A.units + 64 < cLine) :
    SeqAt.EqP X.prog X.w A s u u' (eqW m d d') := by
  unfold okW at o o'; unfold eqW
  cases e : whole m d with
  | none => rw [e] at o; cases o
  | some p =>
    cases e' : whole m d' with
    | none => rw [e'] at o'; cases o'
    | some q =>
      rw [e] at o; rw [e'] at o'
      obtain ⟨as, ra⟩ := (DpA.rds I (deep_ok r 8 _ _ _ h e) ru).reads
      obtain ⟨bs, rb⟩ := (DpA.rds I (deep_ok r 8 _ _ _ h' e') ru').reads
      exact SeqAt.EqAt.eqP (SeqAt.eqAt_reads p q A s u u' as bs ra rb (SeqAt.canLay_of_shaped o) (SeqAt.canLay_of_shaped o') (SeqAt.room_of_shaped o hu))
theorem lkD_ok {kb : List (PyData × D)} {k : NestedKey} {d : D} (h : kb.all (fun q => okW m q.2) = true) (e : lkD kb k = some d) : okW m d = true := by
  unfold lkD at e
  obtain ⟨q, q1, rfl⟩ := Option.map_eq_some_iff.mp e
  exact (List.all_eq_true.mp h) q (List.mem_of_find?_eq_some q1)
theorem hits_run {A : Around} (I : Inv X pins σ H s) (r : RelS X.kw c m H) (hu : A.units + 64 < cLine) {eb : List (NestedKey × V × V)} {ys : List Ent} {kb : List (PyData × D)} (pb : Paired EntV eb ys) (rb : DctR X.kw H c eb kb) (ob : kb.all (fun q => okW m q.2) = true) :
    ∀ {ea : List (NestedKey × V × V)} {xs : List Ent} {ka : List (PyData × D)}, Paired EntV ea xs → ea.map (fun e => some e.1) = ka.map (fun q => nk q.1) → VDs X.kw H c (ea.map (·.2.2)) (ka.map (·.2)) → ka.all (fun q => okW m q.2) = true → Hit X.prog X.w A s ys xs (ka.all (hitD m kb))
  | _, _, [], .nil, _, _, _ => .nil
  | _, _, _ :: _, .nil, e, _, _ => by cases e
  | _, _, [], .cons _ _, e, _, _ => by cases e
  | _, _, q :: ka, .cons (a := e) (b := x) (l₁ := es) h t, ek, hv, ok => by
    simp only [List.map_cons, List.cons.injEq] at ek
    simp only [List.map_cons] at hv
    unfold VDs at hv
    obtain ⟨v, vs, e1, h1, h2⟩ := hv
    simp only [List.cons.injEq] at e1
    obtain ⟨rfl, rfl⟩ := e1
    simp only [List.all_cons, Bool.and_eq_true] at ok
    have ih := hits_run I r hu pb rb ob t ek.2 h2 ok.2
    have nkq : nk q.1 = some x.1 := by rw [← ek.1, h.1]
    rw [List.all_cons]
    unfold hitD
    rw [nkq]
    simp only
    cases hl : lkD kb x.1 with
    | none => exact Hit.miss (lk_none pb rb.key hl)
    | some d =>
      obtain ⟨v, u, k1, k2, k3⟩ := lk_some pb rb.key rb.vd hl
      exact Hit.hit k1 (eqW_run I r h1 k3 h.2.2 k2 ok.1 (lkD_ok ob hl) hu) ih
theorem Paired.len2 {α β : Type} {R : α → β → Prop} : ∀ {xs : List α} {ys : List β}, Paired R xs ys → xs.length = ys.length
  | _, _, .nil => rfl
  | _, _, .cons _ t => by rw [List.length_cons, List.length_cons, Paired.len2 t]
theorem DctR.lenK {es : List (NestedKey × V × V)} {ka : List (PyData × D)} (h : DctR X.kw H c es ka) : es.length = ka.length := by
  have := congrArg List.length h.key
  simpa using this
theorem op_eqDc (hu : X.A.units + 66 < cLine) : OpR X (compareOp .Eq) (rOf X.kw (eqDc false)) := by
  intro pins s σ H x y v u Q I rx ry h
  obtain ⟨c, m, dx, dy, r, h1, h2, w⟩ := h
  unfold eqDc at w
  split at w
  · rename_i ka kb ea eb
    split at w
    · rename_i hc
      obtain ⟨a, es, rfl, k1, k2⟩ := dctOf_ok r h1 ea
      obtain ⟨b, fs, rfl, j1, j2⟩ := dctOf_ok r h2 eb
      cases rx; cases ry
      obtain ⟨s1, xs, g1, p1⟩ := gd_at I k1 k2
      obtain ⟨s2, ys, g2, p2⟩ := gd_at I j1 j2
      refine eq_key s1 s2 g1 g2 (by omega) (fun _ => hits_run I r (by show X.A.units + 1 + 64 < _; omega) p2 j2 hc.2 p1 k2.key k2.vd hc.1) ?_
      rw [← Paired.len2 p1, ← Paired.len2 p2, k2.lenK, j2.lenK]
      exact ⟨.bl _, H, I, rfl, w.now r (VD.bl.mpr rfl)⟩
    · exact w.elim
  · exact w.elim
theorem op_neDc (hu : X.A.units + 66 < cLine) : OpR X (compareOp .NotEq) (rOf X.kw (eqDc true)) := by
  intro pins s σ H x y v u Q I rx ry h
  obtain ⟨c, m, dx, dy, r, h1, h2, w⟩ := h
  unfold eqDc at w
  split at w
  · rename_i ka kb ea eb
    split at w
    · rename_i hc
      obtain ⟨a, es, rfl, k1, k2⟩ := dctOf_ok r h1 ea
      obtain ⟨b, fs, rfl, j1, j2⟩ := dctOf_ok r h2 eb
      cases rx; cases ry
      obtain ⟨s1, xs, g1, p1⟩ := gd_at I k1 k2
      obtain ⟨s2, ys, g2, p2⟩ := gd_at I j1 j2
      refine ne_key s1 s2 g1 g2 (by omega) (fun _ => hits_run I r (by show X.A.units + 1 + 64 < _; omega) p2 j2 hc.2 p1 k2.key k2.vd hc.1) ?_
      rw [← Paired.len2 p1, ← Paired.len2 p2, k2.lenK, j2.lenK]
      exact ⟨.bl _, H, I, rfl, w.now r (VD.bl.mpr rfl)⟩
    · exact w.elim
  · exact w.elim
end
end L2.Dn
namespace L2.Dn
open PySem PySem.Spec PyProof.Rows L2
/-! ### ==, != of an instance of an own class with its own __eq__, and anything -/
theorem ne_sl : Slot "object" "__ne__" "object.__ne__" := Slot.of (owner := "object") (n := "__ne__") (by rw [typeLookup_type, builtinLookup_eq_fast]; kernel_rfl) (by decide +kernel) (by decide +kernel) (by decide +kernel) (.inl (by decide +kernel)) (by rw [isSubtype_type]; kernel_rfl)
section
open PySem.W
variable {prog : Program} {w : World} {A : Around} {E : Value → Shared → Prop} {s : Shared} {K : Frag} {x C L f : Addr} {h₀ : Heap} {m : Str → Option Value} {ox : Obj} {od : Option Obj} {name : Str} {b tb : Value}
theorem ifB_K {M : Model} {args : List Value} {id : String} {Q : Option Value → Shared → Prop} (X : K.In s.heap) (I : InstAt s.heap x ox C od) (hs : findIn K (.ref C) name = some (some (.builtin id))) (hf : ∀ self, bindSpecial (.builtin id) self = pure (.builtin id, [self]))
    (h : wpAny M A (call (.builtin id) (.ref x :: args)) (fun v => Q (some v)) E s) : wpAny M A (callSpecialIfBound? (.ref x) name args) Q E s := by
  simp only [callSpecialIfBound?, bindSpecialIfBound?]
  refine wpAny_holding (wpAny_bind (wpAny_bind (wpAny_bind (I.type.here ((looks_findIn X hs).here (wpAny_bind (wpAny_askSetting (wpAny_ite ?_))))))))
  have fin : wpAny M A (call (.builtin id) ([.ref x] ++ args) >>= fun v => pure (some v)) Q E s := wpAny_bind (thn h fun v s' h' => wpAny_pure h')
  split
  · rw [hf]; exact wpAny_bind (wpAny_pure (wpAny_pure (by exact fin)))
  · rw [hf]; exact wpAny_tryCatch (wpAny_bind (wpAny_pure (wpAny_pure (by exact fin))))
theorem ne_body {Q : Fin → Shared → Prop} (hu : A.units < cLine) (X : K.In s.heap) (I : InstAt s.heap x ox C od) (he : findIn K (.ref C) "__eq__" = some (some (.ref f))) (hf : isFn K (.ref f) = true)
    (h : wpAny (model prog w) A (call (.ref f) [.ref x, b]) (fun v s' => ∃ k, v = .bool k ∧ Q (.done (.ret (.bool (!k)))) s') E s) : wpAny (model prog w) A (Builtin.«object.__ne__» ⟨[.ref x, b], []⟩) Q E s := by
  unfold Builtin.«object.__ne__»
  refine wpAny_bind (wpAny_pure (wpAny_bind (wpAny_cRoomFor hu (wpAny_bind (ifBound_K X I he hf (thn h ?_))))))
  rintro v s' ⟨k, rfl, q⟩
  exact wpAny_bind (wpAny_truthy_bool (wpAny_pure q))
theorem ne_K {Q : Value → Shared → Prop} (hu : A.units + 1 < cLine) (F : Fr h₀ L s.heap m) (X₀ : K.In h₀) (I : InstAt s.heap x ox C od) (hb : Looks (model prog w) s.heap (typeOf b) tb) (hn : notFirst K C tb = true)
    (he : findIn K (.ref C) "__eq__" = some (some (.ref f))) (hf : isFn K (.ref f) = true) (hne : findIn K (.ref C) "__ne__" = some (some (.builtin "object.__ne__"))) (ho : subIn K (.ref C) (.type "object") = some true)
    (h : wpAny (model prog w) A.in1 (call (.ref f) [.ref x, b]) (fun v s' => ∃ k, v = .bool k ∧ Q (.bool (!k)) s') E s) : wpAny (model prog w) A (richCompare .NotEq (.ref x) b) Q E s := by
  have X := X₀.keeps F.keep
  have one : wpAny (model prog w) A (tryCompare (.ref x) "__ne__" b) (fun r s' => ∃ k, r = some (.bool k) ∧ Q (.bool k) s') E s := by
    unfold tryCompare
    refine wpAny_bind (ifB_K X I hne ne_sl.bind (wpAny_call (codeAny_call_builtin ne_sl.plain PySem.F.cmpEntry_ne (check_slot PySem.F.cmpKind_ne PySem.F.cmpSplit_ne (I.type.andThen (looks_subIn X ho)) (PySem.F.cmpArgs_ne _ _) (ne_body (A := A.in1) hu X I he hf (thn h ?_))))))
    rintro v s' ⟨k, rfl, q⟩
    exact ⟨k, rfl, wpAny_pure ⟨_, rfl, q⟩⟩
  unfold richCompare
  simp only [oneThing_ref]
  refine wpAny_holding (wpAny_bind (wpAny_cRoomFor (by omega) (wpAny_bind (I.type.here (wpAny_bind (hb.here ?_))))))
  split
  · rename_i q
    have e : subIn K tb (.ref C) = some false := by
      rcases Bool.or_eq_true_iff.mp hn with e | e
      · rw [beq_iff_eq.mp e] at q; simp at q
      · exact beq_iff_eq.mp e
    refine wpAny_bind ((looks_subIn X e).here ?_)
    simp only [Bool.false_eq_true, if_false]
    refine wpAny_bind (thn one ?_)
    rintro r s' ⟨k, rfl, hq⟩
    exact wpAny_pure hq
  · refine wpAny_bind (wpAny_pure ?_)
    simp only [Bool.false_eq_true, if_false]
    refine wpAny_bind (thn one ?_)
    rintro r s' ⟨k, rfl, hq⟩
    exact wpAny_pure hq
end
/-- the class, its __eq__, no own __ne__, no built-in type under it -/
def EqU (X : Cx) (q : Str × Den) : Prop := ∃ (Ca g : Addr) (fd : FuncData) (ps : List Str) (k : Nat), X.mg q.1 = some (.ref Ca) ∧ PySem.W.findIn X.K (.ref Ca) "__eq__" = some (some (.ref g)) ∧ PySem.W.isFn X.K (.ref g) = true ∧ PySem.W.findIn X.K (.ref Ca) "__ne__" = some (some (.builtin "object.__ne__")) ∧
  PySem.W.subIn X.K (.ref Ca) (.type "object") = some true ∧ (∀ t ∈ ["NoneType", "bool", "int", "str", "list", "tuple", "dict"], PySem.W.subIn X.K (.type t) (.ref Ca) = some false) ∧ FnG X.prog X.w X.K X.mg X.base k g fd ps (spD X.kw.cold 2 q.2) ∧ Room (k + 1) X.A ∧ Binds X.K fd ps []
def notR : OD → OD
  | some (.p (.bool b), m) => some (.p (.bool (!b)), m)
  | _ => none
/-- y is of the class, or of a built-in type -/
def eqY (C : Str) (y : D) (m : Store) : Bool := match insN y m with
  | some (C', _) => C = C'
  | none => (tyN y m).isSome
def eqI (l : List (Str × Den)) (x y : D) (m : Store) : OD := match insN x m with
  | some (C, _) => if eqY C y m then (match l.lookup C with
    | some den => blR (callR den [x, y] m)
    | none => none) else none
  | none => none
def eqIN (neg : Bool) (l : List (Str × Den)) (x y : D) (m : Store) : OD := if neg then notR (eqI l x y m) else eqI l x y m
section
variable {X : Cx} {c : Anc} {m : Store} {σ : St} {H : Hp} {l : List (Str × Den)} {pins : List (Addr × Obj)} {s : Shared}
theorem run_gA {A : Around} {k : Nat} {fn : Addr} {fd : FuncData} {ps : List Str} {sp : Sp} {Q : VK} {us : List Value} {vs : List V} (F : FnG X.prog X.w X.K X.mg X.base k fn fd ps sp) (hG : A.guards = some []) (hr : Room k A) (hf : A.frames = X.A.frames) (hb : Binds X.K fd ps [])
    (I : Inv X pins σ H s) (r : Vals vs us) (h : sp vs H Q (L2.WE Wno σ)) : wpAny (model X.prog X.w) A (call (.ref fn) us) (EP X pins σ Q) X.xe s := by
  have hl : us.length = ps.length := by rw [← r.length]; exact F.len _ _ _ _ h
  have bd := hb s us I.kIn (by rw [List.append_nil]; exact hl)
  rw [List.append_nil] at bd
  have e0 : Env0 X.prog X.w X.K X.mg X.base A X.stack s H := by
    have e := I.env0
    exact { e with frames := by rw [hf]; exact e.frames }
  refine wpAny_call (codeAny_mono (F.go A X.stack s H ⟨us, []⟩ us vs Q (L2.WE Wno σ) hG hr e0 bd r h) fun out s' q => ?_)
  match out, q with
  | .error e, q => exact passAt takes0 σ pins H s e s' I q
  | .ok (.ret u), q => exact I.after q
/-- what a comparison starts from -/
theorem eqY_ty {C : Str} {Ca : Addr} {y : D} {v : V} {u : Value} (I : Inv X pins σ H s) (r : RelS X.kw c m H) (hC : X.mg C = some (.ref Ca)) (hs : ∀ t ∈ ["NoneType", "bool", "int", "str", "list", "tuple", "dict"], PySem.W.subIn X.K (.type t) (.ref Ca) = some false)
    (hv : VD X.kw H c v y) (rv : RelV v u) (e : eqY C y m = true) : ∃ tb, PySem.W.Looks (model X.prog X.w) s.heap (typeOf u) tb ∧ PySem.W.notFirst X.K Ca tb = true := by
  unfold eqY at e
  cases q : insN y m with
  | some p =>
    obtain ⟨C', ns⟩ := p
    rw [q] at e
    have e : C = C' := by simpa using e
    subst e
    obtain ⟨b, Cb, db, gs, rfl, j1, j2, _⟩ := insN_rd r hv q
    have e4 := j1.symm.trans hC
    cases e4
    cases rv
    obtain ⟨ox', od', J', hd'⟩ := rd_inst I j2
    exact ⟨_, J'.type, by simp [PySem.W.notFirst]⟩
  | none =>
    rw [q] at e
    obtain ⟨t, ht⟩ := Option.isSome_iff_exists.mp e
    obtain ⟨P, Z, p, _⟩ := kitG I rv (tyN_ok r hv ht)
    refine ⟨_, Z.ty _ _ I.kIn p, ?_⟩
    simp [PySem.W.notFirst, hs t (tyN_mem ht)]
theorem op_eqI (hG : X.A.guards = some []) (hl : ∀ q ∈ l, EqU X q) : OpR X (compareOp .Eq) (rOf X.kw (eqIN false l)) := by
  intro pins s σ H x y v u Q I rx ry hq
  obtain ⟨c, m, dx, dy, r, h1, h2, w⟩ := hq
  show wpAny (model X.prog X.w) X.A (richCompare .Eq v u) (EP X pins σ Q) X.xe s
  have w : WantO X.kw c H (eqI l dx dy m) Q := w
  unfold eqI at w
  split at w
  · rename_i C ns e1
    split at w
    · rename_i ey
      cases q : l.lookup C with
      | none => rw [q] at w; exact w.elim
      | some den =>
        rw [q] at w
        obtain ⟨a, Ca, da, fs, rfl, k1, k2, _⟩ := insN_rd r h1 e1
        obtain ⟨Cc, g, fd, ps, k, t1, t2, t3, t4, t4', t4'', t5, t6, t7⟩ := hl (C, den) (lookup_memA q)
        have e3 := k1.symm.trans t1
        cases e3
        cases rx
        obtain ⟨tb, b1, b2⟩ := eqY_ty I r t1 t4'' h2 ry ey
        obtain ⟨ox, od, J, hd⟩ := rd_inst I k2
        obtain ⟨mm, hF⟩ := I.fr
        refine PySem.W.cmp_K (op := .Eq) (tb := tb) t6.units0 hF I.ok.mod.kin J b1 b2 t2 t3 ?_
        have sp := callR_sp (W := Wno) (ds := [dx, dy]) (vs := [.ref a, y]) (n := 2) r (by unfold VDs; exact ⟨_, _, rfl, h1, VDs.one h2⟩) rfl (blR_want (σ := σ) w)
        have rvs : Vals [V.ref a, y] [Value.ref a, u] := .cons rfl (.cons ry .nil)
        refine thn (run_g t5 hG (t6.mono (by omega)) t7 takes0 I rvs sp) ?_
        rintro z s' ⟨vz, H', I', rz, ⟨bz, rfl⟩, qz⟩
        cases rz
        exact ⟨.bl bz, H', I', rfl, qz⟩
    · exact w.elim
  · exact w.elim
theorem notR_want {r : Res D} {Q : VK} (w : WantO X.kw c H (notR (blR r)) Q) : Want X Wno c H σ r (fun v H' => ∃ b, v = .bl b ∧ Q (.bl (!b)) H') := by
  unfold blR at w
  split at w
  · exact fun c' v H' g hv => ⟨_, VD.bl.mp hv, w c' _ H' g (VD.bl.mpr rfl)⟩
  · exact w.elim
theorem op_neI (hG : X.A.guards = some []) (hl : ∀ q ∈ l, EqU X q) : OpR X (compareOp .NotEq) (rOf X.kw (eqIN true l)) := by
  intro pins s σ H x y v u Q I rx ry hq
  obtain ⟨c, m, dx, dy, r, h1, h2, w⟩ := hq
  show wpAny (model X.prog X.w) X.A (richCompare .NotEq v u) (EP X pins σ Q) X.xe s
  have w : WantO X.kw c H (notR (eqI l dx dy m)) Q := w
  unfold eqI at w
  split at w
  · rename_i C ns e1
    split at w
    · rename_i ey
      cases q : l.lookup C with
      | none => rw [q] at w; exact w.elim
      | some den =>
        rw [q] at w
        obtain ⟨a, Ca, da, fs, rfl, k1, k2, _⟩ := insN_rd r h1 e1
        obtain ⟨Cc, g, fd, ps, k, t1, t2, t3, t4, t4', t4'', t5, t6, t7⟩ := hl (C, den) (lookup_memA q)
        have e3 := k1.symm.trans t1
        cases e3
        cases rx
        obtain ⟨tb, b1, b2⟩ := eqY_ty I r t1 t4'' h2 ry ey
        obtain ⟨ox, od, J, hd⟩ := rd_inst I k2
        obtain ⟨mm, hF⟩ := I.fr
        refine ne_K (tb := tb) (by have := t6.un; omega) hF I.ok.mod.kin J b1 b2 t2 t3 t4 t4' ?_
        have sp := callR_sp (W := Wno) (ds := [dx, dy]) (vs := [.ref a, y]) (n := 2) r (by unfold VDs; exact ⟨_, _, rfl, h1, VDs.one h2⟩) rfl (notR_want (σ := σ) w)
        have rvs : Vals [V.ref a, y] [Value.ref a, u] := .cons rfl (.cons ry .nil)
        refine thn (run_gA (A := X.A.in1) t5 hG t6.in1 rfl t7 I rvs sp) ?_
        rintro z s' ⟨vz, H', I', rz, bz, rfl, qz⟩
        cases rz
        exact ⟨bz, rfl, .bl (!bz), H', I', rfl, qz⟩
    · exact w.elim
  · exact w.elim
end
/-! ### == and != of all kinds -/
def eqH (neg : Bool) (l : List (Str × Den)) := altO (eqG neg) (altO (eqDc neg) (eqIN neg l))
section
variable {X : Cx} {l : List (Str × Den)}
theorem op_eqH (hu : X.A.units + 66 < cLine) (hG : X.A.guards = some []) (hl : ∀ q ∈ l, EqU X q) : OpR X (compareOp .Eq) (rOf X.kw (eqH false l)) := OpR.alt (op_eqG' (by omega)) (OpR.alt (op_eqDc hu) (op_eqI hG hl))
theorem op_neH (hu : X.A.units + 66 < cLine) (hG : X.A.guards = some []) (hl : ∀ q ∈ l, EqU X q) : OpR X (compareOp .NotEq) (rOf X.kw (eqH true l)) := OpR.alt (op_neG' (by omega)) (OpR.alt (op_neDc hu) (op_neI hG hl))
theorem u66 {k : Nat} {A : Around} (hr : Room k A) : A.units + 66 < cLine := by have := hr.un; omega
end
end L2.Dn
namespace L2.Dn
open PySem PySem.Spec PyProof.Rows L2
/-! ### what is walked while it is held: under two locks, so that no datum leans on it -/
def twice : HO → Bool
  | .frz _ (.frz _ _) => true
  | _ => false
/-- all that stays, but for what is held -/
def ExtX (H H' : Hp) : Prop := ∀ b u, liveO u = false → twice u = false → H b = some u → H' b = some u
theorem FzL.extX {K : PySem.W.Frag} {H H' : Hp} {a : Addr} {xs : List V} (h : FzL K H a xs) (e : ExtX H H') : FzL K H' a xs := by
  rcases h with ⟨o, h⟩ | h
  · exact .inl ⟨o, e _ _ rfl rfl h⟩
  · exact .inr h
theorem SqT.extX {K : PySem.W.Frag} {H H' : Hp} {a : Addr} {xs : List V} (h : SqT K H a xs) (e : ExtX H H') : SqT K H' a xs := by
  rcases h with (h | ⟨o, h⟩) | h
  · exact .inl (.inl (e _ _ rfl rfl h))
  · exact .inl (.inr ⟨o, e _ _ rfl rfl h⟩)
  · exact .inr h
mutual
theorem DpZ.extX {K : KW} {H H' : Hp} (e : ExtX H H') : ∀ {v : V} {d : PyData}, DpZ K H v d → DpZ K H' v d
  | _, _, .non => .non
  | _, _, .bl b => .bl b
  | _, _, .int i => .int i
  | _, _, .str x => .str x
  | _, _, .lst h r => .lst (h.extX e) (DpZs.extX e r)
  | _, _, .tup h r => .tup (SqT.extX h e) (DpZs.extX e r)
  | _, _, .dG h q h8 hn r r' => .dG (e _ _ rfl rfl h) q h8 hn (DpZs.extX e r) (DpZs.extX e r')
theorem DpZs.extX {K : KW} {H H' : Hp} (e : ExtX H H') : ∀ {vs : List V} {ds : List PyData}, DpZs K H vs ds → DpZs K H' vs ds
  | _, _, .nil => .nil
  | _, _, .cons h r => .cons (DpZ.extX e h) (DpZs.extX e r)
end
theorem DctK.extX {K : KW} {H H' : Hp} {es : List (NestedKey × V × V)} {ks : List PyData} (r : DctK K H es ks) (e : ExtX H H') : DctK K H' es ks := ⟨r.key, r.dp, r.nd, r.kd.extX e⟩
mutual
theorem VD.monoX {K : KW} {H H' : Hp} {c : Anc} (e : ExtX H H') : ∀ {v : V} (d : D), VD K H c v d → VD K H' c v d
  | v, .p d, r => by unfold VD at r ⊢; exact DpZ.extX e r
  | v, .cell i, r => by unfold VD at r ⊢; exact r
  | v, .tup xs, r => by
    unfold VD at r ⊢
    obtain ⟨a, vs, h1, h2, h3⟩ := r
    exact ⟨a, vs, h1, SqT.extX h2 e, VDs.monoX e xs h3⟩
  | v, .lst xs, r => by
    unfold VD at r ⊢
    obtain ⟨a, vs, h1, h2, h3⟩ := r
    exact ⟨a, vs, h1, h2.extX e, VDs.monoX e xs h3⟩
  | v, .dct ks xs, r => by
    unfold VD at r ⊢
    obtain ⟨a, o, es, h1, h2, h3, h4⟩ := r
    exact ⟨a, o, es, h1, e _ _ rfl rfl h2, h3.extX e, VDs.monoX e xs h4⟩
  | v, .obj C ns xs, r => by
    unfold VD at r ⊢
    obtain ⟨a, o, Ca, dx, fs, h1, h2, h3, h4, h5⟩ := r
    exact ⟨a, o, Ca, dx, fs, h1, h2, e _ _ rfl rfl h3, h4, VDs.monoX e xs h5⟩
  | v, .exn C ns xs, r => by
    unfold VD at r ⊢
    obtain ⟨a, oe, Ca, d, fs, h1, h2, h3, h4, h5, h6, h7⟩ := r
    refine ⟨a, oe, Ca, d, fs, h1, h2, h3, h4, h5, h6.imp id ?_, VDs.monoX e xs h7⟩
    rintro ⟨dx, q1, q2, q3⟩
    exact ⟨dx, q1, e _ _ rfl rfl q2, q3⟩
  | v, .fn x, r => by unfold VD at r ⊢; exact r
  | v, .ty n, r => by unfold VD at r ⊢; exact r
theorem VDs.monoX {K : KW} {H H' : Hp} {c : Anc} (e : ExtX H H') : ∀ {vs : List V} (ds : List D), VDs K H c vs ds → VDs K H' c vs ds
  | vs, [], r => by unfold VDs at r ⊢; exact r
  | vs, d :: ds, r => by
    unfold VDs at r ⊢
    obtain ⟨v, q, h1, h2, h3⟩ := r
    exact ⟨v, q, h1, VD.monoX e d h2, VDs.monoX e ds h3⟩
end
theorem DctR.monoX {K : KW} {H H' : Hp} {c : Anc} {es : List (NestedKey × V × V)} {kvs : List (PyData × D)} (r : DctR K H c es kvs) (e : ExtX H H') : DctR K H' c es kvs := ⟨r.key, r.dp, r.nd, r.kd.extX e, VDs.monoX e _ r.vd⟩
theorem Slo.monoX {K : KW} {H H' : Hp} {c : Anc} {ρ : Rho} {σ : St} (s : Slo K H c ρ σ) (e : ExtX H H') : Slo K H' c ρ σ := ⟨s.1, fun i d q => let ⟨v, h1, h2⟩ := s.2 i d q; ⟨v, h1, VD.monoX e d h2⟩⟩
section
variable {K : KW} {c c' : Anc} {m m2 : Store} {H H2 : Hp} {i : Ix} {a : Addr} {u : HO} {x0 : Cell} {o : Obj}
theorem extX_drop (h : H a = some (.frz o (.frz o u))) : ExtX H (upd H a u) := fun b w l t e => by
  rw [upd_ne (fun z => by rw [z, h] at e; cases e; cases t)]; exact e
theorem RelS.hold (r : RelS K c m H) (hi : c.at_ i = some a) (hm : m.at_ i = some x0) (lx : x0 ≠ .gone) (ha : H a = some u) (lu : liveO u = true) : Gd K c c (m.set .gone i) H (upd H a (.frz o (.frz o u))) := r.putC hi hm lx ha lu ⟨_, _, upd_same⟩
theorem Gd.thaw (r : RelS K c m H) (hi : c.at_ i = some a) (hm : m.at_ i = some x0) (ha : H a = some u) (lu : liveO u = true) (g : Gd K c c' m2 (upd H a (.frz o (.frz o u))) H2) (hg : m2.at_ i = some .gone) : Gd K c c' (m2.set x0 i) H (upd H2 a u) := by
  have h2 : H2 a = some (.frz o (.frz o u)) := g.ext _ _ rfl upd_same
  have ex : Ext H (upd H2 a u) := fun b w l e => by
    have ne : b ≠ a := fun z => by rw [z, ha] at e; cases e; rw [lu] at l; cases l
    rw [upd_ne ne]
    exact g.ext b w l (by rw [upd_ne ne]; exact e)
  have hi' := pre_get g.pre hi
  refine ⟨g.pre, ex, fun b hb => (g.new b hb).imp id fun e => ?_, fun b w hb e => ?_, ?_, g.rel.inj, fun j b x h1 hx => ?_⟩
  · by_cases z : b = a
    · rw [z, upd_same] at e; cases e
    · rw [upd_ne z] at e; exact e
  · have ne : b ≠ a := fun z => hb ⟨i, by rw [z]; exact hi⟩
    rw [upd_ne ne]
    exact g.frame b w hb (by rw [upd_ne ne]; exact e)
  · rw [(set_len m2 x0 i).1, (set_len m2 x0 i).2]; exact g.rel.len
  · rcases set_split hx with ⟨p1, p2⟩ | ⟨p1, p2⟩
    · subst p1 p2
      rw [hi'] at h1
      cases h1
      exact (r.at_ j a x hi hm).mono ex (forI_pre g.pre j) fun w _ e => by rw [upd_same, ← e, ha]
    · have ne : b ≠ a := fun z => p1 (g.rel.inj j i a (z ▸ h1) hi')
      have q := g.rel.at_ j b x h1 p2
      have eX := extX_drop h2
      cases x with
      | lst ds => obtain ⟨xs, e, hv⟩ := q; exact ⟨xs, by rw [upd_ne ne]; exact e, VDs.monoX eX _ hv⟩
      | dct kvs => obtain ⟨es, e, hv⟩ := q; exact ⟨es, by rw [upd_ne ne]; exact e, hv.monoX eX⟩
      | ins C fs => obtain ⟨Ca, dx, vs, e, e1, e2, hv⟩ := q; exact ⟨Ca, dx, vs, by rw [upd_ne ne]; exact e, e1, e2, VDs.monoX eX _ hv⟩
      | gone => obtain ⟨o, u, e⟩ := q; exact ⟨o, u, by rw [upd_ne ne]; exact e⟩
end
section
variable {X : Cx} {pins : List (Addr × Obj)} {σ : St} {H : Hp} {s : Shared} {a : Addr} {u : HO}
theorem _root_.L2.Inv.hold (I : Inv X pins σ H s) (h : H a = some u) (mu : Mut (some u)) : ∃ o, Inv X pins σ (upd H a (.frz o (.frz o u))) s := by
  obtain ⟨o, I1⟩ := I.lock h mu
  have z := I1.hok a _ upd_same
  refine ⟨o, I.write (x := a) (e := a) (t' := s.toks) (h' := s.heap) (by rw [h]; exact mu) (.inl rfl) (fun b v _ q => q) ⟨o, z.1⟩ ⟨z.1, z.1, (I.hok a u h).stay (fun b v _ q => q) (fun b q => ?_) fun b xs q => ?_⟩⟩
  all_goals (rw [upd_ne (fun z => by rw [z, h] at q; cases q; exact mu)]; exact q)
theorem _root_.L2.Inv.drop2 {o : Obj} (I : Inv X pins σ H s) (h : H a = some (.frz o (.frz o u))) (hn : ∀ o' u', X.H_0 a ≠ some (.frz o' u')) : Inv X pins σ (upd H a u) s := by
  have I2 := (I.unlock h hn).unlock upd_same hn
  rw [upd_upd] at I2
  exact I2
end
/-! ### the turns of a held list -/
def ItlH (a : Addr) (o : Obj) (xs : List V) : It := ⟨fun i H => (∃ u, H a = some (.frz o u)) ∧ ∃ x, xs[i]? = some x, fun i H x H' => H' = H ∧ xs[i]? = some x, fun i H => (∃ u, H a = some (.frz o u)) ∧ xs.length ≤ i⟩
theorem turn_listH {P : Program} {w : World} {K : PySem.W.Frag} {tg : Expr} {a : Addr} {o : Obj} {xs : List V} {its : List Value} {n : Nat} (it : Addr) (ho : o = { cls := .type "list", data := .seq its.toArray n }) (rv : Vals xs its) :
    Turn P w K tg (ItlH a o xs) [it] it (fun i h => h.IsListIter it a i) where
  mem := List.mem_singleton.mpr rfl
  obj := fun i h st b hb => by
    obtain rfl := List.mem_singleton.mp hb
    obtain ⟨oi, e1, _, e2⟩ := st
    exact ⟨oi, e1, fun v z => nomatch (e2.symm.trans z)⟩
  keep := fun i h h' st k => st.at fun oi e => k it (List.mem_singleton.mpr rfl) oi e
  item := by
    intro X hP hw hK hc i pins s σ H E I hf st hg
    cases hP; cases hw; cases hK
    obtain ⟨⟨u0, q1⟩, x, q2⟩ := hg
    obtain ⟨f0, f1, f2, f3, f4, f5⟩ := hf it (List.mem_singleton.mpr rfl)
    have ha : s.heap.get? a = some o := (I.hok a _ q1).1
    rw [ho] at ha
    obtain ⟨v, hv, r⟩ := rv.get q2
    refine wpAny_pyNext_list_item st ⟨_, ha, rfl, ⟨_, rfl⟩⟩ (x := v) (by simpa using hv) fun h1 i1 sb => ?_
    have J : Inv X pins σ H { s with heap := h1 } := I.turned (t' := s.toks) (fun b ob hb e => (sb.2 b hb).trans e) f0 f1 f3 f4 f5
    obtain ⟨oi, e1, e2, e3⟩ := id i1
    exact ⟨_, rfl, go_of (s := { s with heap := h1 }) e1 e2 e3 (by decide) ⟨x, H, J, r, ⟨rfl, q2⟩, i1, fun b hb => (hf b hb).1⟩⟩
  done := by
    intro X hP hw hK hc i pins s σ H E I hf st hg
    cases hP; cases hw; cases hK
    obtain ⟨⟨u0, q1⟩, q2⟩ := hg
    obtain ⟨f0, f1, f2, f3, f4, f5⟩ := hf it (List.mem_singleton.mpr rfl)
    have ha : s.heap.get? a = some o := (I.hok a _ q1).1
    rw [ho] at ha
    have hl := rv.length
    exact wpAny_pyNext_list_end (I.ok.hd hc) st ⟨_, ha, rfl, ⟨_, rfl⟩⟩ (by simp; omega) fun h1 eb => ⟨rfl, I.turned (t' := s.toks) (fun b ob hb e => eb b ob hb e) f0 f1 f3 f4 f5⟩
  self := fun A i s Q E st h => wpAny_pyIter_listiter st h
end L2.Dn
namespace L2.Dn
open PySem PySem.Spec PyProof.Rows L2
/-! ### loops and comprehensions over a variable's own list or dict -/
inductive Hk where
  | walk
  | items
  | values
def heldL : Hk → Cell → Option (List D)
  | .walk, .dct kvs => some ((kvs.map (·.1)).map D.p)
  | .items, .dct kvs => some (prs (kvs.map (·.1)) (kvs.map (·.2)))
  | .values, .dct kvs => some (kvs.map (·.2))
  | .walk, .lst xs => some xs
  | _, _ => none
def HeldC (K : KW) (H : Hp) (c : Anc) (a : Addr) (u : HO) : Cell → Prop
  | .lst xs => ∃ vs, u = .lst vs ∧ VDs K H c vs xs
  | .dct kvs => ∃ es, u = gdO K.w a es ∧ DctR K H c es kvs
  | _ => False
def HeldI (X : Cx) (W : WX) (k : Hk) (j : Nat) (tg iter : Expr) : Prop := ∀ (c : Anc) (ρ : Rho) (m : Store) (σ : St) (H : Hp) (i : Ix) (a : Addr) (o : Obj) (u : HO) (x : Cell) (ds : List D) (R : It → Hp → Prop), RelS X.kw c m H → Slo X.kw H c ρ σ → ρ[j]? = some (some (.cell i)) → c.at_ i = some a →
  H a = some (.frz o (.frz o u)) → HeldC X.kw H c a u x → heldL k x = some ds → WantI X W c H σ (.ok ds m) R → WI X tg iter σ H R
/-- held, or as it is -/
def heldO (k : Hk) (j : Nat) (ρ : Rho) (m : Store) : Option (Ix × Cell × List D) := match ρ[j]? with
  | some (some (.cell i)) => match m.at_ i with
    | some x => (heldL k x).map fun ds => (i, x, ds)
    | none => none
  | _ => none
def undoR (i : Ix) (x : Cell) : Res D → Res D
  | .ok d m => match m.at_ i with
    | some .gone => .ok d (m.set x i)
    | _ => .stuck
  | r => r
def undoS (i : Ix) (x : Cell) : SRes → SRes
  | .nx ρ m => match m.at_ i with
    | some .gone => .nx ρ (m.set x i)
    | _ => .stuck
  | .rt d m => match m.at_ i with
    | some .gone => .rt d (m.set x i)
    | _ => .stuck
  | .exc x ρ m => .exc x ρ m
  | _ => .stuck
def lcH (k : Hk) (j : Nat) (z : Md) (vs : List Nat) (fi : FI) (g : D → Rho → Option Rho) (t : Rho → Store → Res Bool) (fe : FE) : FE := fun ρ m => match heldO k j ρ m with
  | some (i, x, ds) => undoR i x (lcE z vs (fun _ m => .ok ds m) g t fe ρ (m.set .gone i))
  | none => lcE z vs fi g t fe ρ m
def forH (k : Hk) (j : Nat) (fi : FI) (g : FG) (body : FS) : FS := fun ρ m => match heldO k j ρ m with
  | some (i, x, ds) => undoS i x (forE (fun _ m => .ok ds m) g body ρ (m.set .gone i))
  | none => forE fi g body ρ m
section
variable {X : Cx} {W : WX} {a b e tg iter elt : Expr} {ifs : List Expr} {scope : Scope} {own : List (Str × Nat)} {fa fb f fe : FE} {ft : Rho → Store → Res Bool} {pos p : Pos} {c c' : Anc} {ρ : Rho} {m m' : Store} {σ : St} {H H' : Hp} {fi : FI} {k : Hk} {j : Nat} {En : Ends} {body : List Stmt} {gb : FS}
theorem DctR.toK {K : KW} {es : List (NestedKey × V × V)} {kvs : List (PyData × D)} (h : DctR K H c es kvs) : DctK K H es (kvs.map (·.1)) := ⟨by rw [h.key, List.map_map]; rfl, h.dp, h.nd, h.kd⟩
theorem cell_at {i : Ix} {a0 a1 : Addr} {c c1 : Anc} (p : Pre c c1) (h : c.at_ i = some a0) (h1 : c1.at_ i = some a1) : a1 = a0 := Option.some.inj (h1.symm.trans (pre_get p h))
theorem vE_at {i : Ix} (h : ρ[j]? = some (some (.cell i))) : vE j ρ m = .ok (.cell i) m := by unfold vE; rw [h]
theorem held_items {elts : List Expr} {kk : Nat} {apos tpos : Pos} (h : DE X W e (vE j)) (hbase : attributeBase e "items" X.env (eval e X.env) = eval e X.env := by rfl) (hline : (apos.endLine == pos.line) = true := by rfl) :
    HeldI X W .items j (.Tuple elts kk tpos) (.Call (.Attribute e "items" apos) [] [] pos) := fun c ρ m σ H i a o u x ds R r s hj hi ha hc hl w => by
  refine wi_of (pi_Ig pe_w hbase hline) (h c ρ m σ H _ r s ?_)
  rw [vE_at hj]
  intro c1 v H1 g hv
  unfold VD at hv
  obtain ⟨a1, k1, rfl⟩ := hv
  obtain rfl := cell_at g.pre hi k1
  cases x with
  | dct kvs =>
    obtain ⟨es, rfl, q⟩ := hc
    cases hl
    exact ⟨a1, o, true, es, rfl, g.ext _ _ rfl ha, w c1 _ H1 g (itd_Ig (b := true) (g.ext _ _ rfl ha) (q.toK.ext g.ext) (g.vds q.vd))⟩
  | _ => cases hl
theorem held_values {apos : Pos} (h : DE X W e (vE j)) (hbase : attributeBase e "values" X.env (eval e X.env) = eval e X.env := by rfl) (hline : (apos.endLine == pos.line) = true := by rfl) :
    HeldI X W .values j tg (.Call (.Attribute e "values" apos) [] [] pos) := fun c ρ m σ H i a o u x ds R r s hj hi ha hc hl w => by
  refine wi_of (pi_Vg pe_w hbase hline) (h c ρ m σ H _ r s ?_)
  rw [vE_at hj]
  intro c1 v H1 g hv
  unfold VD at hv
  obtain ⟨a1, k1, rfl⟩ := hv
  obtain rfl := cell_at g.pre hi k1
  cases x with
  | dct kvs =>
    obtain ⟨es, rfl, q⟩ := hc
    cases hl
    exact ⟨a1, o, true, es, rfl, g.ext _ _ rfl ha, w c1 _ H1 g (itd_Vg (b := true) (g.ext _ _ rfl ha) (g.vds q.vd))⟩
  | _ => cases hl
def iLH (td : TE) : TI := fun σ H R => td σ H fun x H1 => ∃ d o xs, x = .ref d ∧ H1 d = some (.frz o (.frz o (.lst xs))) ∧ R (ItlH d o xs) H1
theorem pi_LH {td : TE} (he : PE X e td) : PI X tg e (iLH td) := by
  refine ⟨fun pins s σ H R I h => thn (he.run pins s σ H _ I h) ?_⟩
  rintro u s1 ⟨x, H1, J, rx, d, o, xs, rfl, q1, q2⟩
  cases rx
  obtain ⟨z1, z2⟩ := J.hok d _ q1
  obtain ⟨z3, z4, its, n, z5, z6⟩ := z2
  rw [z1] at z6
  cases z6
  refine wpAny_pyIter_list ⟨_, z1, rfl, ⟨_, rfl⟩⟩ (pi_one (tk := s1.toks) J _ (turn_listH _ rfl z5) ⟨_, Heap.get?_push_size _ rfl, rfl, rfl⟩ q2)
theorem itd_LH {K : KW} {a : Addr} {o : Obj} {u : HO} {vs : List V} {ds : List D} (ha : H a = some (.frz o u)) (hv : VDs K H c vs ds) : ItD K c H (ItlH a o vs) ds := fun c' m' H' p ex r i => by
  have f := ex _ _ rfl ha
  have hv' := VDs.mono ex p _ hv
  refine ⟨fun d e => ?_, fun hl => ⟨⟨u, f⟩, by rw [hv.length]; exact hl⟩⟩
  obtain ⟨v, h1, h2⟩ := hv'.get e
  refine ⟨⟨⟨u, f⟩, v, h1⟩, fun x H'' y => ?_⟩
  obtain ⟨rfl, y⟩ := y
  exact ⟨Gd.refl r, fun _ _ e => e, hv'.at_ e y⟩
theorem held_walk (h : DE X W e (vE j)) : HeldI X W .walk j tg e := fun c ρ m σ H i a o u x ds R r s hj hi ha hc hl w => by
  cases x with
  | dct kvs =>
    refine wi_of (pi_Kg pe_w) (h c ρ m σ H _ r s ?_)
    rw [vE_at hj]
    intro c1 v H1 g hv
    unfold VD at hv
    obtain ⟨a1, k1, rfl⟩ := hv
    obtain rfl := cell_at g.pre hi k1
    obtain ⟨es, rfl, q⟩ := hc
    cases hl
    exact ⟨a1, o, true, es, rfl, g.ext _ _ rfl ha, w c1 _ H1 g (itd_Kg (b := true) (g.ext _ _ rfl ha) (q.toK.ext g.ext))⟩
  | lst xs =>
    refine wi_of (pi_LH pe_w) (h c ρ m σ H _ r s ?_)
    rw [vE_at hj]
    intro c1 v H1 g hv
    unfold VD at hv
    obtain ⟨a1, k1, rfl⟩ := hv
    obtain rfl := cell_at g.pre hi k1
    obtain ⟨vs, rfl, q⟩ := hc
    cases hl
    exact ⟨a1, o, vs, rfl, g.ext _ _ rfl ha, w c1 _ H1 g (itd_LH (g.ext _ _ rfl ha) (g.vds q))⟩
  | _ => cases hl
/-- what a held run starts from -/
theorem held_start {i : Ix} {x : Cell} {ds : List D} {pins : List (Addr × Obj)} {st : Shared} (I : Inv X pins σ H st) (r : RelS X.kw c m H) (s : Slo X.kw H c ρ σ) (e : heldO k j ρ m = some (i, x, ds)) :
    ∃ a o u, ρ[j]? = some (some (.cell i)) ∧ m.at_ i = some x ∧ heldL k x = some ds ∧ c.at_ i = some a ∧ H a = some u ∧ liveO u = true ∧ (∀ o' u', X.H_0 a ≠ some (.frz o' u')) ∧ Inv X pins σ (upd H a (.frz o (.frz o u))) st ∧ Gd X.kw c c (m.set .gone i) H (upd H a (.frz o (.frz o u))) ∧ HeldC X.kw (upd H a (.frz o (.frz o u))) c a u x := by
  unfold heldO at e
  split at e
  · rename_i i' hj
    split at e
    · rename_i x' hm
      obtain ⟨ds', hl, e⟩ := Option.map_eq_some_iff.mp e
      cases e
      obtain ⟨v, _, hv⟩ := s.at_ j _ hj
      unfold VD at hv
      obtain ⟨a, hi, _⟩ := hv
      have q := r.at_ i a x hi hm
      have base : ∃ u, H a = some u ∧ liveO u = true ∧ Mut (some u) ∧ x ≠ .gone ∧ ∀ H', Ext H H' → HeldC X.kw H' c a u x := by
        cases x with
        | lst xs =>
          obtain ⟨vs, q1, q2⟩ := q
          exact ⟨_, q1, rfl, (by first | trivial | exact True.intro), (fun z => nomatch z), fun H' ex => ⟨vs, rfl, VDs.mono ex (forI_le _ _) _ q2.warm⟩⟩
        | dct kvs =>
          obtain ⟨es, q1, q2⟩ := q
          exact ⟨_, q1, rfl, (by first | trivial | exact True.intro), (fun z => nomatch z), fun H' ex => ⟨es, rfl, q2.warm.mono ex (forI_le _ _)⟩⟩
        | ins C fs => cases k <;> cases hl
        | gone => cases k <;> cases hl
      obtain ⟨u, ha, lu, mu, lx, hc⟩ := base
      obtain ⟨o, I1⟩ := I.hold ha mu
      have g1 := r.hold (o := o) hi hm lx ha lu
      exact ⟨a, o, u, hj, hm, hl, hi, ha, lu, I.nofrz ha mu, I1, g1, hc _ g1.ext⟩
    · cases e
  · cases e
theorem undo_want {i : Ix} {x : Cell} {a : Addr} {o : Obj} {u : HO} {res : Res D} {Q : VK} (r : RelS X.kw c m H) (hi : c.at_ i = some a) (hm : m.at_ i = some x) (ha : H a = some u) (lu : liveO u = true) (g1 : Gd X.kw c c (m.set .gone i) H (upd H a (.frz o (.frz o u))))
    (w : Want X W c H σ (undoR i x res) Q) : Want X W c (upd H a (.frz o (.frz o u))) σ res (fun v H2 => H2 a = some (.frz o (.frz o u)) ∧ Q v (upd H2 a u)) := by
  cases res with
  | ok d m2 =>
    unfold undoR at w
    simp only at w
    split at w
    · rename_i hg
      intro c' v H2 g hv
      have h2 := g.ext _ _ rfl (upd_same (H := H) (a := a) (o := .frz o (.frz o u)))
      exact ⟨h2, w c' v _ (Gd.thaw r hi hm ha lu g hg) (VD.monoX (extX_drop h2) d hv)⟩
    · exact w.elim
  | exc y m2 => exact fun c' cls dd H2 g hv => w c' cls dd H2 (g1.trans g) hv
  | stuck => exact w
theorem de_lcH (k : Hk) (j : Nat) (z : Md) {is : List Nat} {g : D → Rho → Option Rho} (own : List (Str × Nat)) (hN : X.N.Nodup) (hi : DI X W tg iter fi) (hh : HeldI X W k j tg iter) (ok : blkC X.N X.env.scope scope own = true)
    (hg : ∀ (s : Shared) (H : Hp) (C : Addr) (cl : List (Str × Addr)) (fp : List Addr), DLg (X.blk s H scope (compEnvC scope cl C X.env) fp) tg is g)
    (ht : ∀ (s : Shared) (H : Hp) (C : Addr) (cl : List (Str × Addr)) (fp : List Addr), DTs (X.blk s H scope (compEnvC scope cl C X.env) fp) ifs ft)
    (he : ∀ (s : Shared) (H : Hp) (C : Addr) (cl : List (Str × Addr)) (fp : List Addr), DE (X.blk s H scope (compEnvC scope cl C X.env) fp) Wno elt fe)
    (hsub : ∀ i ∈ is, i ∈ own.map (·.2) := by decide) (hc : X.calm = true := by rfl) (hs : ∀ x, foldedSetIterable iter X.env x = pure x := by intro _; rfl) :
    DE X W (.ListComp elt [⟨tg, iter, ifs, 0⟩] scope pos) (lcH k j z (own.map (·.2)) fi g ft fe) := fun c ρ m σ H Q r s w => by
  unfold lcH at w
  cases e : heldO k j ρ m with
  | none => rw [e] at w; exact de_lc z own hN hi ok hg ht he hsub hc hs c ρ m σ H Q r s w
  | some q =>
    obtain ⟨i, x, ds⟩ := q
    rw [e] at w
    refine .mk fun pins st I => ?_
    obtain ⟨a, o, u, hj, hm, hl, hi', ha, lu, hn, I1, g1, hC⟩ := held_start I r s e
    have w1 := undo_want r hi' hm ha lu g1 w
    have base := WE.frz (we_of (pe_lc (pos := pos) hc hN pi_w (blkOk_by ok) pg_r pt_r pe_r hs) (lc_read (fun R => hh c ρ _ σ _ i a o u x ds R g1.rel (g1.slots s) hj hi' upd_same hC hl) hg ht he hsub hc g1.rel (g1.slots s) w1 fun _ _ h => h))
    refine thn (base.go pins st I1) ?_
    rintro v s' ⟨vv, H2, I2, rv, h2, hq⟩
    exact ⟨vv, _, I2.drop2 h2 hn, rv, hq⟩
theorem undoS_want {i : Ix} {x : Cell} {a : Addr} {o : Obj} {u : HO} {res : SRes} (r : RelS X.kw c m H) (hi : c.at_ i = some a) (hm : m.at_ i = some x) (ha : H a = some u) (lu : liveO u = true) (g1 : Gd X.kw c c (m.set .gone i) H (upd H a (.frz o (.frz o u))))
    (w : WantS X W c H (undoS i x res) En) : WantS X W c (upd H a (.frz o (.frz o u))) res { nx := fun σ' H2 => H2 a = some (.frz o (.frz o u)) ∧ En.nx σ' (upd H2 a u), rt := fun v H2 => H2 a = some (.frz o (.frz o u)) ∧ En.rt v (upd H2 a u), bk := fun _ _ => False, ct := fun _ _ => False } := by
  cases res with
  | nx ρ2 m2 =>
    unfold undoS at w
    simp only at w
    split at w
    · rename_i hg
      intro c' σ' H2 g hv
      have h2 := g.ext _ _ rfl (upd_same (H := H) (a := a) (o := .frz o (.frz o u)))
      exact ⟨h2, w c' σ' _ (Gd.thaw r hi hm ha lu g hg) (hv.monoX (extX_drop h2))⟩
    · exact w.elim
  | rt d m2 =>
    unfold undoS at w
    simp only at w
    split at w
    · rename_i hg
      intro c' v H2 g hv
      have h2 := g.ext _ _ rfl (upd_same (H := H) (a := a) (o := .frz o (.frz o u)))
      exact ⟨h2, w c' v _ (Gd.thaw r hi hm ha lu g hg) (VD.monoX (extX_drop h2) d hv)⟩
    · exact w.elim
  | exc y ρ2 m2 => exact fun c' σ' cls dd H2 g hs hv => w c' σ' cls dd H2 (g1.trans g) hs hv
  | bk ρ2 m2 => exact w.elim
  | ct ρ2 m2 => exact w.elim
  | stuck => exact w
theorem ds_forH (k : Hk) (j : Nat) {g : FG} (hp : PassesOwn (model X.prog X.w) X.A X.env X.xe) (hi : DI X W tg iter fi) (hh : HeldI X W k j tg iter) (hg : DG X W tg g) (hb : DSs X W body gb) (hc : X.calm = true := by rfl) (hs : ∀ x, foldedSetIterable iter X.env x = pure x := by intro _; rfl) : DS X W (.For tg iter body [] pos) (forH k j fi g gb) := fun c ρ m σ H En r s w => by
  unfold forH at w
  cases e : heldO k j ρ m with
  | none => rw [e] at w; exact for_at hp (fun R => hi c ρ m σ H R r s) hg hb hc hs r s w
  | some q =>
    obtain ⟨i, x, ds⟩ := q
    rw [e] at w
    refine .mk fun pins st I => ?_
    obtain ⟨a, o, u, hj, hm, hl, hi', ha, lu, hn, I1, g1, hC⟩ := held_start I r s e
    have w1 := undoS_want r hi' hm ha lu g1 w
    have base := for_at (pos := pos) hp (fun R => hh c ρ _ σ _ i a o u x ds R g1.rel (g1.slots s) hj hi' upd_same hC hl) hg hb hc hs g1.rel (g1.slots s) w1
    refine thn (base.go pins st I1) fun f s' q => ?_
    cases f with
    | next => obtain ⟨σ', H2, I2, h2, hq⟩ := q; exact ⟨σ', _, I2.drop2 h2 hn, hq⟩
    | brk => obtain ⟨σ', H2, I2, hq⟩ := q; exact hq.elim
    | cont => obtain ⟨σ', H2, I2, hq⟩ := q; exact hq.elim
    | ret v => obtain ⟨vv, σ', H2, I2, rv, h2, hq⟩ := q; exact ⟨vv, σ', _, I2.drop2 h2 hn, rv, hq⟩
theorem ds_setLcH (k : Hk) (j : Nat) (z : Md) (i : Nat) {y : Str} {py spos : Pos} {is : List Nat} {g : D → Rho → Option Rho} (own : List (Str × Nat)) (hN : X.N.Nodup) (hi : DI X W tg iter fi) (hh : HeldI X W k j tg iter) (ok : blkC X.N X.env.scope scope own = true)
    (hg : ∀ (s : Shared) (H : Hp) (C : Addr) (cl : List (Str × Addr)) (fp : List Addr), DLg (X.blk s H scope (compEnvC scope cl C X.env) fp) tg is g)
    (ht : ∀ (s : Shared) (H : Hp) (C : Addr) (cl : List (Str × Addr)) (fp : List Addr), DTs (X.blk s H scope (compEnvC scope cl C X.env) fp) ifs ft)
    (he : ∀ (s : Shared) (H : Hp) (C : Addr) (cl : List (Str × Addr)) (fp : List Addr), DE (X.blk s H scope (compEnvC scope cl C X.env) fp) Wno elt fe)
    (hsw : swapsWith (.ListComp elt [⟨tg, iter, ifs, 0⟩] scope pos) (some (.Name y py)) spos.line X.env = pure true)
    (hy : X.N[i]? = some y := by rfl) (hyl : X.env.scope.names.lookup y = some .local := by rfl)
    (hsub : ∀ i ∈ is, i ∈ own.map (·.2) := by decide) (hc : X.calm = true := by rfl) (hs : ∀ x, foldedSetIterable iter X.env x = pure x := by intro _; rfl) :
    DS X W (.Assign [.Name y py] (.ListComp elt [⟨tg, iter, ifs, 0⟩] scope pos) spos) (setS i (lcH k j z (own.map (·.2)) fi g ft fe)) := fun c ρ m σ H En r s w => by
  cases e : heldO k j ρ m with
  | none =>
    refine ds_setLc z i own hN hi ok hg ht he hsw hy hyl hsub hc hs c ρ m σ H En r s ?_
    unfold setS lcH at w
    rw [e] at w
    exact w
  | some q =>
    obtain ⟨i', x, ds⟩ := q
    have w0 : Want X W c H σ (undoR i' x (lcE z (own.map (·.2)) (fun _ m => .ok ds m) g ft fe ρ (m.set .gone i'))) (fun v H1 => En.nx (σ.set i (some v)) H1) := by
      unfold setS lcH at w
      rw [e] at w
      simp only at w
      cases q : undoR i' x (lcE z (own.map (·.2)) (fun _ m => .ok ds m) g ft fe ρ (m.set .gone i')) with
      | ok d m1 =>
        rw [q] at w
        exact fun c1 v H1 g1 hv => w c1 _ H1 g1 ((g1.slots s).set i hv)
      | exc x m1 =>
        rw [q] at w
        exact fun c1 cls dd H1 g1 hv => w c1 σ cls dd H1 g1 (g1.slots s) hv
      | stuck => rw [q] at w; exact w
    refine .mk fun pins st I => ?_
    obtain ⟨a, o, u, hj, hm, hl, hi', ha, lu, hn, I1, g1, hC⟩ := held_start I r s e
    have w1 := undo_want r hi' hm ha lu g1 w0
    have base : WSt X (.Assign [.Name y py] (.ListComp elt [⟨tg, iter, ifs, 0⟩] scope pos) spos) { En with nx := fun σ' H2 => H2 a = some (.frz o (.frz o u)) ∧ En.nx σ' (upd H2 a u) } σ (upd H a (.frz o (.frz o u))) := by
      refine WSt.frz (wst_of (ps_setLc hc hN hy hyl hsw pi_w (blkOk_by ok) pg_r pt_r pe_r hs) ?_)
      refine lc_read (z := z) (Q := fun v H2 => H2 a = some (.frz o (.frz o u)) ∧ En.nx (σ.set i (some v)) (upd H2 a u)) (fun R => hh c ρ _ σ _ i' a o u x ds R g1.rel (g1.slots s) hj hi' upd_same hC hl) hg ht he hsub hc g1.rel (g1.slots s) w1 fun v H1 h => ?_
      rcases h with h | ⟨b, u', e1, e2, e3, e4⟩
      · exact .inl h
      · exact .inr ⟨b, u', e2, e3, e4⟩
    refine thn (base.go pins st I1) fun f s' q => ?_
    cases f with
    | next => obtain ⟨σ', H2, I2, h2, hq⟩ := q; exact ⟨σ', _, I2.drop2 h2 hn, hq⟩
    | brk => exact q
    | cont => exact q
    | ret v => exact q
end
end L2.Dn
namespace L2.Dn
open PySem PySem.Spec PyProof.Rows L2
/-! ### evaluation: what the operations do on data of known form -/
variable {m : Store} {z : Md}
theorem eqP_int (n : Bool) (i j : Int) : eqP n (.p (.int i)) (.p (.int j)) m = some (.p (.bool (if n then !(i == j) else (i == j))), m) := by
  simp only [eqP, whole_p, SeqAt.shaped, PyData.canLay0, PyData.depth, PyData.eqv]
  rfl
theorem eqG_int (n : Bool) (i j : Int) : eqG n (.p (.int i)) (.p (.int j)) m = some (.p (.bool (if n then !(i == j) else (i == j))), m) := eqP_int n i j
theorem eqG_str (n : Bool) (x y : Str) : eqG n (.p (.str x)) (.p (.str y)) m = some (.p (.bool (if n then !(x == y) else (x == y))), m) := rfl
theorem addD_int (i j : Int) : addD z (.p (.int i)) (.p (.int j)) m = some (.p (.int (i + j)), m) := rfl
theorem subI_int (i j : Int) : subI (.p (.int i)) (.p (.int j)) m = some (.p (.int (i - j)), m) := rfl
theorem ltI_int (i j : Int) : ltI (.p (.int i)) (.p (.int j)) m = some (.p (.bool (decide (i < j))), m) := rfl
theorem leI_int (i j : Int) : leI (.p (.int i)) (.p (.int j)) m = some (.p (.bool (decide (i ≤ j))), m) := rfl
theorem gtI_int (i j : Int) : gtI (.p (.int i)) (.p (.int j)) m = some (.p (.bool (decide (j < i))), m) := rfl
theorem geI_int (i j : Int) : geI (.p (.int i)) (.p (.int j)) m = some (.p (.bool (decide (j ≤ i))), m) := rfl
theorem mulD_int {i j : Int} (h : (small i || small j) = true) : mulD (.p (.int i)) (.p (.int j)) m = some (.p (.int (i * j)), m) := by
  simp only [mulD, altO, mulI, intOp, h, if_true]
theorem modI_int {i j : Int} (h : 0 < j) : modI (.p (.int i)) (.p (.int j)) m = some (.p (.int (i % j)), m) := by
  simp only [modI, intOp, decide_eq_true h, if_true]
theorem fdivI_int {i j : Int} (h : 0 < j) (h2 : j < 2 ^ 64) : fdivI (.p (.int i)) (.p (.int j)) m = some (.p (.int (i / j)), m) := by
  simp only [fdivI, intOp, decide_eq_true h, decide_eq_true h2, Bool.and_self, if_true]
theorem intD_int (i : Int) : intD [.p (.int i)] m = some (.p (.int i), m) := rfl
theorem absD_int (i : Int) : absD [.p (.int i)] m = some (.p (.int (if i < 0 then -i else i)), m) := rfl
theorem negI_int (i : Int) : negI (.p (.int i)) m = some (.p (.int (-i)), m) := rfl
theorem lenD_list (ds : List PyData) : lenD [.p (.list ds)] m = some (.p (.int ds.length), m) := by
  simp only [lenD, tupOf, lstOf, List.length_map]
theorem lenD_tuple (ds : List PyData) : lenD [.p (.tuple ds)] m = some (.p (.int ds.length), m) := by
  simp only [lenD, tupOf, List.length_map]
theorem ixN_nat {n k : Nat} (h : k < n) : ixN n (k : Int) = some k := by
  unfold ixN
  rw [if_pos (by omega), if_pos (by omega)]
  simp
theorem atI_at {α : Type} {xs : List α} {k : Int} (h0 : 0 ≤ k) : L2.atI xs k = xs[k.toNat]? := by
  unfold L2.atI ixN
  rw [if_pos h0]
  split
  · rfl
  · rw [List.getElem?_eq_none (by omega)]
    rfl
theorem ixD_list {ds : List PyData} {k : Int} (h : 0 ≤ k) : ixD (.p (.list ds)) (.p (.int k)) m = (ds[k.toNat]?).map fun d => (.p d, m) := by
  simp only [ixD, tupOf, lstOf, atI_at h, List.getElem?_map, Option.map_map]
  rfl
theorem ixD_cell {i : Ix} {xs : List D} {k : Int} (e : m.at_ i = some (.lst xs)) (h : 0 ≤ k) : ixD (.cell i) (.p (.int k)) m = (xs[k.toNat]?).map fun d => (d, m) := by
  simp only [ixD, tupOf, lstOf, e, atI_at h]
theorem setItemD_cell {i : Ix} {xs : List D} {k : Int} {d : D} (e : m.at_ i = some (.lst xs)) (h : 0 ≤ k) (hl : k < xs.length) (hd : okIn d i = true) : setItemD (.cell i) (.p (.int k)) d m = some (m.set (.lst (xs.set k.toNat d)) i) := by
  have e1 : ixN xs.length k = some k.toNat := by
    unfold ixN
    rw [if_pos h, if_pos hl]
  simp only [setItemD, e, e1, hd, if_true]
theorem getL_cell {i : Ix} {xs : List D} {k : Int} (e : m.at_ i = some (.lst xs)) (h : 0 ≤ k) : getL (.cell i) (.p (.int k)) m = xs[k.toNat]? := by
  simp only [getL, if_pos h, lstOf, e]
theorem alt_some {g h : D → D → Store → OD} {x y : D} {r : D × Store} (e : g x y m = some r) : altO g h x y m = some r := by
  unfold altO
  rw [e]
theorem mulG_int {i j : Int} (h : (small i || small j) = true) : mulG z (.p (.int i)) (.p (.int j)) m = some (.p (.int (i * j)), m) := alt_some (mulD_int h)
theorem lenG_list (ds : List PyData) : lenG [.p (.list ds)] m = some (.p (.int ds.length), m) := by
  simp only [lenG, lenD_list]
theorem lenG_tuple (ds : List PyData) : lenG [.p (.tuple ds)] m = some (.p (.int ds.length), m) := by
  simp only [lenG, lenD_tuple]
theorem ixG_list {ds : List PyData} {k : Int} {d : PyData} (h : 0 ≤ k) (e : ds[k.toNat]? = some d) : ixG (.p (.list ds)) (.p (.int k)) m = some (.p d, m) := alt_some (by rw [ixD_list h, e]; rfl)
/-! ### the bag of draws -/
structure Bag where
  b0 : Int
  b1 : Int
  b2 : Int
  cs : List Int
def Bag.cell (b : Bag) : Cell := .lst [.p (.int b.b0), .p (.int b.b1), .p (.int b.b2), .p (.list (b.cs.map .int))]
structure Bag.Ok (b : Bag) : Prop where
  h0 : 0 ≤ b.b0
  h1 : 0 ≤ b.b1
  h1' : b.b1 < 2147483647
  h2 : 0 ≤ b.b2
  hc : ∀ c ∈ b.cs, 0 ≤ c
/-! ### the combinators on results of known form -/
section
variable {α β : Type} {a : α} {x : Exn} {ρ : Rho} {d : D}
theorem bind_ok {k : α → Store → Res β} : (Res.ok a m).bind k = k a m := rfl
theorem bind_exc {k : α → Store → Res β} : (Res.exc x m : Res α).bind k = .exc x m := rfl
theorem bindS_ok {k : α → Store → SRes} : (Res.ok a m).bindS ρ k = k a m := rfl
theorem bindS_exc {k : α → Store → SRes} : (Res.exc x m : Res α).bindS ρ k = .exc x ρ m := rfl
theorem lift_some : lift (some (d, m)) = .ok d m := rfl
theorem testR_ok {b : Bool} : testR (.ok (.p (.bool b)) m) = .ok b m := rfl
theorem seq_nx {k : FS} : (SRes.nx ρ m).seq k = k ρ m := rfl
theorem seq_rt {k : FS} : (SRes.rt d m).seq k = .rt d m := rfl
theorem seq_bk {k : FS} : (SRes.bk ρ m).seq k = .bk ρ m := rfl
theorem seq_ct {k : FS} : (SRes.ct ρ m).seq k = .ct ρ m := rfl
theorem fin_rt {d : PyData} : fin (.rt (.p d) m) = .ok (.p d) m.g := rfl
theorem fin_cell {i : Nat} : fin (.rt (.cell (.g i)) m) = .ok (.cell (.g i)) m.g := rfl
theorem res_ok {d : D} {g l : List Cell} : (RG.ok d g).res l = .ok d ⟨g, l⟩ := rfl
theorem opE_eq (g : D → D → Store → OD) (fa fb : FE) : opE g fa fb ρ m = (fa ρ m).bind fun x m1 => (fb ρ m1).bind fun y m2 => lift (g x y m2) := rfl
theorem vE_0 {r : Rho} : vE 0 (some d :: r) m = .ok d m := rfl
theorem vE_s {i : Nat} {o : Option D} {r : Rho} : vE (i + 1) (o :: r) m = vE i r m := by
  unfold vE
  rw [List.getElem?_cons_succ]
theorem mapO_some {γ δ : Type} (f : γ → δ) (c : γ) : Option.map f (some c) = some (f c) := rfl
theorem gset {g l : List Cell} {c : Cell} {i : Nat} : (⟨g, l⟩ : Store).set c (.g i) = ⟨g.set i c, l⟩ := rfl
theorem gat {g l : List Cell} {i : Nat} : (⟨g, l⟩ : Store).at_ (.g i) = g[i]? := rfl
theorem lat {g l : List Cell} {i : Nat} : (⟨g, l⟩ : Store).at_ (.l i) = l[i]? := rfl
theorem okIn_p {d : PyData} {i : Ix} : okIn (.p d) i = true := by cases i <;> rfl
theorem ite_tt {γ : Type} {a b : γ} : (if true = true then a else b) = a := rfl
theorem ite_ff {γ : Type} {a b : γ} : (if false = true then a else b) = b := rfl
end
end L2.Dn
namespace L2.Dn
open PySem PySem.Spec PyProof.Rows L2
/-! ### the bag and the draws: the same text in every law -/
def takeB : FS := (seqS (ifS (testE (opE (eqG false) (opE ixG (vE 0) (cE (.int 0))) (cE (.int 0)))) (seqS (setS 2 (cE (.int 0)))
  (seqS (ifS (testE (opE ltI (opE ixG (vE 0) (cE (.int 2))) (calE lenG (consA (opE ixG (vE 0) (cE (.int 3))) nilA)))) (setS 2 (opE ixG (opE ixG (vE 0) (cE (.int 3))) (opE ixG (vE 0) (cE (.int 2))))) nilS)
  (seqS (augI addI (vE 0) (cE (.int 2)) (cE (.int 1)))
  (seqS (ifS (testE (opE geI (vE 2) (opE powI (cE (.int 10)) (cE (.int 18))))) (asgS (vE 2) (subG setG (vE 0) (cE (.int 0)))) nilS)
  (seqS (setS 3 (opE (addD .z) (opE (addD .z) (opE (mulG .z) (opE ixG (vE 0) (cE (.int 1))) (cE (.int 48271))) (opE modI (calE intD (consA (vE 2) nilA)) (cE (.int 2147483647)))) (opE (mulG .z) (cE (.int 7919)) (opE ixG (vE 0) (cE (.int 2))))))
  (asgS (opE modI (calE intD (consA (vE 3) nilA)) (cE (.int 2147483647))) (subG setG (vE 0) (cE (.int 1))))))))) nilS)
  (seqS (ifS (testE (opE gtI (opE ixG (vE 0) (cE (.int 0))) (cE (.int 0)))) (seqS (setS 4 (opE modI (calE intD (consA (opE ixG (vE 0) (cE (.int 0))) nilA)) (vE 1)))
  (seqS (asgS (opE fdivI (calE intD (consA (opE ixG (vE 0) (cE (.int 0))) nilA)) (vE 1)) (subG setG (vE 0) (cE (.int 0))))
  (retS (vE 4)))) nilS)
  (seqS (setS 5 (opE modI (calE intD (consA (opE (mulG .z) (opE (addD .z) (opE ixG (vE 0) (cE (.int 1))) (cE (.int 1))) (cE (.int 39373))) nilA)) (cE (.int 1000000007))))
  (seqS (setS 6 (opE modI (calE intD (consA (opE (mulG .z) (vE 5) (vE 5)) nilA)) (cE (.int 998244353))))
  (seqS (setS 6 (opE modI (calE intD (consA (opE (mulG .z) (vE 6) (cE (.int 30011))) nilA)) (cE (.int 998244353))))
  (seqS (ifS (testE (opE gtI (vE 1) (cE (.int 1000000)))) (retS (opE modI (calE intD (consA (opE (addD .z) (opE (mulG .z) (vE 6) (cE (.int 1000000007))) (vE 5)) nilA)) (vE 1))) nilS)
  (retS (opE modI (calE intD (consA (opE fdivI (vE 6) (cE (.int 7))) nilA)) (vE 1)))))))))
def bagB : FS := (retS (lstE .g (consA (cE (.int 0)) (consA (cE (.int 1234567891)) (consA (cE (.int 0)) (consA (lcE .z [1] (walkI (slE (slD .z) (vE 0) noO (someO (cE (.int 63))))) (oneG 1) yesT (calE absD (consA (vE 1) nilA))) nilA))))))
def alikeB : FS := (retS (andG (opE (eqG false) (vE 0) (vE 1)) (opE (eqG false) (calE reprD (consA (vE 0) nilA)) (calE reprD (consA (vE 1) nilA)))))
/-- the bag's list, at the store's head -/
def bagC (a b c : Int) (cs : List PyData) : Cell := .lst [.p (.int a), .p (.int b), .p (.int c), .p (.list cs)]
section
variable {a b c d : Int} {cs : List PyData} {g l : List Cell}
theorem bix0 : ixG (.cell (.g 0)) (.p (.int 0)) ⟨bagC a b c cs :: g, l⟩ = some (.p (.int a), ⟨bagC a b c cs :: g, l⟩) := rfl
theorem bix1 : ixG (.cell (.g 0)) (.p (.int 1)) ⟨bagC a b c cs :: g, l⟩ = some (.p (.int b), ⟨bagC a b c cs :: g, l⟩) := rfl
theorem bix2 : ixG (.cell (.g 0)) (.p (.int 2)) ⟨bagC a b c cs :: g, l⟩ = some (.p (.int c), ⟨bagC a b c cs :: g, l⟩) := rfl
theorem bix3 : ixG (.cell (.g 0)) (.p (.int 3)) ⟨bagC a b c cs :: g, l⟩ = some (.p (.list cs), ⟨bagC a b c cs :: g, l⟩) := rfl
theorem bset0 : setG (.cell (.g 0)) (.p (.int 0)) (.p (.int d)) ⟨bagC a b c cs :: g, l⟩ = some ⟨bagC d b c cs :: g, l⟩ := rfl
theorem bset1 : setG (.cell (.g 0)) (.p (.int 1)) (.p (.int d)) ⟨bagC a b c cs :: g, l⟩ = some ⟨bagC a d c cs :: g, l⟩ := rfl
theorem bset2 : setG (.cell (.g 0)) (.p (.int 2)) (.p (.int d)) ⟨bagC a b c cs :: g, l⟩ = some ⟨bagC a b d cs :: g, l⟩ := rfl
theorem bsetI2 : setItemD (.cell (.g 0)) (.p (.int 2)) (.p (.int d)) ⟨bagC a b c cs :: g, l⟩ = some ⟨bagC a b d cs :: g, l⟩ := rfl
theorem bget2 : getL (.cell (.g 0)) (.p (.int 2)) ⟨bagC a b c cs :: g, l⟩ = some (.p (.int c)) := rfl
end
theorem addI_int {m : Store} (i j : Int) : addI (.p (.int i)) (.p (.int j)) m = some (.p (.int (i + j)), m) := rfl
theorem mul_r {m : Store} {i j : Int} (h : small j = true) : mulG .z (.p (.int i)) (.p (.int j)) m = some (.p (.int (i * j)), m) := mulG_int (by rw [h, Bool.or_true])
theorem mul_l {m : Store} {i j : Int} (h : small i = true) : mulG .z (.p (.int i)) (.p (.int j)) m = some (.p (.int (i * j)), m) := mulG_int (by rw [h]; rfl)
theorem small_of {i : Int} (h0 : 0 ≤ i) (h : i < 2 ^ 64) : small i = true := by
  have h1 : -(2 ^ 64) < i := by omega
  simp only [small, decide_eq_true h1, decide_eq_true h, Bool.and_self]
theorem pow18 {m : Store} : powI (.p (.int 10)) (.p (.int 18)) m = some (.p (.int 1000000000000000000), m) := rfl
local macro_rules | `(tactic| walk_at "ev") => `(tactic| try simp only [seqS, ifS, setS, asgS, subG, augI, retS, exprS, nilS, testE, opE_eq, calE, consA, nilA, cE, vE_0, vE_s, bind_ok, bindS_ok, lift_some, testR_ok, seq_nx, seq_rt, fin_rt, res_ok, List.set_cons_zero, List.set_cons_succ,
  bix0, bix1, bix2, bix3, bset0, bset1, bset2, bsetI2, bget2, addI_int, pow18, ite_tt, ite_ff, addD_int, subI_int, ltI_int, leI_int, gtI_int, geI_int, eqG_int, intD_int, lenG_list, Bool.false_eq_true, if_false, if_true])
/-- the bag holds whole numbers, none below 0 -/
structure BagOk (a b c : Int) (cs : List PyData) : Prop where
  h0 : 0 ≤ a
  h1 : 0 ≤ b
  h1' : b < 2147483647
  h2 : 0 ≤ c
  hc : ∀ x ∈ cs, ∃ i : Int, x = .int i ∧ 0 ≤ i
/-- the draw's second half -/
def takeT : FS := (seqS (ifS (testE (opE gtI (opE ixG (vE 0) (cE (.int 0))) (cE (.int 0)))) (seqS (setS 4 (opE modI (calE intD (consA (opE ixG (vE 0) (cE (.int 0))) nilA)) (vE 1)))
  (seqS (asgS (opE fdivI (calE intD (consA (opE ixG (vE 0) (cE (.int 0))) nilA)) (vE 1)) (subG setG (vE 0) (cE (.int 0))))
  (retS (vE 4)))) nilS)
  (seqS (setS 5 (opE modI (calE intD (consA (opE (mulG .z) (opE (addD .z) (opE ixG (vE 0) (cE (.int 1))) (cE (.int 1))) (cE (.int 39373))) nilA)) (cE (.int 1000000007))))
  (seqS (setS 6 (opE modI (calE intD (consA (opE (mulG .z) (vE 5) (vE 5)) nilA)) (cE (.int 998244353))))
  (seqS (setS 6 (opE modI (calE intD (consA (opE (mulG .z) (vE 6) (cE (.int 30011))) nilA)) (cE (.int 998244353))))
  (seqS (ifS (testE (opE gtI (vE 1) (cE (.int 1000000)))) (retS (opE modI (calE intD (consA (opE (addD .z) (opE (mulG .z) (vE 6) (cE (.int 1000000007))) (vE 5)) nilA)) (vE 1))) nilS)
  (retS (opE modI (calE intD (consA (opE fdivI (vE 6) (cE (.int 7))) nilA)) (vE 1))))))))
def takeS : FS := (ifS (testE (opE (eqG false) (opE ixG (vE 0) (cE (.int 0))) (cE (.int 0)))) (seqS (setS 2 (cE (.int 0)))
  (seqS (ifS (testE (opE ltI (opE ixG (vE 0) (cE (.int 2))) (calE lenG (consA (opE ixG (vE 0) (cE (.int 3))) nilA)))) (setS 2 (opE ixG (opE ixG (vE 0) (cE (.int 3))) (opE ixG (vE 0) (cE (.int 2))))) nilS)
  (seqS (augI addI (vE 0) (cE (.int 2)) (cE (.int 1)))
  (seqS (ifS (testE (opE geI (vE 2) (opE powI (cE (.int 10)) (cE (.int 18))))) (asgS (vE 2) (subG setG (vE 0) (cE (.int 0)))) nilS)
  (seqS (setS 3 (opE (addD .z) (opE (addD .z) (opE (mulG .z) (opE ixG (vE 0) (cE (.int 1))) (cE (.int 48271))) (opE modI (calE intD (consA (vE 2) nilA)) (cE (.int 2147483647)))) (opE (mulG .z) (cE (.int 7919)) (opE ixG (vE 0) (cE (.int 2))))))
  (asgS (opE modI (calE intD (consA (vE 3) nilA)) (cE (.int 2147483647))) (subG setG (vE 0) (cE (.int 1))))))))) nilS)
theorem takeB_eq : takeB = seqS takeS takeT := rfl
theorem takeT_ok {a b c n : Int} {cs : List PyData} {g l : List Cell} {o2 o3 : Option D} (hb : BagOk a b c cs) (h0 : 0 < n) (h1 : n < 2 ^ 64) :
    ∃ r a', 0 ≤ r ∧ r < n ∧ BagOk a' b c cs ∧ fin (takeT [some (.cell (.g 0)), some (.p (.int n)), o2, o3, none, none, none] ⟨bagC a b c cs :: g, l⟩) = .ok (.p (.int r)) (bagC a' b c cs :: g) := by
  unfold takeT
  by_cases hz : 0 < a
  · refine ⟨a % n, a / n, Int.emod_nonneg _ (by omega), Int.emod_lt_of_pos _ h0, ⟨Int.ediv_nonneg hb.h0 (by omega), hb.h1, hb.h1', hb.h2, hb.hc⟩, ?_⟩
    walk_at "ev"
    simp only [decide_eq_true hz, if_true]
    walk_at "ev"
    simp only [modI_int h0, fdivI_int h0 h1]
    walk_at "ev"
    simp only [fdivI_int h0 h1]
    walk_at "ev"
  · have d0 : (0 : Int) < 1000000007 := by decide
    have d1 : (0 : Int) < 998244353 := by decide
    have d7 : (0 : Int) < 7 := by decide
    have d8 : (7 : Int) < 2 ^ 64 := by decide
    have s0 : small 39373 = true := by decide
    have s1 : small 30011 = true := by decide
    have s2 : small 1000000007 = true := by decide
    have s3 : small ((b + 1) * 39373 % 1000000007) = true := small_of (Int.emod_nonneg _ (by decide)) (Int.lt_trans (Int.emod_lt_of_pos _ d0) (by decide))
    by_cases hm : 1000000 < n
    · refine ⟨(((((b + 1) * 39373 % 1000000007) * ((b + 1) * 39373 % 1000000007) % 998244353) * 30011 % 998244353) * 1000000007 + ((b + 1) * 39373 % 1000000007)) % n, a, Int.emod_nonneg _ (by omega), Int.emod_lt_of_pos _ h0, hb, ?_⟩
      walk_at "ev"
      simp only [decide_eq_false hz, Bool.false_eq_true, if_false]
      walk_at "ev"
      simp only [mul_r s0]
      walk_at "ev"
      simp only [modI_int d0]
      walk_at "ev"
      simp only [mul_r s3]
      walk_at "ev"
      simp only [modI_int d1]
      walk_at "ev"
      simp only [mul_r s1]
      walk_at "ev"
      simp only [modI_int d1]
      walk_at "ev"
      simp only [decide_eq_true hm, if_true]
      walk_at "ev"
      simp only [mul_r s2]
      walk_at "ev"
      simp only [modI_int h0]
      walk_at "ev"
    · refine ⟨((((b + 1) * 39373 % 1000000007) * ((b + 1) * 39373 % 1000000007) % 998244353) * 30011 % 998244353) / 7 % n, a, Int.emod_nonneg _ (by omega), Int.emod_lt_of_pos _ h0, hb, ?_⟩
      walk_at "ev"
      simp only [decide_eq_false hz, Bool.false_eq_true, if_false]
      walk_at "ev"
      simp only [mul_r s0]
      walk_at "ev"
      simp only [modI_int d0]
      walk_at "ev"
      simp only [mul_r s3]
      walk_at "ev"
      simp only [modI_int d1]
      walk_at "ev"
      simp only [mul_r s1]
      walk_at "ev"
      simp only [modI_int d1]
      walk_at "ev"
      simp only [decide_eq_false hm, Bool.false_eq_true, if_false]
      walk_at "ev"
      simp only [fdivI_int d7 d8]
      walk_at "ev"
      simp only [modI_int h0]
      walk_at "ev"
theorem bag_cell {a b c : Int} {cs : List PyData} (hb : BagOk a b c cs) {m : Store} (h : c < cs.length) : ∃ i : Int, 0 ≤ i ∧ ixG (.p (.list cs)) (.p (.int c)) m = some (.p (.int i), m) := by
  have hl : c.toNat < cs.length := by have := hb.h2; omega
  obtain ⟨i, e, hi⟩ := hb.hc cs[c.toNat] (List.getElem_mem hl)
  refine ⟨i, hi, ?_⟩
  exact ixG_list hb.h2 (by rw [List.getElem?_eq_getElem hl, e])
theorem takeS_ok {a b c n : Int} {cs : List PyData} {g l : List Cell} (hb : BagOk a b c cs) :
    ∃ a' b' c' o2 o3, BagOk a' b' c' cs ∧ takeS [some (.cell (.g 0)), some (.p (.int n)), none, none, none, none, none] ⟨bagC a b c cs :: g, l⟩ = .nx [some (.cell (.g 0)), some (.p (.int n)), o2, o3, none, none, none] ⟨bagC a' b' c' cs :: g, l⟩ := by
  unfold takeS
  by_cases hz : (a == 0) = true
  · have s0 : small 48271 = true := by decide
    have s1 : small 7919 = true := by decide
    have d0 : (0 : Int) < 2147483647 := by decide
    have key : ∀ x : Int, 0 ≤ x → ∃ a' b' c' o2 o3, BagOk a' b' c' cs ∧ (seqS (augI addI (vE 0) (cE (.int 2)) (cE (.int 1)))
  (seqS (ifS (testE (opE geI (vE 2) (opE powI (cE (.int 10)) (cE (.int 18))))) (asgS (vE 2) (subG setG (vE 0) (cE (.int 0)))) nilS)
  (seqS (setS 3 (opE (addD .z) (opE (addD .z) (opE (mulG .z) (opE ixG (vE 0) (cE (.int 1))) (cE (.int 48271))) (opE modI (calE intD (consA (vE 2) nilA)) (cE (.int 2147483647)))) (opE (mulG .z) (cE (.int 7919)) (opE ixG (vE 0) (cE (.int 2))))))
  (asgS (opE modI (calE intD (consA (vE 3) nilA)) (cE (.int 2147483647))) (subG setG (vE 0) (cE (.int 1))))))) [some (.cell (.g 0)), some (.p (.int n)), some (.p (.int x)), none, none, none, none] ⟨bagC a b c cs :: g, l⟩ = .nx [some (.cell (.g 0)), some (.p (.int n)), o2, o3, none, none, none] ⟨bagC a' b' c' cs :: g, l⟩ := by
      intro x hx
      by_cases hw : (1000000000000000000 : Int) ≤ x
      · refine ⟨x, (b * 48271 + x % 2147483647 + 7919 * (c + 1)) % 2147483647, c + 1, some (.p (.int x)), some (.p (.int (b * 48271 + x % 2147483647 + 7919 * (c + 1)))), ⟨hx, Int.emod_nonneg _ (by decide), Int.emod_lt_of_pos _ d0, by have := hb.h2; omega, hb.hc⟩, ?_⟩
        walk_at "ev"
        simp only [decide_eq_true hw, if_true]
        walk_at "ev"
        simp only [mul_r s0, mul_l s1, modI_int d0]
        walk_at "ev"
        simp only [mul_r s0, mul_l s1, modI_int d0]
        walk_at "ev"
        simp only [mul_r s0, mul_l s1, modI_int d0]
        walk_at "ev"
      · refine ⟨a, (b * 48271 + x % 2147483647 + 7919 * (c + 1)) % 2147483647, c + 1, some (.p (.int x)), some (.p (.int (b * 48271 + x % 2147483647 + 7919 * (c + 1)))), ⟨hb.h0, Int.emod_nonneg _ (by decide), Int.emod_lt_of_pos _ d0, by have := hb.h2; omega, hb.hc⟩, ?_⟩
        walk_at "ev"
        simp only [decide_eq_false hw, Bool.false_eq_true, if_false]
        walk_at "ev"
        simp only [mul_r s0, mul_l s1, modI_int d0]
        walk_at "ev"
        simp only [mul_r s0, mul_l s1, modI_int d0]
        walk_at "ev"
        simp only [mul_r s0, mul_l s1, modI_int d0]
        walk_at "ev"
    by_cases hi : c < (cs.length : Int)
    · obtain ⟨i, hi0, e⟩ := bag_cell hb (m := ⟨bagC a b c cs :: g, l⟩) hi
      obtain ⟨a', b', c', o2, o3, k1, k2⟩ := key i hi0
      refine ⟨a', b', c', o2, o3, k1, ?_⟩
      rw [← k2]
      simp only [ifS, testE, opE_eq, seqS, setS, cE, vE_0, vE_s, bind_ok, bindS_ok, bix0, bix2, bix3, lift_some, eqG_int, testR_ok, hz, if_true, Bool.false_eq_true, if_false, ite_tt, ite_ff, seq_nx, calE, consA, nilA, lenG_list, ltI_int, decide_eq_true hi, e, List.set_cons_zero, List.set_cons_succ]
    · obtain ⟨a', b', c', o2, o3, k1, k2⟩ := key 0 (by decide)
      refine ⟨a', b', c', o2, o3, k1, ?_⟩
      rw [← k2]
      simp only [ifS, testE, opE_eq, seqS, setS, cE, vE_0, vE_s, bind_ok, bindS_ok, bix0, bix2, bix3, lift_some, eqG_int, testR_ok, hz, if_true, Bool.false_eq_true, if_false, ite_tt, ite_ff, seq_nx, calE, consA, nilA, lenG_list, ltI_int, decide_eq_false hi, List.set_cons_zero, List.set_cons_succ, nilS]
  · have hz' : (a == 0) = false := by simpa using hz
    refine ⟨a, b, c, none, none, hb, ?_⟩
    simp only [ifS, testE, opE_eq, cE, vE_0, bind_ok, bindS_ok, bix0, lift_some, eqG_int, testR_ok, hz', Bool.false_eq_true, if_false, ite_ff, nilS]
def bagsOk (cs : List PyData) (C : Cell) : Prop := ∃ a b c, BagOk a b c cs ∧ C = bagC a b c cs
/-- a draw below n leaves a number below n and a bag -/
theorem take_ok {n : Int} {cs : List PyData} {g : List Cell} {C : Cell} (hC : bagsOk cs C) (h0 : 0 < n) (h1 : n < 2 ^ 64) :
    ∃ r C', 0 ≤ r ∧ r < n ∧ bagsOk cs C' ∧ fnD 7 takeB [.cell (.g 0), .p (.int n)] (C :: g) = .ok (.p (.int r)) (C' :: g) := by
  obtain ⟨a, b, c, hb, rfl⟩ := hC
  obtain ⟨a', b', c', o2, o3, k1, k2⟩ := takeS_ok (n := n) (g := g) (l := []) hb
  obtain ⟨r, a2, r0, r1, k3, k4⟩ := takeT_ok (g := g) (l := []) (o2 := o2) (o3 := o3) k1 h0 h1
  refine ⟨r, _, r0, r1, ⟨a2, b', c', k3, rfl⟩, ?_⟩
  change fin (seqS takeS takeT [some (.cell (.g 0)), some (.p (.int n)), none, none, none, none, none] ⟨bagC a b c cs :: g, []⟩) = _
  unfold seqS
  rw [k2]
  exact k4
end L2.Dn
namespace L2.Dn
open PySem PySem.Spec PyProof.Rows L2
/-! ### loops and comprehensions, by what each round does -/
section
variable {g : D → Rho → Option Rho} {t : Rho → Store → Res Bool} {fe : FE} {ρ : Rho}
theorem lcM_pick {f : D → D} {p : D → Bool} {m : Store} : ∀ {ds : List D}, (∀ d ∈ ds, ∃ ρ1, g d ρ = some ρ1 ∧ t ρ1 m = .ok (p d) m ∧ (p d = true → fe ρ1 m = .ok (f d) m)) → lcM g t fe ρ ds m = .ok ((ds.filter p).map f) m
  | [], _ => rfl
  | d :: ds, h => by
    obtain ⟨ρ1, h1, h2, h3⟩ := h d (List.mem_cons_self ..)
    have ih := lcM_pick (f := f) (p := p) (m := m) (ds := ds) fun x hx => h x (List.mem_cons_of_mem _ hx)
    unfold lcM
    rw [h1]
    simp only [h2, noX, bind_ok]
    cases hp : p d with
    | true =>
      rw [hp] at h2
      simp only [h3 hp, if_true, noX, bind_ok, ih, List.filter_cons_of_pos hp, List.map_cons]
    | false => simp only [Bool.false_eq_true, if_false, ih, List.filter_cons_of_neg (show ¬ p d = true by rw [hp]; exact Bool.false_ne_true)]
theorem lcM_map {f : D → D} {m : Store} {ds : List D} (h : ∀ d ∈ ds, ∃ ρ1, g d ρ = some ρ1 ∧ t ρ1 m = .ok true m ∧ fe ρ1 m = .ok (f d) m) : lcM g t fe ρ ds m = .ok (ds.map f) m := by
  have := lcM_pick (g := g) (t := t) (fe := fe) (ρ := ρ) (f := f) (p := fun _ => true) (m := m) (ds := ds) fun d hd => by
    obtain ⟨ρ1, h1, h2, h3⟩ := h d hd
    exact ⟨ρ1, h1, h2, fun _ => h3⟩
  rw [this, List.filter_eq_self.mpr fun _ _ => rfl]
/-- each round keeps I and yields an item that P holds of -/
theorem lcM_inv {I : Store → Prop} {P : D → Prop} : ∀ {ds : List D} {m : Store}, I m → (∀ d ∈ ds, ∀ m, I m → ∃ ρ1 y m', g d ρ = some ρ1 ∧ t ρ1 m = .ok true m ∧ fe ρ1 m = .ok y m' ∧ I m' ∧ P y) → ∃ ys m', lcM g t fe ρ ds m = .ok ys m' ∧ I m' ∧ (∀ y ∈ ys, P y) ∧ ys.length = ds.length
  | [], m, hI, _ => ⟨[], m, rfl, hI, by simp, rfl⟩
  | d :: ds, m, hI, h => by
    obtain ⟨ρ1, y, m1, h1, h2, h3, h4, h5⟩ := h d (List.mem_cons_self ..) m hI
    obtain ⟨ys, m2, k1, k2, k3, k4⟩ := lcM_inv (ds := ds) h4 fun x hx => h x (List.mem_cons_of_mem _ hx)
    refine ⟨y :: ys, m2, ?_, k2, ?_, by simp [k4]⟩
    · unfold lcM
      rw [h1]
      simp only [h2, noX, bind_ok, if_true, h3, k1]
    · intro z hz
      rcases List.mem_cons.mp hz with e | hz
      · rw [e]; exact h5
      · exact k3 z hz
end
/-- each round ends well and keeps R -/
theorem forS_inv {g : FG} {body : FS} {R : Rho → Store → Prop} : ∀ {ds : List D} {ρ : Rho} {m : Store}, R ρ m → (∀ d ∈ ds, ∀ ρ m, R ρ m → ∃ ρ' m', (g d ρ m).seq body = .nx ρ' m' ∧ R ρ' m') → ∃ ρ' m', forS g body ds ρ m = .nx ρ' m' ∧ R ρ' m'
  | [], ρ, m, hR, _ => ⟨ρ, m, rfl, hR⟩
  | d :: ds, ρ, m, hR, h => by
    obtain ⟨ρ1, m1, h1, h2⟩ := h d (List.mem_cons_self ..) ρ m hR
    obtain ⟨ρ2, m2, k1, k2⟩ := forS_inv (ds := ds) h2 fun x hx => h x (List.mem_cons_of_mem _ hx)
    refine ⟨ρ2, m2, ?_, k2⟩
    unfold forS
    rw [h1]
    exact k1
/-! ### the bag as the script gives it -/
theorem abs_ok (i : Int) : 0 ≤ (if i < 0 then -i else i) := by split <;> omega
theorem bag_ok (ns : List Int) (hl : ns.length ≤ 63) : ∃ cs C, bagsOk cs C ∧ fnD 2 bagB [nums ns] [] = .ok (.cell (.g 0)) [C] := by
  have h1 : slD .z (nums ns) none (some 63) ⟨[], []⟩ = some (.p (.list (ns.map .int)), ⟨[], []⟩) := by
    show some (mkLst (cutD ((ns.map PyData.int).map D.p) none (some 63)), _) = _
    have : cutD ((ns.map PyData.int).map D.p) none (some 63) = (ns.map PyData.int).map D.p := by
      unfold cutD
      have e1 : HT.sIx ((ns.map PyData.int).map D.p).length 0 none = 0 := rfl
      have e2 : HT.sIx ((ns.map PyData.int).map D.p).length ((ns.map PyData.int).map D.p).length (some 63) = ns.length := by
        simp only [List.length_map, HT.sIx]
        rw [if_neg (by decide)]
        have : (63 : Int).toNat = 63 := rfl
        omega
      rw [e1, e2, List.drop_zero, Nat.sub_zero, List.take_of_length_le (by simp)]
    rw [this, mkLst_p]
  have h2 : lcM (oneG 1) yesT (calE absD (consA (vE 1) nilA)) [some (nums ns), none] ((ns.map PyData.int).map D.p) ⟨[], []⟩ = .ok ((ns.map fun i => PyData.int (if i < 0 then -i else i)).map D.p) ⟨[], []⟩ := by
    have := lcM_map (g := oneG 1) (t := yesT) (fe := calE absD (consA (vE 1) nilA)) (ρ := [some (nums ns), none]) (m := ⟨[], []⟩) (ds := (ns.map PyData.int).map D.p) (f := fun d => match d with | .p (.int i) => .p (.int (if i < 0 then -i else i)) | d => d) fun d hd => by
      obtain ⟨q, hq, rfl⟩ := List.mem_map.mp hd
      obtain ⟨i, _, rfl⟩ := List.mem_map.mp hq
      exact ⟨[some (nums ns), some (.p (.int i))], rfl, rfl, rfl⟩
    rw [this]
    simp only [List.map_map]
    rfl
  refine ⟨ns.map fun i => PyData.int (if i < 0 then -i else i), _, ⟨0, 1234567891, 0, ⟨by decide, by decide, by decide, by decide, fun x hx => ?_⟩, rfl⟩, ?_⟩
  · simp only [List.mem_map] at hx
    obtain ⟨i, _, rfl⟩ := hx
    exact ⟨_, rfl, abs_ok i⟩
  · change fin (bagB [some (nums ns), none] ⟨[], []⟩) = _
    have hs : ((ns.map PyData.int).map D.p).length ≤ sizeLine := by
      rw [sizeLine_eq]
      simp only [List.length_map]
      omega
    have h3 : lcE .z [1] (walkI (slE (slD .z) (vE 0) noO (someO (cE (.int 63))))) (oneG 1) yesT (calE absD (consA (vE 1) nilA)) [some (nums ns), none] ⟨[], []⟩ = .ok (.p (.list (ns.map fun i => PyData.int (if i < 0 then -i else i)))) ⟨[], []⟩ := by
      simp only [lcE, walkI, slE, vE_0, noO, someO, cE, bind_ok, h1, lift_some, itemsZ, wipeR, List.set_cons_zero, List.set_cons_succ, if_pos hs, h2, newL, mkLst_p]
    simp only [bagB, retS, lstE, consA, cE, nilA, bind_ok, h3]
    rfl
/-! ### alike -/
/-- data that repr and == take, whatever stands around -/
def fine (p : PyData) : Bool := SeqAt.shaped p && p.showable && decide (p.shown.length ≤ sizeLine) && decide (p.depth ≤ 60)
theorem repr_fine {p : PyData} {m : Store} (h1 : p.showable = true) (h2 : p.shown.length ≤ sizeLine) (h3 : p.depth ≤ 60) : reprD [.p p] m = some (.p (.str p.shown), m) := by
  simp only [reprD, whole_p, if_pos (And.intro h1 (And.intro h2 h3))]
theorem eqG_fine {p : PyData} {m : Store} (h : SeqAt.shaped p = true) : eqG false (.p p) (.p p) m = some (.p (.bool true), m) := by
  have e : PyData.eqv p p = true := by
    simp only [SeqAt.shaped, Bool.and_eq_true] at h
    exact SeqAt.eqv_refl p h.1
  have e2 : eqP false (.p p) (.p p) m = some (.p (.bool true), m) := by
    simp only [eqP, whole_p, if_pos (And.intro h h), e]
    rfl
  cases p with
  | str x => simp [eqG, altO, eqS]
  | _ => exact e2
theorem alike_fine {p : PyData} {g : List Cell} (h : fine p = true) : fnD 2 alikeB [.p p, .p p] g = .ok (.p (.bool true)) g := by
  simp only [fine, Bool.and_eq_true, decide_eq_true_eq] at h
  change fin (alikeB [some (.p p), some (.p p)] ⟨g, []⟩) = _
  simp only [alikeB, retS, andG, truG, opE_eq, calE, consA, nilA, vE_0, vE_s, bind_ok, bindS_ok, eqG_fine h.1.1.1, lift_some, repr_fine h.1.1.2 h.1.2 h.2, eqG_str, beq_self_eq_true]
  rfl
end L2.Dn
namespace L2.Dn
open PySem PySem.Spec PyProof.Rows L2
/-! ### lists and texts, frozen -/
section
variable {m : Store}
def cut {α : Type} (xs : List α) (lo hi : Option Int) : List α := (xs.drop (HT.sIx xs.length 0 lo)).take (HT.sIx xs.length xs.length hi - HT.sIx xs.length 0 lo)
theorem cutD_map (ds : List PyData) (lo hi : Option Int) : cutD (ds.map D.p) lo hi = (cut ds lo hi).map D.p := by
  simp only [cutD, cut, List.length_map, List.map_take, List.map_drop]
theorem cut_mem {α : Type} {xs : List α} {lo hi : Option Int} {x : α} (h : x ∈ cut xs lo hi) : x ∈ xs := List.mem_of_mem_drop (List.mem_of_mem_take h)
theorem cut_len {α : Type} (xs : List α) (lo hi : Option Int) : (cut xs lo hi).length = min (HT.sIx xs.length xs.length hi - HT.sIx xs.length 0 lo) (xs.length - HT.sIx xs.length 0 lo) := by
  simp only [cut, List.length_take, List.length_drop]
theorem slD_list (ds : List PyData) (lo hi : Option Int) : slD .z (.p (.list ds)) lo hi m = some (.p (.list (cut ds lo hi)), m) := by
  show some (mkLst (cutD (ds.map D.p) lo hi), m) = _
  rw [cutD_map, mkLst_p]
theorem slD_str {x : Str} (h : x.length ≤ sizeLine) (lo hi : Option Int) : slD .z (.p (.str x)) lo hi m = some (.p (.str (cutS x lo hi)), m) := by
  simp only [slD, altS, slL, lstOf, slS, if_pos h]
theorem addD_list {xs ys : List PyData} (h : xs.length + ys.length ≤ sizeLine) : addD .z (.p (.list xs)) (.p (.list ys)) m = some (.p (.list (xs ++ ys)), m) := by
  have : addD .z (.p (.list xs)) (.p (.list ys)) m = match addL .z (.p (.list xs)) (.p (.list ys)) m with
    | some r => some r
    | none => addT (.p (.list xs)) (.p (.list ys)) m := rfl
  rw [this]
  simp only [addL, lstOf, List.length_map, if_pos h, newO, ← List.map_append, mkLst_p]
theorem addD_str {x y : Str} (h : x.length + y.length ≤ sizeLine) : addD .z (.p (.str x)) (.p (.str y)) m = some (.p (.str (x ++ y)), m) := by
  have : addD .z (.p (.str x)) (.p (.str y)) m = match addS (.p (.str x)) (.p (.str y)) m with
    | some r => some r
    | none => (altO (addL .z) addT) (.p (.str x)) (.p (.str y)) m := rfl
  rw [this]
  simp only [addS, if_pos h]
theorem mulD_str {x : Str} {n : Int} (h : (decide (-1000000 ≤ n) && decide (n ≤ 1000000) && decide (x.length ≤ 16)) = true) : mulD (.p (.str x)) (.p (.int n)) m = some (.p (.str (Txt.mul x n)), m) := by
  have : mulD (.p (.str x)) (.p (.int n)) m = mulS (.p (.str x)) (.p (.int n)) m := rfl
  rw [this]
  simp only [mulS, h, if_true]
theorem ixD_str {x : Str} {k : Int} (h : x.length ≤ sizeLine) (h0 : 0 ≤ k) : ixD (.p (.str x)) (.p (.int k)) m = (x.cps.toList[k.toNat]?).map fun n => (.p (.str ⟨#[n]⟩), m) := by
  simp only [ixD, if_pos h, atI_at h0]
  cases x.cps.toList[k.toNat]? <;> rfl
theorem lenD_str {x : Str} (h : x.length ≤ sizeLine) : lenD [.p (.str x)] m = some (.p (.int x.length), m) := by
  simp only [lenD, if_pos h]
theorem upperD_str {x : Str} (h : x.length ≤ 5592405) : upperD (.p (.str x)) [] m = some (.p (.str (Txt.upper x)), m) := by
  simp only [upperD, if_pos h]
theorem splitD_z {a b : Str} (h : (b.length == 0) = false ∧ a.length + 2 ≤ sizeLine) : splitD .z (.p (.str a)) [.p (.str b)] m = some (.p (.list ((Txt.split a b).map .str)), m) := by
  simp only [splitD, if_pos h, newO]
  rw [show (Txt.split a b).map (fun t => D.p (.str t)) = ((Txt.split a b).map PyData.str).map D.p by rw [List.map_map]; rfl, mkLst_p]
theorem bind_pure {α β : Type} {r : Res α} {a : α} {k : α → Store → Res β} (h : r = .ok a m) : r.bind k = k a m := by rw [h]; rfl
/-- items that are texts -/
theorem strs_of {P : Str → Prop} : ∀ {ys : List D}, (∀ y ∈ ys, ∃ x, y = .p (.str x) ∧ P x) → ∃ xs : List Str, ys = (xs.map PyData.str).map D.p ∧ (∀ x ∈ xs, P x) ∧ xs.length = ys.length
  | [], _ => ⟨[], rfl, by simp, rfl⟩
  | y :: ys, h => by
    obtain ⟨x, e, hx⟩ := h y (List.mem_cons_self ..)
    obtain ⟨xs, k1, k2, k3⟩ := strs_of (ys := ys) fun z hz => h z (List.mem_cons_of_mem _ hz)
    refine ⟨x :: xs, by rw [e, k1]; rfl, ?_, by simp [k3]⟩
    intro z hz
    rcases List.mem_cons.mp hz with q | hz
    · rw [q]; exact hx
    · exact k2 z hz
/-- items that are data -/
theorem data_of {P : PyData → Prop} : ∀ {ys : List D}, (∀ y ∈ ys, ∃ x, y = .p x ∧ P x) → ∃ xs : List PyData, ys = xs.map D.p ∧ (∀ x ∈ xs, P x) ∧ xs.length = ys.length
  | [], _ => ⟨[], rfl, by simp, rfl⟩
  | y :: ys, h => by
    obtain ⟨x, e, hx⟩ := h y (List.mem_cons_self ..)
    obtain ⟨xs, k1, k2, k3⟩ := data_of (ys := ys) fun z hz => h z (List.mem_cons_of_mem _ hz)
    refine ⟨x :: xs, by rw [e, k1]; rfl, ?_, by simp [k3]⟩
    intro z hz
    rcases List.mem_cons.mp hz with q | hz
    · rw [q]; exact hx
    · exact k2 z hz
end
/-! ### signs of a text -/
theorem ok_iff {x : Str} : PyData.strOk x = true ↔ ∀ c ∈ x.cps.toList, c < 0x110000 := by
  obtain ⟨⟨l⟩⟩ := x
  simp [PyData.strOk]
theorem ok_cut {x : Str} (h : PyData.strOk x = true) (lo hi : Option Int) : PyData.strOk (cutS x lo hi) = true :=
  ok_iff.mpr fun c hc => ok_iff.mp h c (List.mem_of_mem_drop (List.mem_of_mem_take hc))
theorem len_cps (x : Str) : x.length = x.cps.toList.length := by obtain ⟨⟨l⟩⟩ := x; rfl
theorem len_cut (x : Str) (lo hi : Option Int) : (cutS x lo hi).length ≤ x.length := by
  rw [len_cps, len_cps]
  show ((x.cps.toList.drop _).take _).length ≤ _
  simp only [List.length_take, List.length_drop]
  omega
theorem app_cps (x y : Str) : (x ++ y).cps.toList = x.cps.toList ++ y.cps.toList := by
  show (x.cps ++ y.cps).toList = _
  simp
theorem ok_app {x y : Str} (h : PyData.strOk x = true) (h2 : PyData.strOk y = true) : PyData.strOk (x ++ y) = true :=
  ok_iff.mpr fun c hc => by
    rw [app_cps] at hc
    exact (List.mem_append.mp hc).elim (ok_iff.mp h c) (ok_iff.mp h2 c)
theorem len_app (x y : Str) : (x ++ y).length = x.length + y.length := by
  rw [len_cps, len_cps, len_cps, app_cps, List.length_append]
end L2.Dn
namespace K22
open PySem PySem.Spec PyProof.Rows L2 L2.Dn
def lx_Answers : List (Str × Bool) := [("Wrong", false)]
def li_Answers : List (Str × Bool) := [("Answers", true)]
def ga_Answers_0_ {α : Type} (us its mv ws : List α) : List α := match us, its, mv, ws with
  | [a0], [t0], [m0, m1], [] => [a0, t0, m0, m1]
  | _, _, _, _ => []
def gd_Answers_0_ (us ws : List D) : List D := ga_Answers_0_ us [.p .none] [.p (.int 0), .p (.int 0)] ws
def gv_Answers_0_ (us ws : List V) : List V := ga_Answers_0_ us [V.non] [V.int 0, V.int 0] ws
def ga_Answers_0_rest {α : Type} (us its mv ws : List α) : List α := match us, its, mv, ws with
  | [a0], [t0], [m0], [b0] => [a0, t0, b0, m0]
  | _, _, _, _ => []
def gd_Answers_0_rest (us ws : List D) : List D := ga_Answers_0_rest us [.p .none] [.p (.int 0)] ws
def gv_Answers_0_rest (us ws : List V) : List V := ga_Answers_0_rest us [V.non] [V.int 0] ws
def ga_Answers_0_rest_step {α : Type} (us its mv ws : List α) : List α := match us, its, mv, ws with
  | [a0], [t0], [], [b0, b1] => [a0, t0, b0, b1]
  | _, _, _, _ => []
def gd_Answers_0_rest_step (us ws : List D) : List D := ga_Answers_0_rest_step us [.p .none] [] ws
def gv_Answers_0_rest_step (us ws : List V) : List V := ga_Answers_0_rest_step us [V.non] [] ws
def ga_Answers_1_ {α : Type} (us its mv ws : List α) : List α := match us, its, mv, ws with
  | [a0, a1], [t0], [m0, m1], [] => [a0, a1, m0, m1]
  | _, _, _, _ => []
def gd_Answers_1_ (us ws : List D) : List D := ga_Answers_1_ us [.p .none] [.p (.int 0), .p (.int 0)] ws
def gv_Answers_1_ (us ws : List V) : List V := ga_Answers_1_ us [V.non] [V.int 0, V.int 0] ws
def ga_Answers_1_rest_step {α : Type} (us its mv ws : List α) : List α := match us, its, mv, ws with
  | [a0, a1], [t0], [], [b0, b1] => [a0, a1, b0, b1]
  | _, _, _, _ => []
def gd_Answers_1_rest_step (us ws : List D) : List D := ga_Answers_1_rest_step us [.p .none] [] ws
def gv_Answers_1_rest_step (us ws : List V) : List V := ga_Answers_1_rest_step us [V.non] [] ws
def ga_Answers_1_step_rest {α : Type} (us its mv ws : List α) : List α := match us, its, mv, ws with
  | [a0, a1], [t0], [], [b0, b1] => [a0, a1, b1, b0]
  | _, _, _, _ => []
def gd_Answers_1_step_rest (us ws : List D) : List D := ga_Answers_1_step_rest us [.p .none] [] ws
def gv_Answers_1_step_rest (us ws : List V) : List V := ga_Answers_1_step_rest us [V.non] [] ws
def body_is_integer : FS := (retS (andG (calE isiD (consA (vE 0) (consA (tyE "int") nilA))) (notE (calE isiD (consA (vE 0) (consA (tyE "bool") nilA))))))
def den_is_integer : Den := fnD 1 body_is_integer
theorem eq_is_integer (x0 : D) (g : List Cell) : den_is_integer [x0] g = fin (body_is_integer [some x0] ⟨g, []⟩) := rfl
def body_is_asked : FS := (seqS (ifS (orT (notT (tvE (calE isiD (consA (vE 0) (consA (tyE "tuple") nilA))))) (orT (testE (opE (eqG true) (calE lenG (consA (vE 0) nilA)) (cE (.int 2)))) (notT (tvE (calE isiD (consA (opE ixG (vE 0) (cE (.int 0))) (consA (tyE "tuple") nilA))))))) (retS (cE (.bool false))) nilS)
  (seqS (ifS (orT (testE (opE gtI (calE lenG (consA (opE ixG (vE 0) (cE (.int 0))) nilA)) (cE (.int 3)))) (notT (tvE (calE allD (consA (lcE .z [1] (walkI (opE ixG (vE 0) (cE (.int 0)))) (oneG 1) yesT (callE den_is_integer (consA (vE 1) nilA))) nilA))))) (retS (cE (.bool false))) nilS)
  (retS (andG (callE den_is_integer (consA (opE ixG (vE 0) (cE (.int 1))) nilA)) (opE geI (opE ixG (vE 0) (cE (.int 1))) (cE (.int 0)))))))
def den_is_asked : Den := fnD 2 body_is_asked
theorem eq_is_asked (x0 : D) (g : List Cell) : den_is_asked [x0] g = fin (body_is_asked [some x0, none] ⟨g, []⟩) := rfl
def body_is_answer_table : FS := (retS (andG (calE isiD (consA (vE 0) (consA (tyE "dict") nilA))) (calE allD (consA (lcH .items 0 .z [1, 2] (itmsI (vE 0)) (manyG [1, 2]) yesT (andG (callE den_is_asked (consA (vE 1) nilA)) (callE den_is_integer (consA (vE 2) nilA)))) nilA))))
def den_is_answer_table : Den := fnD 3 body_is_answer_table
theorem eq_is_answer_table (x0 : D) (g : List Cell) : den_is_answer_table [x0] g = fin (body_is_answer_table [some x0, none, none] ⟨g, []⟩) := rfl
def body_Answers___init__ : FS := (seqS (ifS (andT (testE (opE (isG true) (vE 1) (cE .none))) (notT (tvE (callE den_is_answer_table (consA (vE 1) nilA))))) (raiseS "Wrong" ["place"] (consA (cE (.int 0)) nilA)) nilS)
  (seqS (ifS (notT (tvE (callE den_is_integer (consA (vE 2) nilA)))) (raiseS "Wrong" ["place"] (consA (cE (.int 1)) nilA)) nilS)
  (seqS (ifS (notT (tvE (callE den_is_integer (consA (vE 3) nilA)))) (raiseS "Wrong" ["place"] (consA (cE (.int 2)) nilA)) nilS)
  (seqS (setFS ["Answers"] "its_table" (vE 0) (calE (dictD .z) (consA (orG (vE 1) (dct0E .z)) nilA)))
  (seqS (setFS ["Answers"] "its_rest" (vE 0) (vE 2))
  (setFS ["Answers"] "its_step" (vE 0) (vE 3)))))))
def den_Answers___init__ : Den := fnD 4 body_Answers___init__
theorem eq_Answers___init__ (x0 x1 x2 x3 : D) (g : List Cell) : den_Answers___init__ [x0, x1, x2, x3] g = fin (body_Answers___init__ [some x0, some x1, some x2, some x3] ⟨g, []⟩) := rfl
def body_Answers___call__ : FS := (seqS (setS 3 (tupE (consA (calE tupleD (consA (vE 1) nilA)) (consA (vE 2) nilA))))
  (seqS (ifS (testE (opE inG (vE 3) (fldE [] ["Answers"] "its_table" (vE 0)))) (retS (opE ixG (fldE [] ["Answers"] "its_table" (vE 0)) (vE 3))) nilS)
  (retS (opE (addD .z) (fldE [] ["Answers"] "its_rest" (vE 0)) (opE (mulG .z) (fldE [] ["Answers"] "its_step" (vE 0)) (vE 2))))))
def den_Answers___call__ : Den := fnD 4 body_Answers___call__
theorem eq_Answers___call__ (x0 x1 x2 : D) (g : List Cell) : den_Answers___call__ [x0, x1, x2] g = fin (body_Answers___call__ [some x0, some x1, some x2, none] ⟨g, []⟩) := rfl
def body_Answers_always : FS := (retS (makeE "Answers" den_Answers___init__ 0 1 gd_Answers_0_rest nilA (consA (vE 0) nilA)))
def den_Answers_always : Den := fnD 1 body_Answers_always
theorem eq_Answers_always (x0 : D) (g : List Cell) : den_Answers_always [x0] g = fin (body_Answers_always [some x0] ⟨g, []⟩) := rfl
def body_Answers_told : FS := (retS (calE (dictD .g) (consA (fldE [] ["Answers"] "its_table" (vE 0)) nilA)))
def den_Answers_told : Den := fnD 1 body_Answers_told
theorem eq_Answers_told (x0 : D) (g : List Cell) : den_Answers_told [x0] g = fin (body_Answers_told [some x0] ⟨g, []⟩) := rfl
def body_Answers_rest : FS := (retS (fldE [] ["Answers"] "its_rest" (vE 0)))
def den_Answers_rest : Den := fnD 1 body_Answers_rest
theorem eq_Answers_rest (x0 : D) (g : List Cell) : den_Answers_rest [x0] g = fin (body_Answers_rest [some x0] ⟨g, []⟩) := rfl
def body_Answers_step : FS := (retS (fldE [] ["Answers"] "its_step" (vE 0)))
def den_Answers_step : Den := fnD 1 body_Answers_step
theorem eq_Answers_step (x0 : D) (g : List Cell) : den_Answers_step [x0] g = fin (body_Answers_step [some x0] ⟨g, []⟩) := rfl
def body_Answers_with_answer : FS := (seqS (setS 4 (calE (dictD .g) (consA (fldE [] ["Answers"] "its_table" (vE 0)) nilA)))
  (seqS (asgS (vE 3) (subG setG (vE 4) (tupE (consA (calE tupleD (consA (vE 1) nilA)) (consA (vE 2) nilA)))))
  (retS (makeE "Answers" den_Answers___init__ 1 2 gd_Answers_1_rest_step (consA (vE 4) nilA) (consA (fldE [] ["Answers"] "its_rest" (vE 0)) (consA (fldE [] ["Answers"] "its_step" (vE 0)) nilA))))))
def den_Answers_with_answer : Den := fnD 5 body_Answers_with_answer
theorem eq_Answers_with_answer (x0 x1 x2 x3 : D) (g : List Cell) : den_Answers_with_answer [x0, x1, x2, x3] g = fin (body_Answers_with_answer [some x0, some x1, some x2, some x3, none] ⟨g, []⟩) := rfl
def body_Answers_lasting : FS := (seqS (setS 1 (dct0E .l))
  (seqS (forE (itmsI (fldE [] ["Answers"] "its_table" (vE 0))) (tupG 2 (consG (tupG 2 (consG (nameG 2) (consG (nameG 3) nilG))) (consG (nameG 4) nilG))) (ifS (testE (opE (eqG true) (vE 4) (opE (addD .z) (fldE [] ["Answers"] "its_rest" (vE 0)) (opE (mulG .z) (fldE [] ["Answers"] "its_step" (vE 0)) (vE 3))))) (asgS (vE 4) (subG setG (vE 1) (tupE (consA (vE 2) (consA (vE 3) nilA))))) nilS))
  (retS (frzE (vE 1)))))
def den_Answers_lasting : Den := fnD 5 body_Answers_lasting
theorem eq_Answers_lasting (x0 : D) (g : List Cell) : den_Answers_lasting [x0] g = fin (body_Answers_lasting [some x0, none, none, none, none] ⟨g, []⟩) := rfl
def body_Answers___eq__ : FS := (seqS (ifS (notT (tvE (calE (isCL "Answers" lx_Answers li_Answers) (consA (vE 1) (consA (fnE "Answers") nilA))))) (retS (cE (.bool false))) nilS)
  (seqS (setS 2 (opE (eqH false []) (tupE (consA (fldE [] ["Answers"] "its_rest" (vE 0)) (consA (fldE [] ["Answers"] "its_step" (vE 0)) nilA))) (tupE (consA (fldE [] ["Answers"] "its_rest" (vE 1)) (consA (fldE [] ["Answers"] "its_step" (vE 1)) nilA)))))
  (retS (andG (vE 2) (opE (eqH false []) (methE [("Answers", den_Answers_lasting)] "lasting" (vE 0) nilA) (methE [("Answers", den_Answers_lasting)] "lasting" (vE 1) nilA))))))
def den_Answers___eq__ : Den := fnD 3 body_Answers___eq__
theorem eq_Answers___eq__ (x0 x1 : D) (g : List Cell) : den_Answers___eq__ [x0, x1] g = fin (body_Answers___eq__ [some x0, some x1, none] ⟨g, []⟩) := rfl
def body__law_bag : FS := (retS (lstE .g (consA (cE (.int 0)) (consA (cE (.int 1234567891)) (consA (cE (.int 0)) (consA (lcE .z [1] (walkI (slE (slD .z) (vE 0) noO (someO (cE (.int 63))))) (oneG 1) yesT (calE absD (consA (vE 1) nilA))) nilA))))))
def den__law_bag : Den := fnD 2 body__law_bag
theorem eq__law_bag (x0 : D) (g : List Cell) : den__law_bag [x0] g = fin (body__law_bag [some x0, none] ⟨g, []⟩) := rfl
def body__law_take : FS := (seqS (ifS (testE (opE (eqG false) (opE ixG (vE 0) (cE (.int 0))) (cE (.int 0)))) (seqS (setS 2 (cE (.int 0)))
  (seqS (ifS (testE (opE ltI (opE ixG (vE 0) (cE (.int 2))) (calE lenG (consA (opE ixG (vE 0) (cE (.int 3))) nilA)))) (setS 2 (opE ixG (opE ixG (vE 0) (cE (.int 3))) (opE ixG (vE 0) (cE (.int 2))))) nilS)
  (seqS (augI addI (vE 0) (cE (.int 2)) (cE (.int 1)))
  (seqS (ifS (testE (opE geI (vE 2) (opE powI (cE (.int 10)) (cE (.int 18))))) (asgS (vE 2) (subG setG (vE 0) (cE (.int 0)))) nilS)
  (seqS (setS 3 (opE (addD .z) (opE (addD .z) (opE (mulG .z) (opE ixG (vE 0) (cE (.int 1))) (cE (.int 48271))) (opE modI (calE intD (consA (vE 2) nilA)) (cE (.int 2147483647)))) (opE (mulG .z) (cE (.int 7919)) (opE ixG (vE 0) (cE (.int 2))))))
  (asgS (opE modI (calE intD (consA (vE 3) nilA)) (cE (.int 2147483647))) (subG setG (vE 0) (cE (.int 1))))))))) nilS)
  (seqS (ifS (testE (opE gtI (opE ixG (vE 0) (cE (.int 0))) (cE (.int 0)))) (seqS (setS 4 (opE modI (calE intD (consA (opE ixG (vE 0) (cE (.int 0))) nilA)) (vE 1)))
  (seqS (asgS (opE fdivI (calE intD (consA (opE ixG (vE 0) (cE (.int 0))) nilA)) (vE 1)) (subG setG (vE 0) (cE (.int 0))))
  (retS (vE 4)))) nilS)
  (seqS (setS 5 (opE modI (calE intD (consA (opE (mulG .z) (opE (addD .z) (opE ixG (vE 0) (cE (.int 1))) (cE (.int 1))) (cE (.int 39373))) nilA)) (cE (.int 1000000007))))
  (seqS (setS 6 (opE modI (calE intD (consA (opE (mulG .z) (vE 5) (vE 5)) nilA)) (cE (.int 998244353))))
  (seqS (setS 6 (opE modI (calE intD (consA (opE (mulG .z) (vE 6) (cE (.int 30011))) nilA)) (cE (.int 998244353))))
  (seqS (ifS (testE (opE gtI (vE 1) (cE (.int 1000000)))) (retS (opE modI (calE intD (consA (opE (addD .z) (opE (mulG .z) (vE 6) (cE (.int 1000000007))) (vE 5)) nilA)) (vE 1))) nilS)
  (retS (opE modI (calE intD (consA (opE fdivI (vE 6) (cE (.int 7))) nilA)) (vE 1)))))))))
def den__law_take : Den := fnD 7 body__law_take
theorem eq__law_take (x0 x1 : D) (g : List Cell) : den__law_take [x0, x1] g = fin (body__law_take [some x0, some x1, none, none, none, none, none] ⟨g, []⟩) := rfl
def body__law_alike : FS := (retS (andG (opE (eqG false) (vE 0) (vE 1)) (opE (eqG false) (calE reprD (consA (vE 0) nilA)) (calE reprD (consA (vE 1) nilA)))))
def den__law_alike : Den := fnD 2 body__law_alike
theorem eq__law_alike (x0 x1 : D) (g : List Cell) : den__law_alike [x0, x1] g = fin (body__law_alike [some x0, some x1] ⟨g, []⟩) := rfl
def body__law_asked_of : FS := (retS (tupE (consA (calE tupleD (consA (lcE .z [1] (rng1I (consA (callE den__law_take (consA (vE 0) (consA (cE (.int 4)) nilA))) nilA)) (oneG 1) yesT (opE subI (callE den__law_take (consA (vE 0) (consA (cE (.int 3)) nilA))) (cE (.int 1)))) nilA)) (consA (opE ixG (lstE .z (consA (cE (.int 0)) (consA (cE (.int 0)) (consA (cE (.int 1)) (consA (cE (.int 2)) (consA (opE powI (cE (.int 10)) (cE (.int 30))) nilA)))))) (callE den__law_take (consA (vE 0) (consA (cE (.int 5)) nilA)))) nilA))))
def den__law_asked_of : Den := fnD 2 body__law_asked_of
theorem eq__law_asked_of (x0 : D) (g : List Cell) : den__law_asked_of [x0] g = fin (body__law_asked_of [some x0, none] ⟨g, []⟩) := rfl
def body__law_case : FS := (seqS (setS 1 (opE ixG (lstE .z (consA (cE (.int 0)) (consA (cE (.int 0)) (consA (cE (.int 5)) (consA (unE negI (cE (.int 3))) (consA (opE powI (cE (.int 10)) (cE (.int 39))) nilA)))))) (callE den__law_take (consA (vE 0) (consA (cE (.int 5)) nilA)))))
  (seqS (parS 2 3 (consA (opE ixG (lstE .z (consA (cE (.int 0)) (consA (cE (.int 0)) (consA (cE (.int 1)) (consA (unE negI (cE (.int 2))) (consA (opE powI (cE (.int 10)) (cE (.int 9))) nilA)))))) (callE den__law_take (consA (vE 0) (consA (cE (.int 5)) nilA)))) (consA (dct0E .l) nilA)))
  (seqS (forE (rng1I (consA (callE den__law_take (consA (vE 0) (consA (cE (.int 9)) nilA))) nilA)) (nameG 4) (seqS (setS 5 (callE den__law_asked_of (consA (vE 0) nilA)))
  (asgS (opE ixG (lstE .z (consA (opE (addD .z) (vE 1) (opE (mulG .z) (vE 2) (opE ixG (vE 5) (cE (.int 1))))) (consA (cE (.int 0)) (consA (cE (.int 1)) (consA (cE (.int 7)) (consA (unE negI (opE powI (cE (.int 10)) (cE (.int 39)))) nilA)))))) (callE den__law_take (consA (vE 0) (consA (cE (.int 5)) nilA)))) (subG setG (vE 3) (vE 5)))))
  (retS (tupE (consA (frzE (vE 3)) (consA (vE 1) (consA (vE 2) nilA))))))))
def den__law_case : Den := fnD 6 body__law_case
theorem eq__law_case (x0 : D) (g : List Cell) : den__law_case [x0] g = fin (body__law_case [some x0, none, none, none, none, none] ⟨g, []⟩) := rfl
def body__law_made : FS := (seqS (setS 2 (calE (dictD .g) (consA (opE ixG (vE 1) (cE (.int 0))) nilA)))
  (seqS (ifS (andT (testE (opE (eqH false []) (slE (slD .z) (vE 1) (someO (cE (.int 1))) noO) (tupE (consA (cE (.int 0)) (consA (cE (.int 0)) nilA))))) (testE (opE (eqH false []) (callE den__law_take (consA (vE 0) (consA (cE (.int 2)) nilA))) (cE (.int 0))))) (setS 3 (makeE "Answers" den_Answers___init__ 1 0 gd_Answers_1_ (consA (vE 2) nilA) nilA)) (ifS (testE (opE (eqH false []) (vE 2) (dct0E .z))) (setS 3 (makeE "Answers" den_Answers___init__ 0 2 gd_Answers_0_rest_step nilA (consA (opE ixG (vE 1) (cE (.int 1))) (consA (opE ixG (vE 1) (cE (.int 2))) nilA)))) (setS 3 (makeE "Answers" den_Answers___init__ 1 2 gd_Answers_1_step_rest (consA (vE 2) nilA) (consA (opE ixG (vE 1) (cE (.int 2))) (consA (opE ixG (vE 1) (cE (.int 1))) nilA))))))
  (seqS (exprS (dmE clearD (vE 2) nilA))
  (seqS (asgS (cE (.int 99)) (subG setG (vE 2) (tupE (consA (tupE (consA (cE (.int 9)) (consA (cE (.int 9)) nilA))) (consA (cE (.int 9)) nilA)))))
  (retS (vE 3))))))
def den__law_made : Den := fnD 4 body__law_made
theorem eq__law_made (x0 x1 : D) (g : List Cell) : den__law_made [x0, x1] g = fin (body__law_made [some x0, some x1, none, none] ⟨g, []⟩) := rfl
def body__law_value : FS := (retS (dmE getD1 (opE ixG (vE 0) (cE (.int 0))) (consA (vE 1) (consA (opE (addD .z) (opE ixG (vE 0) (cE (.int 1))) (opE (mulG .z) (opE ixG (vE 0) (cE (.int 2))) (opE ixG (vE 1) (cE (.int 1))))) nilA))))
def den__law_value : Den := fnD 2 body__law_value
theorem eq__law_value (x0 x1 : D) (g : List Cell) : den__law_value [x0, x1] g = fin (body__law_value [some x0, some x1] ⟨g, []⟩) := rfl
def body__law_are_same : FS := (seqS (ifS (testE (opE (eqG true) (slE (slD .z) (vE 0) (someO (cE (.int 1))) noO) (slE (slD .z) (vE 1) (someO (cE (.int 1))) noO))) (retS (cE (.bool false))) nilS)
  (retS (opE (eqG false) (lcE .z [2] (walkI (opE (addD .z) (calE (listG .z) (consA (opE ixG (vE 0) (cE (.int 0))) nilA)) (calE (listG .z) (consA (opE ixG (vE 1) (cE (.int 0))) nilA)))) (oneG 2) (testE (opE (eqG true) (callE den__law_value (consA (vE 0) (consA (vE 2) nilA))) (callE den__law_value (consA (vE 1) (consA (vE 2) nilA))))) (cE (.int 1))) (lstE .z nilA))))
def den__law_are_same : Den := fnD 3 body__law_are_same
theorem eq__law_are_same (x0 x1 : D) (g : List Cell) : den__law_are_same [x0, x1] g = fin (body__law_are_same [some x0, some x1, none] ⟨g, []⟩) := rfl
def body__law_right : FS := (seqS (forE (walkI (opE (addD .z) (calE (listG .z) (consA (opE ixG (vE 2) (cE (.int 0))) nilA)) (lcE .z [7] (rng1I (consA (cE (.int 4)) nilA)) (oneG 7) yesT (callE den__law_asked_of (consA (vE 0) nilA))))) (nameG 3) (seqS (setS 4 (callE den__law_value (consA (vE 2) (consA (vE 3) nilA))))
  (seqS (setS 5 (calE (listG .z) (consA (opE ixG (vE 3) (cE (.int 0))) nilA)))
  (seqS (setS 6 (lstE .z (consA (callOE [("Answers", den_Answers___call__)] (vE 1) (consA (opE ixG (vE 3) (cE (.int 0))) (consA (opE ixG (vE 3) (cE (.int 1))) nilA))) (consA (callOE [("Answers", den_Answers___call__)] (vE 1) (consA (vE 5) (consA (opE ixG (vE 3) (cE (.int 1))) nilA))) nilA))))
  (ifS (orT (notT (tvE (callE den__law_alike (consA (vE 6) (consA (lstE .z (consA (vE 4) (consA (vE 4) nilA))) nilA))))) (testE (opE (eqH true []) (vE 5) (calE (listG .z) (consA (opE ixG (vE 3) (cE (.int 0))) nilA))))) (retS (cE (.bool false))) nilS)))))
  (seqS (setS 6 (methE [("Answers", den_Answers_told)] "told" (vE 1) nilA))
  (seqS (ifS (orT (testE (opE (eqH true []) (vE 6) (opE ixG (vE 2) (cE (.int 0))))) (notT (tvE (callE den__law_alike (consA (lstE .z (consA (propE [("Answers", den_Answers_rest)] (vE 1)) (consA (propE [("Answers", den_Answers_step)] (vE 1)) nilA))) (consA (lstE .z (consA (opE ixG (vE 2) (cE (.int 1))) (consA (opE ixG (vE 2) (cE (.int 2))) nilA))) nilA)))))) (retS (cE (.bool false))) nilS)
  (seqS (exprS (dmE clearD (vE 6) nilA))
  (seqS (asgS (cE (.int 99)) (subG setG (vE 6) (tupE (consA (tupE (consA (cE (.int 9)) (consA (cE (.int 9)) nilA))) (consA (cE (.int 9)) nilA)))))
  (retS (opE (eqH false []) (methE [("Answers", den_Answers_told)] "told" (vE 1) nilA) (opE ixG (vE 2) (cE (.int 0))))))))))
def den__law_right : Den := fnD 8 body__law_right
theorem eq__law_right (x0 x1 x2 : D) (g : List Cell) : den__law_right [x0, x1, x2] g = fin (body__law_right [some x0, some x1, some x2, none, none, none, none, none] ⟨g, []⟩) := rfl
def body_law : FS := (seqS (setS 1 (callE den__law_bag (consA (vE 0) nilA)))
  (seqS (forE (rng1I (consA (cE (.int 3)) nilA)) (nameG 2) (seqS (setS 3 (lstE .l (consA (callE den__law_case (consA (vE 1) nilA)) (consA (callE den__law_case (consA (vE 1) nilA)) nilA))))
  (seqS (setS 4 (lcH .walk 3 .l [11] (walkI (vE 3)) (oneG 11) yesT (callE den__law_made (consA (vE 1) (consA (vE 11) nilA)))))
  (seqS (forE (rng1I (consA (callE den__law_take (consA (vE 1) (consA (cE (.int 6)) nilA))) nilA)) (nameG 5) (seqS (parS 6 7 (consA (callE den__law_take (consA (vE 1) (consA (calE lenG (consA (vE 3) nilA)) nilA))) (consA (callE den__law_asked_of (consA (vE 1) nilA)) nilA)))
  (seqS (setS 8 (opE ixG (lstE .z (consA (opE (addD .z) (opE ixG (opE ixG (vE 3) (vE 6)) (cE (.int 1))) (opE (mulG .z) (opE ixG (opE ixG (vE 3) (vE 6)) (cE (.int 2))) (opE ixG (vE 7) (cE (.int 1))))) (consA (cE (.int 1)) (consA (callE den__law_take (consA (vE 1) (consA (cE (.int 9)) nilA))) nilA)))) (callE den__law_take (consA (vE 1) (consA (cE (.int 3)) nilA)))))
  (seqS (setS 9 (calE (dictD .l) (consA (opE ixG (opE ixG (vE 3) (vE 6)) (cE (.int 0))) nilA)))
  (seqS (asgS (vE 8) (subG setG (vE 9) (vE 7)))
  (seqS (exprS (metE "list" appendD (vE 3) (consA (tupE (consA (frzE (vE 9)) (consA (opE ixG (opE ixG (vE 3) (vE 6)) (cE (.int 1))) (consA (opE ixG (opE ixG (vE 3) (vE 6)) (cE (.int 2))) nilA)))) nilA)))
  (exprS (metE "list" appendD (vE 4) (consA (methE [("Answers", den_Answers_with_answer)] "with_answer" (opE ixG (vE 4) (vE 6)) (consA (opE ixG (vE 7) (cE (.int 0))) (consA (opE ixG (vE 7) (cE (.int 1))) (consA (vE 8) nilA)))) nilA)))))))))
  (seqS (forE (walkI (lstE .z (consA (tupE (consA (cE (.int 0)) (consA (cE (.int 1)) nilA))) (consA (tupE (consA (cE (.int 1)) (consA (cE (.int 0)) nilA))) nilA)))) (nameG 10) (seqS (setS 11 (tupE (consA (calE (dictD .z) (consA (opE ixG (opE ixG (vE 3) (cE (.int 0))) (cE (.int 0))) nilA)) (consA (opE subI (opE ixG (opE ixG (vE 3) (cE (.int 0))) (cE (.int 1))) (opE ixG (vE 10) (cE (.int 0)))) (consA (opE subI (opE ixG (opE ixG (vE 3) (cE (.int 0))) (cE (.int 2))) (opE ixG (vE 10) (cE (.int 1)))) nilA)))))
  (seqS (exprS (metE "list" appendD (vE 3) (consA (vE 11) nilA)))
  (exprS (metE "list" appendD (vE 4) (consA (callE den__law_made (consA (vE 1) (consA (vE 11) nilA))) nilA))))))
  (seqS (setS 8 (opE ixG (lstE .z (consA (cE (.int 0)) (consA (cE (.int 4)) (consA (unE negI (cE (.int 1))) (consA (opE powI (cE (.int 10)) (cE (.int 39))) nilA))))) (callE den__law_take (consA (vE 1) (consA (cE (.int 4)) nilA)))))
  (seqS (exprS (metE "list" appendD (vE 3) (consA (tupE (consA (dct0E .z) (consA (vE 8) (consA (cE (.int 0)) nilA)))) nilA)))
  (seqS (exprS (metE "list" appendD (vE 4) (consA (callE den_Answers_always (consA (vE 8) nilA)) nilA)))
  (seqS (forE (rng1I (consA (calE lenG (consA (vE 3) nilA)) nilA)) (nameG 5) (seqS (ifS (notT (tvE (callE den__law_right (consA (vE 1) (consA (opE ixG (vE 4) (vE 5)) (consA (opE ixG (vE 3) (vE 5)) nilA)))))) (retS (cE (.bool false))) nilS)
  (forE (rng1I (consA (calE lenG (consA (vE 3) nilA)) nilA)) (nameG 12) (seqS (setS 13 (callE den__law_are_same (consA (opE ixG (vE 3) (vE 5)) (consA (opE ixG (vE 3) (vE 12)) nilA))))
  (ifS (notT (tvE (callE den__law_alike (consA (lstE .z (consA (opE (eqH false [("Answers", den_Answers___eq__)]) (opE ixG (vE 4) (vE 5)) (opE ixG (vE 4) (vE 12))) (consA (opE (eqH true [("Answers", den_Answers___eq__)]) (opE ixG (vE 4) (vE 5)) (opE ixG (vE 4) (vE 12))) nilA))) (consA (lstE .z (consA (vE 13) (consA (notE (vE 13)) nilA))) nilA))))) (retS (cE (.bool false))) nilS)))))
  (ifS (orT (testE (opE (eqH false [("Answers", den_Answers___eq__)]) (opE ixG (vE 4) (cE (.int 0))) (opE ixG (opE ixG (vE 3) (cE (.int 0))) (cE (.int 0))))) (orT (testE (opE (eqH false [("Answers", den_Answers___eq__)]) (opE ixG (vE 4) (cE (.int 0))) (cE .none))) (testE (opE (eqH false [("Answers", den_Answers___eq__)]) (opE ixG (vE 4) (unE negI (cE (.int 1)))) (vE 8))))) (retS (cE (.bool false))) nilS))))))))))
  (retS (andG (opE (eqH false [("Answers", den_Answers___eq__)]) (makeE "Answers" den_Answers___init__ 0 0 gd_Answers_0_ nilA nilA) (makeE "Answers" den_Answers___init__ 1 0 gd_Answers_1_ (consA (dct0E .z) nilA) nilA)) (opE (eqH false [("Answers", den_Answers___eq__)]) (callOE [("Answers", den_Answers___call__)] (makeE "Answers" den_Answers___init__ 0 0 gd_Answers_0_ nilA nilA) (consA (tupE nilA) (consA (cE (.int 5)) nilA))) (cE (.int 0)))))))
def den_law : Den := fnD 14 body_law
theorem eq_law (x0 : D) (g : List Cell) : den_law [x0] g = fin (body_law [some x0, none, none, none, none, none, none, none, none, none, none, none, none, none] ⟨g, []⟩) := rfl
end K22
namespace K22
open PySem PySem.Spec PyProof.Rows L2 L2.Dn
def topS (i : Nat) : Stmt := PySem.Challenge.pw_plancalls_k22_answers_told.main.body.getD i (.Pass ⟨0, 0, 0, 0⟩)
def clsS (i j : Nat) : Stmt := match topS i with
  | .ClassDef (body := b) .. => b.getD j (.Pass ⟨0, 0, 0, 0⟩)
  | s => s
abbrev s_is_integer : Stmt := topS 4
theorem sc_is_integer : FnScope ["thing"] ["thing"] (defScope s_is_integer) := ⟨rfl, rfl, rfl, by decide +kernel, rfl, by decide +kernel, by decide +kernel⟩
abbrev s_is_asked : Stmt := topS 7
theorem sc_is_asked : FnScope ["thing", "one"] ["thing"] (defScope s_is_asked) := ⟨rfl, rfl, rfl, by decide +kernel, rfl, by decide +kernel, by decide +kernel⟩
abbrev s_is_answer_table : Stmt := topS 8
theorem sc_is_answer_table : FnScope ["thing", "one", "value"] ["thing"] (defScope s_is_answer_table) := ⟨rfl, rfl, rfl, by decide +kernel, rfl, by decide +kernel, by decide +kernel⟩
abbrev s_Answers___init__ : Stmt := clsS 9 0
theorem sc_Answers___init__ : FnScope ["self", "told", "rest", "step"] ["self", "told", "rest", "step"] (defScope s_Answers___init__) := ⟨rfl, rfl, rfl, by decide +kernel, rfl, by decide +kernel, by decide +kernel⟩
abbrev s_Answers___call__ : Stmt := clsS 9 1
theorem sc_Answers___call__ : FnScope ["self", "arguments", "many", "asked"] ["self", "arguments", "many"] (defScope s_Answers___call__) := ⟨rfl, rfl, rfl, by decide +kernel, rfl, by decide +kernel, by decide +kernel⟩
abbrev s_Answers_always : Stmt := clsS 9 2
theorem sc_Answers_always : FnScope ["value"] ["value"] (defScope s_Answers_always) := ⟨rfl, rfl, rfl, by decide +kernel, rfl, by decide +kernel, by decide +kernel⟩
abbrev s_Answers_told : Stmt := clsS 9 3
theorem sc_Answers_told : FnScope ["self"] ["self"] (defScope s_Answers_told) := ⟨rfl, rfl, rfl, by decide +kernel, rfl, by decide +kernel, by decide +kernel⟩
abbrev s_Answers_rest : Stmt := clsS 9 4
theorem sc_Answers_rest : FnScope ["self"] ["self"] (defScope s_Answers_rest) := ⟨rfl, rfl, rfl, by decide +kernel, rfl, by decide +kernel, by decide +kernel⟩
abbrev s_Answers_step : Stmt := clsS 9 5
theorem sc_Answers_step : FnScope ["self"] ["self"] (defScope s_Answers_step) := ⟨rfl, rfl, rfl, by decide +kernel, rfl, by decide +kernel, by decide +kernel⟩
abbrev s_Answers_with_answer : Stmt := clsS 9 6
theorem sc_Answers_with_answer : FnScope ["self", "arguments", "many", "answer", "later"] ["self", "arguments", "many", "answer"] (defScope s_Answers_with_answer) := ⟨rfl, rfl, rfl, by decide +kernel, rfl, by decide +kernel, by decide +kernel⟩
abbrev s_Answers_lasting : Stmt := clsS 9 7
theorem sc_Answers_lasting : FnScope ["self", "found", "arguments", "many", "value"] ["self"] (defScope s_Answers_lasting) := ⟨rfl, rfl, rfl, by decide +kernel, rfl, by decide +kernel, by decide +kernel⟩
abbrev s_Answers___eq__ : Stmt := clsS 9 8
theorem sc_Answers___eq__ : FnScope ["self", "other", "same_rest"] ["self", "other"] (defScope s_Answers___eq__) := ⟨rfl, rfl, rfl, by decide +kernel, rfl, by decide +kernel, by decide +kernel⟩
abbrev s__law_bag : Stmt := topS 11
theorem sc__law_bag : FnScope ["_law_script", "_law_cell"] ["_law_script"] (defScope s__law_bag) := ⟨rfl, rfl, rfl, by decide +kernel, rfl, by decide +kernel, by decide +kernel⟩
abbrev s__law_take : Stmt := topS 12
theorem sc__law_take : FnScope ["_law_bag_here", "_law_most", "_law_cell", "_law_mixed", "_law_drawn", "_law_begin", "_law_second"] ["_law_bag_here", "_law_most"] (defScope s__law_take) := ⟨rfl, rfl, rfl, by decide +kernel, rfl, by decide +kernel, by decide +kernel⟩
abbrev s__law_alike : Stmt := topS 13
theorem sc__law_alike : FnScope ["_law_one", "_law_other"] ["_law_one", "_law_other"] (defScope s__law_alike) := ⟨rfl, rfl, rfl, by decide +kernel, rfl, by decide +kernel, by decide +kernel⟩
abbrev s__law_asked_of : Stmt := topS 14
theorem sc__law_asked_of : FnScope ["_law_bag_here", "_law_k"] ["_law_bag_here"] (defScope s__law_asked_of) := ⟨rfl, rfl, rfl, by decide +kernel, rfl, by decide +kernel, by decide +kernel⟩
abbrev s__law_case : Stmt := topS 15
theorem sc__law_case : FnScope ["_law_bag_here", "_law_base", "_law_pace", "_law_answers_of", "_law_k", "_law_one"] ["_law_bag_here"] (defScope s__law_case) := ⟨rfl, rfl, rfl, by decide +kernel, rfl, by decide +kernel, by decide +kernel⟩
abbrev s__law_made : Stmt := topS 16
theorem sc__law_made : FnScope ["_law_bag_here", "_law_case_here", "_law_handed", "_law_found"] ["_law_bag_here", "_law_case_here"] (defScope s__law_made) := ⟨rfl, rfl, rfl, by decide +kernel, rfl, by decide +kernel, by decide +kernel⟩
abbrev s__law_value : Stmt := topS 17
theorem sc__law_value : FnScope ["_law_case_here", "_law_one"] ["_law_case_here", "_law_one"] (defScope s__law_value) := ⟨rfl, rfl, rfl, by decide +kernel, rfl, by decide +kernel, by decide +kernel⟩
abbrev s__law_are_same : Stmt := topS 18
theorem sc__law_are_same : FnScope ["_law_case_here", "_law_other", "_law_one"] ["_law_case_here", "_law_other"] (defScope s__law_are_same) := ⟨rfl, rfl, rfl, by decide +kernel, rfl, by decide +kernel, by decide +kernel⟩
abbrev s__law_right : Stmt := topS 19
theorem sc__law_right : FnScope ["_law_bag_here", "_law_one", "_law_case_here", "_law_asked_of_here", "_law_due", "_law_handed", "_law_found", "_law_k"] ["_law_bag_here", "_law_one", "_law_case_here"] (defScope s__law_right) := ⟨rfl, rfl, rfl, by decide +kernel, rfl, by decide +kernel, by decide +kernel⟩
abbrev s_law : Stmt := topS 20
theorem sc_law : FnScope ["_law_script", "_law_bag_here", "_law_turn", "_law_cases", "_law_several", "_law_k", "_law_at", "_law_one", "_law_value_here", "_law_later", "_law_more", "_law_case_here", "_law_j", "_law_due"] ["_law_script"] (defScope s_law) := ⟨rfl, rfl, rfl, by decide +kernel, rfl, by decide +kernel, by decide +kernel⟩
abbrev sx_Wrong : Stmt := clsS 2 0
theorem sxc_Wrong : FnScope ["self", "place"] ["self", "place"] (defScope sx_Wrong) := ⟨rfl, rfl, rfl, by decide +kernel, rfl, by decide +kernel, by decide +kernel⟩
/-- where the defs, classes and constants stand -/
structure Ad where
  a_is_integer : Addr
  fd_is_integer : FuncData
  a_is_asked : Addr
  fd_is_asked : FuncData
  a_is_answer_table : Addr
  fd_is_answer_table : FuncData
  a_Answers___init__ : Addr
  fd_Answers___init__ : FuncData
  a_Answers___call__ : Addr
  fd_Answers___call__ : FuncData
  a_Answers_always : Addr
  fd_Answers_always : FuncData
  a_Answers_told : Addr
  fd_Answers_told : FuncData
  a_Answers_rest : Addr
  fd_Answers_rest : FuncData
  a_Answers_step : Addr
  fd_Answers_step : FuncData
  a_Answers_with_answer : Addr
  fd_Answers_with_answer : FuncData
  a_Answers_lasting : Addr
  fd_Answers_lasting : FuncData
  a_Answers___eq__ : Addr
  fd_Answers___eq__ : FuncData
  a__law_bag : Addr
  fd__law_bag : FuncData
  a__law_take : Addr
  fd__law_take : FuncData
  a__law_alike : Addr
  fd__law_alike : FuncData
  a__law_asked_of : Addr
  fd__law_asked_of : FuncData
  a__law_case : Addr
  fd__law_case : FuncData
  a__law_made : Addr
  fd__law_made : FuncData
  a__law_value : Addr
  fd__law_value : FuncData
  a__law_are_same : Addr
  fd__law_are_same : FuncData
  a__law_right : Addr
  fd__law_right : FuncData
  a_law : Addr
  fd_law : FuncData
  pp_Answers_always : Addr
  pp_Answers_rest : Addr
  pp_Answers_step : Addr
  c_PlanError : Addr
  c_Wrong : Addr
  c_Answers : Addr
  xf_Wrong : Addr
  xd_Wrong : FuncData
structure Txt (K : PySem.W.Frag) (mg : Str → Option Value) (A : Ad) : Prop where
  F_is_integer : Fun K "is_integer" "is_integer" s_is_integer A.a_is_integer A.fd_is_integer
  g_is_integer : mg "is_integer" = some (.ref A.a_is_integer)
  b_is_integer : Binds K A.fd_is_integer ["thing"] []
  F_is_asked : Fun K "is_asked" "is_asked" s_is_asked A.a_is_asked A.fd_is_asked
  g_is_asked : mg "is_asked" = some (.ref A.a_is_asked)
  b_is_asked : Binds K A.fd_is_asked ["thing"] []
  F_is_answer_table : Fun K "is_answer_table" "is_answer_table" s_is_answer_table A.a_is_answer_table A.fd_is_answer_table
  g_is_answer_table : mg "is_answer_table" = some (.ref A.a_is_answer_table)
  b_is_answer_table : Binds K A.fd_is_answer_table ["thing"] []
  F_Answers___init__ : FunD K "__init__" "Answers.__init__" (defArgs s_Answers___init__) (defBody s_Answers___init__) (defScope s_Answers___init__) [V.non] [("rest", V.int 0), ("step", V.int 0)] A.a_Answers___init__ A.fd_Answers___init__
  F_Answers___call__ : Fun K "__call__" "Answers.__call__" s_Answers___call__ A.a_Answers___call__ A.fd_Answers___call__
  b_Answers___call__ : Binds K A.fd_Answers___call__ ["self", "arguments", "many"] []
  me_Answers___call__ : Meth K A.c_Answers "__call__" A.a_Answers___call__
  co_Answers : StX.CallO K A.c_Answers A.a_Answers___call__
  F_Answers_always : Fun K "always" "Answers.always" s_Answers_always A.a_Answers_always A.fd_Answers_always
  b_Answers_always : Binds K A.fd_Answers_always ["value"] []
  st_Answers_always : StaT K A.c_Answers "always" A.pp_Answers_always A.a_Answers_always
  F_Answers_told : Fun K "told" "Answers.told" s_Answers_told A.a_Answers_told A.fd_Answers_told
  b_Answers_told : Binds K A.fd_Answers_told ["self"] []
  me_Answers_told : Meth K A.c_Answers "told" A.a_Answers_told
  F_Answers_rest : Fun K "rest" "Answers.rest" s_Answers_rest A.a_Answers_rest A.fd_Answers_rest
  b_Answers_rest : Binds K A.fd_Answers_rest ["self"] []
  pr_Answers_rest : PropOf K A.c_Answers "rest" A.pp_Answers_rest A.a_Answers_rest
  F_Answers_step : Fun K "step" "Answers.step" s_Answers_step A.a_Answers_step A.fd_Answers_step
  b_Answers_step : Binds K A.fd_Answers_step ["self"] []
  pr_Answers_step : PropOf K A.c_Answers "step" A.pp_Answers_step A.a_Answers_step
  F_Answers_with_answer : Fun K "with_answer" "Answers.with_answer" s_Answers_with_answer A.a_Answers_with_answer A.fd_Answers_with_answer
  b_Answers_with_answer : Binds K A.fd_Answers_with_answer ["self", "arguments", "many", "answer"] []
  me_Answers_with_answer : Meth K A.c_Answers "with_answer" A.a_Answers_with_answer
  F_Answers_lasting : Fun K "lasting" "Answers.lasting" s_Answers_lasting A.a_Answers_lasting A.fd_Answers_lasting
  b_Answers_lasting : Binds K A.fd_Answers_lasting ["self"] []
  me_Answers_lasting : Meth K A.c_Answers "lasting" A.a_Answers_lasting
  F_Answers___eq__ : Fun K "__eq__" "Answers.__eq__" s_Answers___eq__ A.a_Answers___eq__ A.fd_Answers___eq__
  b_Answers___eq__ : Binds K A.fd_Answers___eq__ ["self", "other"] []
  me_Answers___eq__ : Meth K A.c_Answers "__eq__" A.a_Answers___eq__
  F__law_bag : Fun K "_law_bag" "_law_bag" s__law_bag A.a__law_bag A.fd__law_bag
  g__law_bag : mg "_law_bag" = some (.ref A.a__law_bag)
  b__law_bag : Binds K A.fd__law_bag ["_law_script"] []
  F__law_take : Fun K "_law_take" "_law_take" s__law_take A.a__law_take A.fd__law_take
  g__law_take : mg "_law_take" = some (.ref A.a__law_take)
  b__law_take : Binds K A.fd__law_take ["_law_bag_here", "_law_most"] []
  F__law_alike : Fun K "_law_alike" "_law_alike" s__law_alike A.a__law_alike A.fd__law_alike
  g__law_alike : mg "_law_alike" = some (.ref A.a__law_alike)
  b__law_alike : Binds K A.fd__law_alike ["_law_one", "_law_other"] []
  F__law_asked_of : Fun K "_law_asked_of" "_law_asked_of" s__law_asked_of A.a__law_asked_of A.fd__law_asked_of
  g__law_asked_of : mg "_law_asked_of" = some (.ref A.a__law_asked_of)
  b__law_asked_of : Binds K A.fd__law_asked_of ["_law_bag_here"] []
  F__law_case : Fun K "_law_case" "_law_case" s__law_case A.a__law_case A.fd__law_case
  g__law_case : mg "_law_case" = some (.ref A.a__law_case)
  b__law_case : Binds K A.fd__law_case ["_law_bag_here"] []
  F__law_made : Fun K "_law_made" "_law_made" s__law_made A.a__law_made A.fd__law_made
  g__law_made : mg "_law_made" = some (.ref A.a__law_made)
  b__law_made : Binds K A.fd__law_made ["_law_bag_here", "_law_case_here"] []
  F__law_value : Fun K "_law_value" "_law_value" s__law_value A.a__law_value A.fd__law_value
  g__law_value : mg "_law_value" = some (.ref A.a__law_value)
  b__law_value : Binds K A.fd__law_value ["_law_case_here", "_law_one"] []
  F__law_are_same : Fun K "_law_are_same" "_law_are_same" s__law_are_same A.a__law_are_same A.fd__law_are_same
  g__law_are_same : mg "_law_are_same" = some (.ref A.a__law_are_same)
  b__law_are_same : Binds K A.fd__law_are_same ["_law_case_here", "_law_other"] []
  F__law_right : Fun K "_law_right" "_law_right" s__law_right A.a__law_right A.fd__law_right
  g__law_right : mg "_law_right" = some (.ref A.a__law_right)
  b__law_right : Binds K A.fd__law_right ["_law_bag_here", "_law_one", "_law_case_here"] []
  F_law : Fun K "law" "law" s_law A.a_law A.fd_law
  g_law : mg "law" = some (.ref A.a_law)
  b_law : Binds K A.fd_law ["_law_script"] []
  g_PlanError : mg "PlanError" = some (.ref A.c_PlanError)
  g_Wrong : mg "Wrong" = some (.ref A.c_Wrong)
  g_Answers : mg "Answers" = some (.ref A.c_Answers)
  xc_Wrong : XcT K A.c_Wrong
  xi_Wrong : PySem.W.findIn K (.ref A.c_Wrong) "__init__" = some (some (.ref A.xf_Wrong))
  xt_Wrong : PySem.W.typeIn K (.ref A.xf_Wrong) = some (.type "function")
  xF_Wrong : Fun K "__init__" "Wrong.__init__" sx_Wrong A.xf_Wrong A.xd_Wrong
  xb_Wrong : Binds K A.xd_Wrong ["self", "place"] []
  xn_Wrong_place : PySem.W.findIn K (.ref A.c_Wrong) "place" = some none
  ba_PlanError : PySem.W.specialIn K (.ref A.c_PlanError) "__getattribute__" = some (some (.builtin "type.__getattribute__"))
  bb_PlanError : PySem.W.readsIn K A.c_PlanError (.type "type") = true
  bc_PlanError : PySem.W.findCls K (.ref A.c_PlanError) (.type "type") "__init__" = some (.val (.builtin "ValueError.__init__"))
  ic_Answers : ClT K A.c_Answers
  mk_Answers : Mk K A.c_Answers A.a_Answers___init__
  en_Answers : PySem.W.findIn K (.ref A.c_Answers) "__ne__" = some (some (.builtin "object.__ne__"))
  es_Answers : PySem.W.subIn K (.ref A.c_Answers) (.type "object") = some true
  et_Answers : ∀ t ∈ ["NoneType", "bool", "int", "str", "list", "tuple", "dict"], PySem.W.subIn K (.type t) (.ref A.c_Answers) = some false
  kb_Answers_0_ : ∃ g, KBn K A.fd_Answers___init__ ["self", "told", "rest", "step"] 1 [] g gv_Answers_0_
  kb_Answers_0_rest : ∃ g, KBn K A.fd_Answers___init__ ["self", "told", "rest", "step"] 1 ["rest"] g gv_Answers_0_rest
  kb_Answers_0_rest_step : ∃ g, KBn K A.fd_Answers___init__ ["self", "told", "rest", "step"] 1 ["rest", "step"] g gv_Answers_0_rest_step
  kb_Answers_1_ : ∃ g, KBn K A.fd_Answers___init__ ["self", "told", "rest", "step"] 2 [] g gv_Answers_1_
  kb_Answers_1_rest_step : ∃ g, KBn K A.fd_Answers___init__ ["self", "told", "rest", "step"] 2 ["rest", "step"] g gv_Answers_1_rest_step
  kb_Answers_1_step_rest : ∃ g, KBn K A.fd_Answers___init__ ["self", "told", "rest", "step"] 2 ["step", "rest"] g gv_Answers_1_step_rest
  fx_its_rest : ∀ C ∈ ([] : List Str), ∃ Ca, mg C = some (.ref Ca) ∧ FldX K Ca "its_rest"
  fi_its_rest : ∀ C ∈ (["Answers"] : List Str), ∃ Ca, mg C = some (.ref Ca) ∧ FldI K Ca "its_rest"
  fx_its_step : ∀ C ∈ ([] : List Str), ∃ Ca, mg C = some (.ref Ca) ∧ FldX K Ca "its_step"
  fi_its_step : ∀ C ∈ (["Answers"] : List Str), ∃ Ca, mg C = some (.ref Ca) ∧ FldI K Ca "its_step"
  fx_its_table : ∀ C ∈ ([] : List Str), ∃ Ca, mg C = some (.ref Ca) ∧ FldX K Ca "its_table"
  fi_its_table : ∀ C ∈ (["Answers"] : List Str), ∃ Ca, mg C = some (.ref Ca) ∧ FldI K Ca "its_table"
  ix_Answers : ∀ q ∈ lx_Answers, ∃ Ca, mg q.1 = some (.ref Ca) ∧ IsX K Ca A.c_Answers q.2
  ii_Answers : ∀ q ∈ li_Answers, ∃ Ca, mg q.1 = some (.ref Ca) ∧ IsI K Ca A.c_Answers q.2
  nt_Answers : NoTys K A.c_Answers
  m_abs : mg "abs" = none
  m_all : mg "all" = none
  m_bool : mg "bool" = none
  m_dict : mg "dict" = none
  m_int : mg "int" = none
  m_isinstance : mg "isinstance" = none
  m_len : mg "len" = none
  m_list : mg "list" = none
  m_range : mg "range" = none
  m_repr : mg "repr" = none
  m_tuple : mg "tuple" = none
  c_MOST_ARGUMENTS : ∃ t, mg "MOST_ARGUMENTS" = some (.int 3 t)
theorem np_Answers_0_ (ds es : List D) (h1 : ds.length = 1) (h2 : es.length = 0) : (gd_Answers_0_ ds es).length = 4 :=
  match ds, es, h1, h2 with
  | [_], [], _, _ => rfl
theorem rel_Answers_0_ {vs ds mz zs : List V} {us its mv ws : List Value} (h1 : Vals vs us) (h2 : Vals ds its) (h3 : Vals mz mv) (h4 : Vals zs ws) : Vals (ga_Answers_0_ vs ds mz zs) (ga_Answers_0_ us its mv ws) := by
  rcases h1 with _ | ⟨r0, _ | ⟨_, _⟩⟩ <;> rcases h2 with _ | ⟨s0, _ | ⟨_, _⟩⟩ <;> rcases h3 with _ | ⟨m0, _ | ⟨m1, _ | ⟨_, _⟩⟩⟩ <;> rcases h4 with _ | ⟨_, _⟩ <;> first | exact PySem.Paired.nil | exact .cons r0 (.cons s0 (.cons m0 (.cons m1 (.nil))))
theorem arr_Answers_0_ : Arr 1 0 gv_Answers_0_ gd_Answers_0_ := ⟨fun {K H c vs zs ds es} h k l1 l2 => by
  match ds, es, l1, l2 with
  | [_], [], _, _ =>
    unfold VDs at h; obtain ⟨v0, r0, rfl, h0, h⟩ := h
    unfold VDs at h; subst h
    unfold VDs at k; subst k
    show VDs _ _ _ [_, _, _, _] [_, _, _, _]
    exact (by unfold VDs; exact ⟨_, _, rfl, h0, by unfold VDs; exact ⟨_, _, rfl, VD.non.mpr rfl, by unfold VDs; exact ⟨_, _, rfl, VD.int.mpr rfl, by unfold VDs; exact ⟨_, _, rfl, VD.int.mpr rfl, by unfold VDs; rfl⟩⟩⟩⟩)⟩
theorem np_Answers_0_rest (ds es : List D) (h1 : ds.length = 1) (h2 : es.length = 1) : (gd_Answers_0_rest ds es).length = 4 :=
  match ds, es, h1, h2 with
  | [_], [_], _, _ => rfl
theorem rel_Answers_0_rest {vs ds mz zs : List V} {us its mv ws : List Value} (h1 : Vals vs us) (h2 : Vals ds its) (h3 : Vals mz mv) (h4 : Vals zs ws) : Vals (ga_Answers_0_rest vs ds mz zs) (ga_Answers_0_rest us its mv ws) := by
  rcases h1 with _ | ⟨r0, _ | ⟨_, _⟩⟩ <;> rcases h2 with _ | ⟨s0, _ | ⟨_, _⟩⟩ <;> rcases h3 with _ | ⟨m0, _ | ⟨_, _⟩⟩ <;> rcases h4 with _ | ⟨z0, _ | ⟨_, _⟩⟩ <;> first | exact PySem.Paired.nil | exact .cons r0 (.cons s0 (.cons z0 (.cons m0 (.nil))))
theorem arr_Answers_0_rest : Arr 1 1 gv_Answers_0_rest gd_Answers_0_rest := ⟨fun {K H c vs zs ds es} h k l1 l2 => by
  match ds, es, l1, l2 with
  | [_], [_], _, _ =>
    unfold VDs at h; obtain ⟨v0, r0, rfl, h0, h⟩ := h
    unfold VDs at h; subst h
    unfold VDs at k; obtain ⟨w0, q0, rfl, k0, k⟩ := k
    unfold VDs at k; subst k
    show VDs _ _ _ [_, _, _, _] [_, _, _, _]
    exact (by unfold VDs; exact ⟨_, _, rfl, h0, by unfold VDs; exact ⟨_, _, rfl, VD.non.mpr rfl, by unfold VDs; exact ⟨_, _, rfl, k0, by unfold VDs; exact ⟨_, _, rfl, VD.int.mpr rfl, by unfold VDs; rfl⟩⟩⟩⟩)⟩
theorem np_Answers_0_rest_step (ds es : List D) (h1 : ds.length = 1) (h2 : es.length = 2) : (gd_Answers_0_rest_step ds es).length = 4 :=
  match ds, es, h1, h2 with
  | [_], [_, _], _, _ => rfl
theorem rel_Answers_0_rest_step {vs ds mz zs : List V} {us its mv ws : List Value} (h1 : Vals vs us) (h2 : Vals ds its) (h3 : Vals mz mv) (h4 : Vals zs ws) : Vals (ga_Answers_0_rest_step vs ds mz zs) (ga_Answers_0_rest_step us its mv ws) := by
  rcases h1 with _ | ⟨r0, _ | ⟨_, _⟩⟩ <;> rcases h2 with _ | ⟨s0, _ | ⟨_, _⟩⟩ <;> rcases h3 with _ | ⟨_, _⟩ <;> rcases h4 with _ | ⟨z0, _ | ⟨z1, _ | ⟨_, _⟩⟩⟩ <;> first | exact PySem.Paired.nil | exact .cons r0 (.cons s0 (.cons z0 (.cons z1 (.nil))))
theorem arr_Answers_0_rest_step : Arr 1 2 gv_Answers_0_rest_step gd_Answers_0_rest_step := ⟨fun {K H c vs zs ds es} h k l1 l2 => by
  match ds, es, l1, l2 with
  | [_], [_, _], _, _ =>
    unfold VDs at h; obtain ⟨v0, r0, rfl, h0, h⟩ := h
    unfold VDs at h; subst h
    unfold VDs at k; obtain ⟨w0, q0, rfl, k0, k⟩ := k
    unfold VDs at k; obtain ⟨w1, q1, rfl, k1, k⟩ := k
    unfold VDs at k; subst k
    show VDs _ _ _ [_, _, _, _] [_, _, _, _]
    exact (by unfold VDs; exact ⟨_, _, rfl, h0, by unfold VDs; exact ⟨_, _, rfl, VD.non.mpr rfl, by unfold VDs; exact ⟨_, _, rfl, k0, by unfold VDs; exact ⟨_, _, rfl, k1, by unfold VDs; rfl⟩⟩⟩⟩)⟩
theorem np_Answers_1_ (ds es : List D) (h1 : ds.length = 2) (h2 : es.length = 0) : (gd_Answers_1_ ds es).length = 4 :=
  match ds, es, h1, h2 with
  | [_, _], [], _, _ => rfl
theorem rel_Answers_1_ {vs ds mz zs : List V} {us its mv ws : List Value} (h1 : Vals vs us) (h2 : Vals ds its) (h3 : Vals mz mv) (h4 : Vals zs ws) : Vals (ga_Answers_1_ vs ds mz zs) (ga_Answers_1_ us its mv ws) := by
  rcases h1 with _ | ⟨r0, _ | ⟨r1, _ | ⟨_, _⟩⟩⟩ <;> rcases h2 with _ | ⟨s0, _ | ⟨_, _⟩⟩ <;> rcases h3 with _ | ⟨m0, _ | ⟨m1, _ | ⟨_, _⟩⟩⟩ <;> rcases h4 with _ | ⟨_, _⟩ <;> first | exact PySem.Paired.nil | exact .cons r0 (.cons r1 (.cons m0 (.cons m1 (.nil))))
theorem arr_Answers_1_ : Arr 2 0 gv_Answers_1_ gd_Answers_1_ := ⟨fun {K H c vs zs ds es} h k l1 l2 => by
  match ds, es, l1, l2 with
  | [_, _], [], _, _ =>
    unfold VDs at h; obtain ⟨v0, r0, rfl, h0, h⟩ := h
    unfold VDs at h; obtain ⟨v1, r1, rfl, h1, h⟩ := h
    unfold VDs at h; subst h
    unfold VDs at k; subst k
    show VDs _ _ _ [_, _, _, _] [_, _, _, _]
    exact (by unfold VDs; exact ⟨_, _, rfl, h0, by unfold VDs; exact ⟨_, _, rfl, h1, by unfold VDs; exact ⟨_, _, rfl, VD.int.mpr rfl, by unfold VDs; exact ⟨_, _, rfl, VD.int.mpr rfl, by unfold VDs; rfl⟩⟩⟩⟩)⟩
theorem np_Answers_1_rest_step (ds es : List D) (h1 : ds.length = 2) (h2 : es.length = 2) : (gd_Answers_1_rest_step ds es).length = 4 :=
  match ds, es, h1, h2 with
  | [_, _], [_, _], _, _ => rfl
theorem rel_Answers_1_rest_step {vs ds mz zs : List V} {us its mv ws : List Value} (h1 : Vals vs us) (h2 : Vals ds its) (h3 : Vals mz mv) (h4 : Vals zs ws) : Vals (ga_Answers_1_rest_step vs ds mz zs) (ga_Answers_1_rest_step us its mv ws) := by
  rcases h1 with _ | ⟨r0, _ | ⟨r1, _ | ⟨_, _⟩⟩⟩ <;> rcases h2 with _ | ⟨s0, _ | ⟨_, _⟩⟩ <;> rcases h3 with _ | ⟨_, _⟩ <;> rcases h4 with _ | ⟨z0, _ | ⟨z1, _ | ⟨_, _⟩⟩⟩ <;> first | exact PySem.Paired.nil | exact .cons r0 (.cons r1 (.cons z0 (.cons z1 (.nil))))
theorem arr_Answers_1_rest_step : Arr 2 2 gv_Answers_1_rest_step gd_Answers_1_rest_step := ⟨fun {K H c vs zs ds es} h k l1 l2 => by
  match ds, es, l1, l2 with
  | [_, _], [_, _], _, _ =>
    unfold VDs at h; obtain ⟨v0, r0, rfl, h0, h⟩ := h
    unfold VDs at h; obtain ⟨v1, r1, rfl, h1, h⟩ := h
    unfold VDs at h; subst h
    unfold VDs at k; obtain ⟨w0, q0, rfl, k0, k⟩ := k
    unfold VDs at k; obtain ⟨w1, q1, rfl, k1, k⟩ := k
    unfold VDs at k; subst k
    show VDs _ _ _ [_, _, _, _] [_, _, _, _]
    exact (by unfold VDs; exact ⟨_, _, rfl, h0, by unfold VDs; exact ⟨_, _, rfl, h1, by unfold VDs; exact ⟨_, _, rfl, k0, by unfold VDs; exact ⟨_, _, rfl, k1, by unfold VDs; rfl⟩⟩⟩⟩)⟩
theorem np_Answers_1_step_rest (ds es : List D) (h1 : ds.length = 2) (h2 : es.length = 2) : (gd_Answers_1_step_rest ds es).length = 4 :=
  match ds, es, h1, h2 with
  | [_, _], [_, _], _, _ => rfl
theorem rel_Answers_1_step_rest {vs ds mz zs : List V} {us its mv ws : List Value} (h1 : Vals vs us) (h2 : Vals ds its) (h3 : Vals mz mv) (h4 : Vals zs ws) : Vals (ga_Answers_1_step_rest vs ds mz zs) (ga_Answers_1_step_rest us its mv ws) := by
  rcases h1 with _ | ⟨r0, _ | ⟨r1, _ | ⟨_, _⟩⟩⟩ <;> rcases h2 with _ | ⟨s0, _ | ⟨_, _⟩⟩ <;> rcases h3 with _ | ⟨_, _⟩ <;> rcases h4 with _ | ⟨z0, _ | ⟨z1, _ | ⟨_, _⟩⟩⟩ <;> first | exact PySem.Paired.nil | exact .cons r0 (.cons r1 (.cons z1 (.cons z0 (.nil))))
theorem arr_Answers_1_step_rest : Arr 2 2 gv_Answers_1_step_rest gd_Answers_1_step_rest := ⟨fun {K H c vs zs ds es} h k l1 l2 => by
  match ds, es, l1, l2 with
  | [_, _], [_, _], _, _ =>
    unfold VDs at h; obtain ⟨v0, r0, rfl, h0, h⟩ := h
    unfold VDs at h; obtain ⟨v1, r1, rfl, h1, h⟩ := h
    unfold VDs at h; subst h
    unfold VDs at k; obtain ⟨w0, q0, rfl, k0, k⟩ := k
    unfold VDs at k; obtain ⟨w1, q1, rfl, k1, k⟩ := k
    unfold VDs at k; subst k
    show VDs _ _ _ [_, _, _, _] [_, _, _, _]
    exact (by unfold VDs; exact ⟨_, _, rfl, h0, by unfold VDs; exact ⟨_, _, rfl, h1, by unfold VDs; exact ⟨_, _, rfl, k1, by unfold VDs; exact ⟨_, _, rfl, k0, by unfold VDs; rfl⟩⟩⟩⟩)⟩
section
variable {P : Program} {w : World} {K : PySem.W.Frag} {mg : Str → Option Value} {base : Heap} {A : Ad}
theorem in_Wrong (T : Txt K mg A) : FnOk P w K mg base CX0 1 A.xf_Wrong A.xd_Wrong ["self", "place"] (spX A.c_Wrong ["place"]) := by
  refine T.xF_Wrong.ok sxc_Wrong spX_len fun cdv A' outer s H vs Q E hr h => ⟨_, pss_cons (ps_expr (pe_ceinit (by rfl) T.g_PlanError T.ba_PlanError T.bb_PlanError T.bc_PlanError (pa_cons (pv 0) (pa_cons pe_str pa_nil)))) (pss_one (ps_ost (pv 0) (pv 1))), ?_⟩
  obtain ⟨a, ws, rfl, hl, ha, k⟩ := h
  match ws, hl, k with
  | [v0], _, k =>
    refine ⟨.ref a, rfl, a, A.c_Wrong, [_], rfl, by simp, T.xc_Wrong.oex, ha, ?_⟩
    refine ⟨v0, rfl, .ref a, rfl, a, A.c_Wrong, rfl, T.xc_Wrong.oex, T.xn_Wrong_place, .inl ⟨ha, fun d hd hne => ?_⟩⟩
    exact k d _ hd hne upd_same (by rw [upd_ne hne, upd_same]; rfl) fun b h1 h2 => by rw [upd_ne h1, upd_ne h2]
theorem ok_is_integer (T : Txt K mg A) : FnG P w K mg base 1 A.a_is_integer A.fd_is_integer ["thing"] (spD ⟨K, w, mg, none⟩ 1 den_is_integer) := by
  refine fn_denG (body := body_is_integer) T.F_is_integer sc_is_integer rfl rfl (by decide) fun cdv A' outer s H E hG hr => ?_
  exact (dss_one (ds_ret (de_andG (de_callB call_isiD (by rfl) T.m_isinstance (by decide +kernel) (da_consN (de_var 0) (da_consN (de_ty (by rfl) T.m_int (by decide +kernel)) da_nil))) (de_one (de_not (de_callB call_isiD (by rfl) T.m_isinstance (by decide +kernel) (da_consN (de_var 0) (da_consN (de_ty (by rfl) T.m_bool (by decide +kernel)) da_nil))))))))
theorem ok_is_asked (T : Txt K mg A) : FnG P w K mg base 2 A.a_is_asked A.fd_is_asked ["thing"] (spD ⟨K, w, mg, none⟩ 1 den_is_asked) := by
  have G_is_integer := ok_is_integer (P := P) (w := w) (base := base) T
  refine fn_denG (body := body_is_asked) T.F_is_asked sc_is_asked rfl rfl (by decide) fun cdv A' outer s H E hG hr => ?_
  exact (dss_cons (ds_if (DW.dt (dw_or (dt_not (dt_tv (de_callB call_isiD (by rfl) T.m_isinstance (by decide +kernel) (da_consN (de_var 0) (da_consN (de_ty (by rfl) T.m_tuple (by decide +kernel)) da_nil))))) (dw_or (dt_cmp (op_neG' (u64 hr)) (de_callB call_lenG (by rfl) T.m_len (by decide +kernel) (da_consN (de_var 0) da_nil)) de_int) (dw_or1 (dt_not (dt_tv (de_callB call_isiD (by rfl) T.m_isinstance (by decide +kernel) (da_consN (de_ix (ix_G (u65 hr)) (de_var 0) de_int) (da_consN (de_ty (by rfl) T.m_tuple (by decide +kernel)) da_nil))))))))) (dss_one (ds_ret de_bl)) dss_nil)
      (dss_cons (ds_if (DW.dt (dw_or (dt_cmp op_gtI (de_callB call_lenG (by rfl) T.m_len (by decide +kernel) (da_consN (de_ix (ix_G (u65 hr)) (de_var 0) de_int) da_nil)) (de_gInt T.c_MOST_ARGUMENTS)) (dw_or1 (dt_not (dt_tv (de_callB (call_allD rfl) (by rfl) T.m_all (by decide +kernel) (da_consN (de_lc .z [("one", 1)] sc_is_asked.nd (di_val (de_ix (ix_G (u65 hr)) (de_var 0) de_int)) (blk_by (N := ["thing", "one"]) (sc := defScope s_is_asked) (by decide +kernel)) (fun _ _ _ _ _ => (dl_one 1 sc_is_asked.nd)) (fun _ _ _ _ _ => dts_nil) (fun _ _ _ _ _ => (de_callG G_is_integer hG (hr.mono (by decide)) T.g_is_integer T.F_is_integer.kp T.b_is_integer takes0 (da_consN (de_var 1) da_nil) (lenA_cons lenA_nil)))) da_nil))))))) (dss_one (ds_ret de_bl)) dss_nil)
      (dss_one (ds_ret (de_andG (de_callG G_is_integer hG (hr.mono (by decide)) T.g_is_integer T.F_is_integer.kp T.b_is_integer (takes_of rfl rfl rfl rfl) (da_consN (de_ix (ix_G (u65 hr)) (de_var 0) de_int) da_nil) (lenA_cons lenA_nil)) (de_one (de_cmp op_geI (de_ix (ix_G (u65 hr)) (de_var 0) de_int) de_int)))))))
theorem ok_is_answer_table (T : Txt K mg A) : FnG P w K mg base 3 A.a_is_answer_table A.fd_is_answer_table ["thing"] (spD ⟨K, w, mg, none⟩ 1 den_is_answer_table) := by
  have G_is_asked := ok_is_asked (P := P) (w := w) (base := base) T
  have G_is_integer := ok_is_integer (P := P) (w := w) (base := base) T
  refine fn_denG (body := body_is_answer_table) T.F_is_answer_table sc_is_answer_table rfl rfl (by decide) fun cdv A' outer s H E hG hr => ?_
  exact (dss_one (ds_ret (de_andG (de_callB call_isiD (by rfl) T.m_isinstance (by decide +kernel) (da_consN (de_var 0) (da_consN (de_ty (by rfl) T.m_dict (by decide +kernel)) da_nil))) (de_one (de_callB (call_allD rfl) (by rfl) T.m_all (by decide +kernel) (da_consN (de_lcH .items 0 .z [("one", 1), ("value", 2)] sc_is_answer_table.nd (di_itms (de_var 0)) (held_items (de_var 0)) (blk_by (N := ["thing", "one", "value"]) (sc := defScope s_is_answer_table) (by decide +kernel)) (fun _ _ _ _ _ => (dl_many (dls_cons 1 (dls_cons 2 dls_nil sc_is_answer_table.nd) sc_is_answer_table.nd))) (fun _ _ _ _ _ => dts_nil) (fun _ _ _ _ _ => (de_andG (de_callG G_is_asked hG (hr.mono (by decide)) T.g_is_asked T.F_is_asked.kp T.b_is_asked takes0 (da_consN (de_var 1) da_nil) (lenA_cons lenA_nil)) (de_one (de_callG G_is_integer hG (hr.mono (by decide)) T.g_is_integer T.F_is_integer.kp T.b_is_integer takes0 (da_consN (de_var 2) da_nil) (lenA_cons lenA_nil)))))) da_nil))))))
theorem ok_Answers___init__ (T : Txt K mg A) : FnG P w K mg base 4 A.a_Answers___init__ A.fd_Answers___init__ ["self", "told", "rest", "step"] (spD ⟨K, w, mg, none⟩ 4 den_Answers___init__) := by
  have G_is_answer_table := ok_is_answer_table (P := P) (w := w) (base := base) T
  have G_is_integer := ok_is_integer (P := P) (w := w) (base := base) T
  have I_Wrong := in_Wrong (P := P) (w := w) (base := base) T
  refine fn_denD (body := body_Answers___init__) T.F_Answers___init__ sc_Answers___init__ rfl rfl (by decide) fun cdv A' outer s H E hG hr => ?_
  exact (dss_cons (ds_if (DW.dt (dw_and (dt_cmp op_isNotG (de_var 1) de_non) (dw_and1 (dt_not (dt_tv (de_callG G_is_answer_table hG (hr.mono (by decide)) T.g_is_answer_table T.F_is_answer_table.kp T.b_is_answer_table (takes_of rfl rfl rfl rfl) (da_consN (de_var 1) da_nil) (lenA_cons lenA_nil))))))) (dss_one (ds_raise T.xc_Wrong T.g_Wrong T.xi_Wrong T.xt_Wrong I_Wrong (hr.mono (by decide)) T.xb_Wrong (takes_of rfl rfl rfl rfl) (da_consN de_int da_nil))) dss_nil)
      (dss_cons (ds_if (dt_not (dt_tv (de_callG G_is_integer hG (hr.mono (by decide)) T.g_is_integer T.F_is_integer.kp T.b_is_integer (takes_of rfl rfl rfl rfl) (da_consN (de_var 2) da_nil) (lenA_cons lenA_nil)))) (dss_one (ds_raise T.xc_Wrong T.g_Wrong T.xi_Wrong T.xt_Wrong I_Wrong (hr.mono (by decide)) T.xb_Wrong (takes_of rfl rfl rfl rfl) (da_consN de_int da_nil))) dss_nil)
      (dss_cons (ds_if (dt_not (dt_tv (de_callG G_is_integer hG (hr.mono (by decide)) T.g_is_integer T.F_is_integer.kp T.b_is_integer (takes_of rfl rfl rfl rfl) (da_consN (de_var 3) da_nil) (lenA_cons lenA_nil)))) (dss_one (ds_raise T.xc_Wrong T.g_Wrong T.xi_Wrong T.xt_Wrong I_Wrong (hr.mono (by decide)) T.xb_Wrong (takes_of rfl rfl rfl rfl) (da_consN de_int da_nil))) dss_nil)
      (dss_cons (ds_setF T.fi_its_table (de_var 0) (de_callTy (call_dictD .z (u65 hr)) (by rfl) T.m_dict (by decide +kernel) (da_consN (de_orG (de_var 1) (de_one (de_dict0 .z))) da_nil)))
      (dss_cons (ds_setF T.fi_its_rest (de_var 0) (de_var 2))
      (dss_one (ds_setF T.fi_its_step (de_var 0) (de_var 3))))))))
theorem ok_Answers___call__ (T : Txt K mg A) : FnG P w K mg base 1 A.a_Answers___call__ A.fd_Answers___call__ ["self", "arguments", "many"] (spD ⟨K, w, mg, none⟩ 3 den_Answers___call__) := by
  refine fn_denG (body := body_Answers___call__) T.F_Answers___call__ sc_Answers___call__ rfl rfl (by decide) fun cdv A' outer s H E hG hr => ?_
  exact (dss_cons (ds_set 3 sc_Answers___call__.nd (de_tup (da_consN (de_callTy call_tupleD (by rfl) T.m_tuple (by decide +kernel) (da_consN (de_var 1) da_nil)) (da_consN (de_var 2) da_nil))))
      (dss_cons (ds_if (dt_cmp (op_inG (u65 hr)) (de_var 3) (de_fld T.fx_its_table T.fi_its_table (de_var 0))) (dss_one (ds_ret (de_ix (ix_G (u65 hr)) (de_fld T.fx_its_table T.fi_its_table (de_var 0)) (de_var 3)))) dss_nil)
      (dss_one (ds_ret (de_op (op_addD .z) (de_fld T.fx_its_rest T.fi_its_rest (de_var 0)) (de_op (op_mulG .z) (de_fld T.fx_its_step T.fi_its_step (de_var 0)) (de_var 2)))))))
theorem ok_Answers_always (T : Txt K mg A) : FnG P w K mg base 6 A.a_Answers_always A.fd_Answers_always ["value"] (spD ⟨K, w, mg, none⟩ 1 den_Answers_always) := by
  have G_Answers___init__ := ok_Answers___init__ (P := P) (w := w) (base := base) T
  refine fn_denG (body := body_Answers_always) T.F_Answers_always sc_Answers_always rfl rfl (by decide) fun cdv A' outer s H E hG hr => ?_
  obtain ⟨gk_Answers_0_rest, hk_Answers_0_rest⟩ := T.kb_Answers_0_rest
  exact (dss_one (ds_ret (de_make0 (ks := ["rest"]) T.mk_Answers G_Answers___init__ hG (hr.mono (by decide)) T.g_Answers hk_Answers_0_rest arr_Answers_0_rest np_Answers_0_rest (takes_of rfl rfl rfl rfl) (dk_cons (de_var 0) dk_nil))))
theorem ok_Answers_told (T : Txt K mg A) : FnG P w K mg base 1 A.a_Answers_told A.fd_Answers_told ["self"] (spD ⟨K, w, mg, none⟩ 1 den_Answers_told) := by
  refine fn_denG (body := body_Answers_told) T.F_Answers_told sc_Answers_told rfl rfl (by decide) fun cdv A' outer s H E hG hr => ?_
  exact (dss_one (ds_ret (de_callTy (call_dictD .g (u65 hr)) (by rfl) T.m_dict (by decide +kernel) (da_consN (de_fld T.fx_its_table T.fi_its_table (de_var 0)) da_nil))))
theorem ok_Answers_rest (T : Txt K mg A) : FnG P w K mg base 1 A.a_Answers_rest A.fd_Answers_rest ["self"] (spD ⟨K, w, mg, none⟩ 1 den_Answers_rest) := by
  refine fn_denG (body := body_Answers_rest) T.F_Answers_rest sc_Answers_rest rfl rfl (by decide) fun cdv A' outer s H E hG hr => ?_
  exact (dss_one (ds_ret (de_fld T.fx_its_rest T.fi_its_rest (de_var 0))))
theorem ok_Answers_step (T : Txt K mg A) : FnG P w K mg base 1 A.a_Answers_step A.fd_Answers_step ["self"] (spD ⟨K, w, mg, none⟩ 1 den_Answers_step) := by
  refine fn_denG (body := body_Answers_step) T.F_Answers_step sc_Answers_step rfl rfl (by decide) fun cdv A' outer s H E hG hr => ?_
  exact (dss_one (ds_ret (de_fld T.fx_its_step T.fi_its_step (de_var 0))))
theorem ok_Answers_with_answer (T : Txt K mg A) : FnG P w K mg base 6 A.a_Answers_with_answer A.fd_Answers_with_answer ["self", "arguments", "many", "answer"] (spD ⟨K, w, mg, none⟩ 4 den_Answers_with_answer) := by
  have G_Answers___init__ := ok_Answers___init__ (P := P) (w := w) (base := base) T
  refine fn_denG (body := body_Answers_with_answer) T.F_Answers_with_answer sc_Answers_with_answer rfl rfl (by decide) fun cdv A' outer s H E hG hr => ?_
  obtain ⟨gk_Answers_1_rest_step, hk_Answers_1_rest_step⟩ := T.kb_Answers_1_rest_step
  exact (dss_cons (ds_set 4 sc_Answers_with_answer.nd (de_callTy (call_dictD .g (u65 hr)) (by rfl) T.m_dict (by decide +kernel) (da_consN (de_fld T.fx_its_table T.fi_its_table (de_var 0)) da_nil)))
      (dss_cons (ds_asg (de_var 3) (dg_sub (set_G (u65 hr)) (de_var 4) (de_tup (da_consN (de_callTy call_tupleD (by rfl) T.m_tuple (by decide +kernel) (da_consN (de_var 1) da_nil)) (da_consN (de_var 2) da_nil)))))
      (dss_one (ds_ret (de_make (ks := ["rest", "step"]) T.mk_Answers G_Answers___init__ hG (hr.mono (by decide)) T.g_Answers hk_Answers_1_rest_step arr_Answers_1_rest_step np_Answers_1_rest_step (takes_of rfl rfl rfl rfl) (da_consN (de_var 4) da_nil) (dk_cons (de_fld T.fx_its_rest T.fi_its_rest (de_var 0)) (dk_cons (de_fld T.fx_its_step T.fi_its_step (de_var 0)) dk_nil)))))))
theorem ok_Answers_lasting (T : Txt K mg A) : FnG P w K mg base 1 A.a_Answers_lasting A.fd_Answers_lasting ["self"] (spD ⟨K, w, mg, none⟩ 1 den_Answers_lasting) := by
  refine fn_denG (body := body_Answers_lasting) T.F_Answers_lasting sc_Answers_lasting rfl rfl (by decide) fun cdv A' outer s H E hG hr => ?_
  exact (dss_cons (ds_set 1 sc_Answers_lasting.nd (de_dict0 .l))
      (dss_cons (ds_for (passes_of rfl) (di_itms (de_fld T.fx_its_table T.fi_its_table (de_var 0))) (dg_tup (dgs_cons (dg_tup (dgs_cons (dg_name 2 sc_Answers_lasting.nd) (dgs_cons (dg_name 3 sc_Answers_lasting.nd) dgs_nil))) (dgs_cons (dg_name 4 sc_Answers_lasting.nd) dgs_nil))) (dss_one (ds_if (dt_cmp (op_neG' (u64 hr)) (de_var 4) (de_op (op_addD .z) (de_fld T.fx_its_rest T.fi_its_rest (de_var 0)) (de_op (op_mulG .z) (de_fld T.fx_its_step T.fi_its_step (de_var 0)) (de_var 3)))) (dss_one (ds_asg (de_var 4) (dg_sub (set_G (u65 hr)) (de_var 1) (de_tup (da_consN (de_var 2) (da_consN (de_var 3) da_nil)))))) dss_nil)))
      (dss_one (ds_ret (de_frz (de_var 1))))))
theorem ok_Answers___eq__ (T : Txt K mg A) : FnG P w K mg base 2 A.a_Answers___eq__ A.fd_Answers___eq__ ["self", "other"] (spD ⟨K, w, mg, none⟩ 2 den_Answers___eq__) := by
  have G_Answers_lasting := ok_Answers_lasting (P := P) (w := w) (base := base) T
  refine fn_denG (body := body_Answers___eq__) T.F_Answers___eq__ sc_Answers___eq__ rfl rfl (by decide) fun cdv A' outer s H E hG hr => ?_
  exact (dss_cons (ds_if (dt_not (dt_tv (de_callB (call_isC T.g_Answers T.ix_Answers T.ii_Answers T.nt_Answers) (by rfl) T.m_isinstance (by decide +kernel) (da_consN (de_var 1) (da_consN (de_fn T.g_Answers) da_nil))))) (dss_one (ds_ret de_bl)) dss_nil)
      (dss_cons (ds_set 2 sc_Answers___eq__.nd (de_cmp (op_eqH (u66 hr) hG (fun q hq => (by cases hq))) (de_tup (da_consN (de_fld T.fx_its_rest T.fi_its_rest (de_var 0)) (da_consN (de_fld T.fx_its_step T.fi_its_step (de_var 0)) da_nil))) (de_tup (da_consN (de_fld T.fx_its_rest T.fi_its_rest (de_var 1)) (da_consN (de_fld T.fx_its_step T.fi_its_step (de_var 1)) da_nil)))))
      (dss_one (ds_ret (de_andG (de_var 2) (de_one (de_cmp (op_eqH (u66 hr) hG (fun q hq => (by cases hq))) (de_meth0 hG (fcons ⟨_, _, _, _, _, T.g_Answers, T.ic_Answers.cl, T.me_Answers_lasting, G_Answers_lasting, (hr.mono (by decide)), T.b_Answers_lasting⟩ (fun q hq => (by cases hq))) (takes_of rfl rfl rfl rfl) (de_var 0)) (de_meth0 hG (fcons ⟨_, _, _, _, _, T.g_Answers, T.ic_Answers.cl, T.me_Answers_lasting, G_Answers_lasting, (hr.mono (by decide)), T.b_Answers_lasting⟩ (fun q hq => (by cases hq))) (takes_of rfl rfl rfl rfl) (de_var 1)))))))))
theorem ok__law_bag (T : Txt K mg A) : FnG P w K mg base 1 A.a__law_bag A.fd__law_bag ["_law_script"] (spD ⟨K, w, mg, none⟩ 1 den__law_bag) := by
  refine fn_denG (body := body__law_bag) T.F__law_bag sc__law_bag rfl rfl (by decide) fun cdv A' outer s H E hG hr => ?_
  exact (dss_one (ds_ret (de_lst .g (da_consN de_int (da_consN de_int (da_consN de_int (da_consN (de_lc .z [("_law_cell", 1)] sc__law_bag.nd (di_val (de_slice (sl_D .z) (de_var 0) do_none (do_some de_int))) (blk_by (N := ["_law_script", "_law_cell"]) (sc := defScope s__law_bag) (by decide +kernel)) (fun _ _ _ _ _ => (dl_one 1 sc__law_bag.nd)) (fun _ _ _ _ _ => dts_nil) (fun _ _ _ _ _ => (de_callB call_absD (by rfl) T.m_abs (by decide +kernel) (da_consN (de_var 1) da_nil)))) da_nil)))))))
theorem ok__law_take (T : Txt K mg A) : FnG P w K mg base 1 A.a__law_take A.fd__law_take ["_law_bag_here", "_law_most"] (spD ⟨K, w, mg, none⟩ 2 den__law_take) := by
  refine fn_denG (body := body__law_take) T.F__law_take sc__law_take rfl rfl (by decide) fun cdv A' outer s H E hG hr => ?_
  exact (dss_cons (ds_if (dt_cmp (op_eqG' (u64 hr)) (de_ix (ix_G (u65 hr)) (de_var 0) de_int) de_int) (dss_cons (ds_set 2 sc__law_take.nd de_int)
      (dss_cons (ds_if (dt_cmp op_ltI (de_ix (ix_G (u65 hr)) (de_var 0) de_int) (de_callB call_lenG (by rfl) T.m_len (by decide +kernel) (da_consN (de_ix (ix_G (u65 hr)) (de_var 0) de_int) da_nil))) (dss_one (ds_set 2 sc__law_take.nd (de_ix (ix_G (u65 hr)) (de_ix (ix_G (u65 hr)) (de_var 0) de_int) (de_ix (ix_G (u65 hr)) (de_var 0) de_int)))) dss_nil)
      (dss_cons (ds_augI ip_addI (de_var 0) de_int de_int)
      (dss_cons (ds_if (dt_cmp op_geI (de_var 2) (de_op op_powI de_int de_int)) (dss_one (ds_asg (de_var 2) (dg_sub (set_G (u65 hr)) (de_var 0) de_int))) dss_nil)
      (dss_cons (ds_set 3 sc__law_take.nd (de_op (op_addD .z) (de_op (op_addD .z) (de_op (op_mulG .z) (de_ix (ix_G (u65 hr)) (de_var 0) de_int) de_int) (de_op op_modI (de_callTy call_intD (by rfl) T.m_int (by decide +kernel) (da_consN (de_var 2) da_nil)) de_int)) (de_op (op_mulG .z) de_int (de_ix (ix_G (u65 hr)) (de_var 0) de_int))))
      (dss_one (ds_asg (de_op op_modI (de_callTy call_intD (by rfl) T.m_int (by decide +kernel) (da_consN (de_var 3) da_nil)) de_int) (dg_sub (set_G (u65 hr)) (de_var 0) de_int)))))))) dss_nil)
      (dss_cons (ds_if (dt_cmp op_gtI (de_ix (ix_G (u65 hr)) (de_var 0) de_int) de_int) (dss_cons (ds_set 4 sc__law_take.nd (de_op op_modI (de_callTy call_intD (by rfl) T.m_int (by decide +kernel) (da_consN (de_ix (ix_G (u65 hr)) (de_var 0) de_int) da_nil)) (de_var 1)))
      (dss_cons (ds_asg (de_op op_fdivI (de_callTy call_intD (by rfl) T.m_int (by decide +kernel) (da_consN (de_ix (ix_G (u65 hr)) (de_var 0) de_int) da_nil)) (de_var 1)) (dg_sub (set_G (u65 hr)) (de_var 0) de_int))
      (dss_one (ds_ret (de_var 4))))) dss_nil)
      (dss_cons (ds_set 5 sc__law_take.nd (de_op op_modI (de_callTy call_intD (by rfl) T.m_int (by decide +kernel) (da_consN (de_op (op_mulG .z) (de_op (op_addD .z) (de_ix (ix_G (u65 hr)) (de_var 0) de_int) de_int) de_int) da_nil)) de_int))
      (dss_cons (ds_set 6 sc__law_take.nd (de_op op_modI (de_callTy call_intD (by rfl) T.m_int (by decide +kernel) (da_consN (de_op (op_mulG .z) (de_var 5) (de_var 5)) da_nil)) de_int))
      (dss_cons (ds_set 6 sc__law_take.nd (de_op op_modI (de_callTy call_intD (by rfl) T.m_int (by decide +kernel) (da_consN (de_op (op_mulG .z) (de_var 6) de_int) da_nil)) de_int))
      (dss_cons (ds_if (dt_cmp op_gtI (de_var 1) de_int) (dss_one (ds_ret (de_op op_modI (de_callTy call_intD (by rfl) T.m_int (by decide +kernel) (da_consN (de_op (op_addD .z) (de_op (op_mulG .z) (de_var 6) de_int) (de_var 5)) da_nil)) (de_var 1)))) dss_nil)
      (dss_one (ds_ret (de_op op_modI (de_callTy call_intD (by rfl) T.m_int (by decide +kernel) (da_consN (de_op op_fdivI (de_var 6) de_int) da_nil)) (de_var 1))))))))))
theorem ok__law_alike (T : Txt K mg A) : FnG P w K mg base 1 A.a__law_alike A.fd__law_alike ["_law_one", "_law_other"] (spD ⟨K, w, mg, none⟩ 2 den__law_alike) := by
  refine fn_denG (body := body__law_alike) T.F__law_alike sc__law_alike rfl rfl (by decide) fun cdv A' outer s H E hG hr => ?_
  exact (dss_one (ds_ret (de_andG (de_cmp (op_eqG' (u64 hr)) (de_var 0) (de_var 1)) (de_one (de_cmp (op_eqG' (u64 hr)) (de_callB (call_repr hG (u64 hr)) (by rfl) T.m_repr (by decide +kernel) (da_consN (de_var 0) da_nil)) (de_callB (call_repr hG (u64 hr)) (by rfl) T.m_repr (by decide +kernel) (da_consN (de_var 1) da_nil)))))))
theorem ok__law_asked_of (T : Txt K mg A) : FnG P w K mg base 2 A.a__law_asked_of A.fd__law_asked_of ["_law_bag_here"] (spD ⟨K, w, mg, none⟩ 1 den__law_asked_of) := by
  have G__law_take := ok__law_take (P := P) (w := w) (base := base) T
  refine fn_denG (body := body__law_asked_of) T.F__law_asked_of sc__law_asked_of rfl rfl (by decide) fun cdv A' outer s H E hG hr => ?_
  exact (dss_one (ds_ret (de_tup (da_consN (de_callTy call_tupleD (by rfl) T.m_tuple (by decide +kernel) (da_consN (de_lc .z [("_law_k", 1)] sc__law_asked_of.nd (di_range1 (by rfl) T.m_range (da_consN (de_callG G__law_take hG (hr.mono (by decide)) T.g__law_take T.F__law_take.kp T.b__law_take (takes_of rfl rfl rfl rfl) (da_consN (de_var 0) (da_consN de_int da_nil)) (lenA_cons (lenA_cons lenA_nil))) da_nil)) (blk_by (N := ["_law_bag_here", "_law_k"]) (sc := defScope s__law_asked_of) (by decide +kernel)) (fun _ _ _ _ _ => (dl_one 1 sc__law_asked_of.nd)) (fun _ _ _ _ _ => dts_nil) (fun _ _ _ _ _ => (de_op op_subI (de_callG G__law_take hG (hr.mono (by decide)) T.g__law_take T.F__law_take.kp T.b__law_take takes0 (da_consN (de_var 0) (da_consN de_int da_nil)) (lenA_cons (lenA_cons lenA_nil))) de_int))) da_nil)) (da_consN (de_ix (ix_G (u65 hr)) (de_lst .z (da_consN de_int (da_consN de_int (da_consN de_int (da_consN de_int (da_consN (de_op op_powI de_int de_int) da_nil)))))) (de_callG G__law_take hG (hr.mono (by decide)) T.g__law_take T.F__law_take.kp T.b__law_take (takes_of rfl rfl rfl rfl) (da_consN (de_var 0) (da_consN de_int da_nil)) (lenA_cons (lenA_cons lenA_nil)))) da_nil)))))
theorem ok__law_case (T : Txt K mg A) : FnG P w K mg base 3 A.a__law_case A.fd__law_case ["_law_bag_here"] (spD ⟨K, w, mg, none⟩ 1 den__law_case) := by
  have G__law_asked_of := ok__law_asked_of (P := P) (w := w) (base := base) T
  have G__law_take := ok__law_take (P := P) (w := w) (base := base) T
  refine fn_denG (body := body__law_case) T.F__law_case sc__law_case rfl rfl (by decide) fun cdv A' outer s H E hG hr => ?_
  exact (dss_cons (ds_set 1 sc__law_case.nd (de_ix (ix_G (u65 hr)) (de_lst .z (da_consN de_int (da_consN de_int (da_consN de_int (da_consN (de_un un_negI de_int) (da_consN (de_op op_powI de_int de_int) da_nil)))))) (de_callG G__law_take hG (hr.mono (by decide)) T.g__law_take T.F__law_take.kp T.b__law_take (takes_of rfl rfl rfl rfl) (da_consN (de_var 0) (da_consN de_int da_nil)) (lenA_cons (lenA_cons lenA_nil)))))
      (dss_cons (ds_par 2 3 sc__law_case.nd (da_consN (de_ix (ix_G (u65 hr)) (de_lst .z (da_consN de_int (da_consN de_int (da_consN de_int (da_consN (de_un un_negI de_int) (da_consN (de_op op_powI de_int de_int) da_nil)))))) (de_callG G__law_take hG (hr.mono (by decide)) T.g__law_take T.F__law_take.kp T.b__law_take (takes_of rfl rfl rfl rfl) (da_consN (de_var 0) (da_consN de_int da_nil)) (lenA_cons (lenA_cons lenA_nil)))) (da_consN (de_dict0 .l) da_nil)))
      (dss_cons (ds_for (passes_of rfl) (di_range1 (by rfl) T.m_range (da_consN (de_callG G__law_take hG (hr.mono (by decide)) T.g__law_take T.F__law_take.kp T.b__law_take (takes_of rfl rfl rfl rfl) (da_consN (de_var 0) (da_consN de_int da_nil)) (lenA_cons (lenA_cons lenA_nil))) da_nil)) (dg_name 4 sc__law_case.nd) (dss_cons (ds_set 5 sc__law_case.nd (de_callG G__law_asked_of hG (hr.mono (by decide)) T.g__law_asked_of T.F__law_asked_of.kp T.b__law_asked_of (takes_of rfl rfl rfl rfl) (da_consN (de_var 0) da_nil) (lenA_cons lenA_nil)))
      (dss_one (ds_asg (de_ix (ix_G (u65 hr)) (de_lst .z (da_consN (de_op (op_addD .z) (de_var 1) (de_op (op_mulG .z) (de_var 2) (de_ix (ix_G (u65 hr)) (de_var 5) de_int))) (da_consN de_int (da_consN de_int (da_consN de_int (da_consN (de_un un_negI (de_op op_powI de_int de_int)) da_nil)))))) (de_callG G__law_take hG (hr.mono (by decide)) T.g__law_take T.F__law_take.kp T.b__law_take (takes_of rfl rfl rfl rfl) (da_consN (de_var 0) (da_consN de_int da_nil)) (lenA_cons (lenA_cons lenA_nil)))) (dg_sub (set_G (u65 hr)) (de_var 3) (de_var 5))))))
      (dss_one (ds_ret (de_tup (da_consN (de_frz (de_var 3)) (da_consN (de_var 1) (da_consN (de_var 2) da_nil)))))))))
theorem ok__law_made (T : Txt K mg A) : FnG P w K mg base 6 A.a__law_made A.fd__law_made ["_law_bag_here", "_law_case_here"] (spD ⟨K, w, mg, none⟩ 2 den__law_made) := by
  have G_Answers___init__ := ok_Answers___init__ (P := P) (w := w) (base := base) T
  have G__law_take := ok__law_take (P := P) (w := w) (base := base) T
  refine fn_denG (body := body__law_made) T.F__law_made sc__law_made rfl rfl (by decide) fun cdv A' outer s H E hG hr => ?_
  obtain ⟨gk_Answers_0_rest_step, hk_Answers_0_rest_step⟩ := T.kb_Answers_0_rest_step
  obtain ⟨gk_Answers_1_, hk_Answers_1_⟩ := T.kb_Answers_1_
  obtain ⟨gk_Answers_1_step_rest, hk_Answers_1_step_rest⟩ := T.kb_Answers_1_step_rest
  exact (dss_cons (ds_set 2 sc__law_made.nd (de_callTy (call_dictD .g (u65 hr)) (by rfl) T.m_dict (by decide +kernel) (da_consN (de_ix (ix_G (u65 hr)) (de_var 1) de_int) da_nil)))
      (dss_cons (ds_if (DW.dt (dw_and (dt_cmp (op_eqH (u66 hr) hG (fun q hq => (by cases hq))) (de_slice (sl_D .z) (de_var 1) (do_some de_int) do_none) (de_tup (da_consN de_int (da_consN de_int da_nil)))) (dw_and1 (dt_cmp (op_eqH (u66 hr) hG (fun q hq => (by cases hq))) (de_callG G__law_take hG (hr.mono (by decide)) T.g__law_take T.F__law_take.kp T.b__law_take (takes_of rfl rfl rfl rfl) (da_consN (de_var 0) (da_consN de_int da_nil)) (lenA_cons (lenA_cons lenA_nil))) de_int)))) (dss_one (ds_set 3 sc__law_made.nd (de_make (ks := []) T.mk_Answers G_Answers___init__ hG (hr.mono (by decide)) T.g_Answers hk_Answers_1_ arr_Answers_1_ np_Answers_1_ (takes_of rfl rfl rfl rfl) (da_consN (de_var 2) da_nil) dk_nil))) (dss_one (ds_if (dt_cmp (op_eqH (u66 hr) hG (fun q hq => (by cases hq))) (de_var 2) (de_dict0 .z)) (dss_one (ds_set 3 sc__law_made.nd (de_make0 (ks := ["rest", "step"]) T.mk_Answers G_Answers___init__ hG (hr.mono (by decide)) T.g_Answers hk_Answers_0_rest_step arr_Answers_0_rest_step np_Answers_0_rest_step (takes_of rfl rfl rfl rfl) (dk_cons (de_ix (ix_G (u65 hr)) (de_var 1) de_int) (dk_cons (de_ix (ix_G (u65 hr)) (de_var 1) de_int) dk_nil))))) (dss_one (ds_set 3 sc__law_made.nd (de_make (ks := ["step", "rest"]) T.mk_Answers G_Answers___init__ hG (hr.mono (by decide)) T.g_Answers hk_Answers_1_step_rest arr_Answers_1_step_rest np_Answers_1_step_rest (takes_of rfl rfl rfl rfl) (da_consN (de_var 2) da_nil) (dk_cons (de_ix (ix_G (u65 hr)) (de_var 1) de_int) (dk_cons (de_ix (ix_G (u65 hr)) (de_var 1) de_int) dk_nil))))))))
      (dss_cons (ds_expr (de_dm0 F.slot_dict_clear F.type_dict_clear mt_clearD (de_var 2)))
      (dss_cons (ds_asg de_int (dg_sub (set_G (u65 hr)) (de_var 2) (de_tup (da_consN (de_tup (da_consN de_int (da_consN de_int da_nil))) (da_consN de_int da_nil)))))
      (dss_one (ds_ret (de_var 3)))))))
theorem ok__law_value (T : Txt K mg A) : FnG P w K mg base 1 A.a__law_value A.fd__law_value ["_law_case_here", "_law_one"] (spD ⟨K, w, mg, none⟩ 2 den__law_value) := by
  refine fn_denG (body := body__law_value) T.F__law_value sc__law_value rfl rfl (by decide) fun cdv A' outer s H E hG hr => ?_
  exact (dss_one (ds_ret (de_dm F.slot_dict_get F.type_dict_get (mt_getD (u65 hr)) (de_ix (ix_G (u65 hr)) (de_var 0) de_int) (da_consN (de_var 1) (da_consN (de_op (op_addD .z) (de_ix (ix_G (u65 hr)) (de_var 0) de_int) (de_op (op_mulG .z) (de_ix (ix_G (u65 hr)) (de_var 0) de_int) (de_ix (ix_G (u65 hr)) (de_var 1) de_int))) da_nil)))))
theorem ok__law_are_same (T : Txt K mg A) : FnG P w K mg base 2 A.a__law_are_same A.fd__law_are_same ["_law_case_here", "_law_other"] (spD ⟨K, w, mg, none⟩ 2 den__law_are_same) := by
  have G__law_value := ok__law_value (P := P) (w := w) (base := base) T
  refine fn_denG (body := body__law_are_same) T.F__law_are_same sc__law_are_same rfl rfl (by decide) fun cdv A' outer s H E hG hr => ?_
  exact (dss_cons (ds_if (dt_cmp (op_neG' (u64 hr)) (de_slice (sl_D .z) (de_var 0) (do_some de_int) do_none) (de_slice (sl_D .z) (de_var 1) (do_some de_int) do_none)) (dss_one (ds_ret de_bl)) dss_nil)
      (dss_one (ds_ret (de_cmp (op_eqG' (u64 hr)) (de_lc .z [("_law_one", 2)] sc__law_are_same.nd (di_val (de_op (op_addD .z) (de_callTy (call_listG .z rfl) (by rfl) T.m_list (by decide +kernel) (da_consN (de_ix (ix_G (u65 hr)) (de_var 0) de_int) da_nil)) (de_callTy (call_listG .z rfl) (by rfl) T.m_list (by decide +kernel) (da_consN (de_ix (ix_G (u65 hr)) (de_var 1) de_int) da_nil)))) (blk_by (N := ["_law_case_here", "_law_other", "_law_one"]) (sc := defScope s__law_are_same) (by decide +kernel)) (fun _ _ _ _ _ => (dl_one 2 sc__law_are_same.nd)) (fun _ _ _ _ _ => (dts_one (dt_cmp (op_neG' (u64 hr)) (de_callG G__law_value hG (hr.mono (by decide)) T.g__law_value T.F__law_value.kp T.b__law_value takes0 (da_consN (de_var 0) (da_consN (de_var 2) da_nil)) (lenA_cons (lenA_cons lenA_nil))) (de_callG G__law_value hG (hr.mono (by decide)) T.g__law_value T.F__law_value.kp T.b__law_value takes0 (da_consN (de_var 1) (da_consN (de_var 2) da_nil)) (lenA_cons (lenA_cons lenA_nil)))))) (fun _ _ _ _ _ => de_int)) (de_lst .z da_nil)))))
theorem ok__law_right (T : Txt K mg A) : FnG P w K mg base 3 A.a__law_right A.fd__law_right ["_law_bag_here", "_law_one", "_law_case_here"] (spD ⟨K, w, mg, none⟩ 3 den__law_right) := by
  have G_Answers___call__ := ok_Answers___call__ (P := P) (w := w) (base := base) T
  have G_Answers_rest := ok_Answers_rest (P := P) (w := w) (base := base) T
  have G_Answers_step := ok_Answers_step (P := P) (w := w) (base := base) T
  have G_Answers_told := ok_Answers_told (P := P) (w := w) (base := base) T
  have G__law_alike := ok__law_alike (P := P) (w := w) (base := base) T
  have G__law_asked_of := ok__law_asked_of (P := P) (w := w) (base := base) T
  have G__law_value := ok__law_value (P := P) (w := w) (base := base) T
  refine fn_denG (body := body__law_right) T.F__law_right sc__law_right rfl rfl (by decide) fun cdv A' outer s H E hG hr => ?_
  exact (dss_cons (ds_for (passes_of rfl) (di_val (de_op (op_addD .z) (de_callTy (call_listG .z rfl) (by rfl) T.m_list (by decide +kernel) (da_consN (de_ix (ix_G (u65 hr)) (de_var 2) de_int) da_nil)) (de_lc .z [("_law_k", 7)] sc__law_right.nd (di_range1 (by rfl) T.m_range (da_consN de_int da_nil)) (blk_by (N := ["_law_bag_here", "_law_one", "_law_case_here", "_law_asked_of_here", "_law_due", "_law_handed", "_law_found", "_law_k"]) (sc := defScope s__law_right) (by decide +kernel)) (fun _ _ _ _ _ => (dl_one 7 sc__law_right.nd)) (fun _ _ _ _ _ => dts_nil) (fun _ _ _ _ _ => (de_callG G__law_asked_of hG (hr.mono (by decide)) T.g__law_asked_of T.F__law_asked_of.kp T.b__law_asked_of takes0 (da_consN (de_var 0) da_nil) (lenA_cons lenA_nil)))))) (dg_name 3 sc__law_right.nd) (dss_cons (ds_set 4 sc__law_right.nd (de_callG G__law_value hG (hr.mono (by decide)) T.g__law_value T.F__law_value.kp T.b__law_value (takes_of rfl rfl rfl rfl) (da_consN (de_var 2) (da_consN (de_var 3) da_nil)) (lenA_cons (lenA_cons lenA_nil))))
      (dss_cons (ds_set 5 sc__law_right.nd (de_callTy (call_listG .z rfl) (by rfl) T.m_list (by decide +kernel) (da_consN (de_ix (ix_G (u65 hr)) (de_var 3) de_int) da_nil)))
      (dss_cons (ds_set 6 sc__law_right.nd (de_lst .z (da_consN (de_callO hG (fcons ⟨_, _, _, _, _, T.g_Answers, T.co_Answers, G_Answers___call__, (hr.mono (by decide)), T.b_Answers___call__⟩ (fun q hq => (by cases hq))) (takes_of rfl rfl rfl rfl) (de_var 1) (da_consN (de_ix (ix_G (u65 hr)) (de_var 3) de_int) (da_consN (de_ix (ix_G (u65 hr)) (de_var 3) de_int) da_nil)) (lenA_cons (lenA_cons lenA_nil))) (da_consN (de_callO hG (fcons ⟨_, _, _, _, _, T.g_Answers, T.co_Answers, G_Answers___call__, (hr.mono (by decide)), T.b_Answers___call__⟩ (fun q hq => (by cases hq))) (takes_of rfl rfl rfl rfl) (de_var 1) (da_consN (de_var 5) (da_consN (de_ix (ix_G (u65 hr)) (de_var 3) de_int) da_nil)) (lenA_cons (lenA_cons lenA_nil))) da_nil))))
      (dss_one (ds_if (DW.dt (dw_or (dt_not (dt_tv (de_callG G__law_alike hG (hr.mono (by decide)) T.g__law_alike T.F__law_alike.kp T.b__law_alike (takes_of rfl rfl rfl rfl) (da_consN (de_var 6) (da_consN (de_lst .z (da_consN (de_var 4) (da_consN (de_var 4) da_nil))) da_nil)) (lenA_cons (lenA_cons lenA_nil))))) (dw_or1 (dt_cmp (op_neH (u66 hr) hG (fun q hq => (by cases hq))) (de_var 5) (de_callTy (call_listG .z rfl) (by rfl) T.m_list (by decide +kernel) (da_consN (de_ix (ix_G (u65 hr)) (de_var 3) de_int) da_nil)))))) (dss_one (ds_ret de_bl)) dss_nil))))))
      (dss_cons (ds_set 6 sc__law_right.nd (de_meth0 hG (fcons ⟨_, _, _, _, _, T.g_Answers, T.ic_Answers.cl, T.me_Answers_told, G_Answers_told, (hr.mono (by decide)), T.b_Answers_told⟩ (fun q hq => (by cases hq))) (takes_of rfl rfl rfl rfl) (de_var 1)))
      (dss_cons (ds_if (DW.dt (dw_or (dt_cmp (op_neH (u66 hr) hG (fun q hq => (by cases hq))) (de_var 6) (de_ix (ix_G (u65 hr)) (de_var 2) de_int)) (dw_or1 (dt_not (dt_tv (de_callG G__law_alike hG (hr.mono (by decide)) T.g__law_alike T.F__law_alike.kp T.b__law_alike (takes_of rfl rfl rfl rfl) (da_consN (de_lst .z (da_consN (de_prop hG (fcons ⟨_, _, _, _, _, _, T.g_Answers, T.ic_Answers.cl, T.pr_Answers_rest, G_Answers_rest, (hr.mono (by decide)), T.b_Answers_rest⟩ (fun q hq => (by cases hq))) (de_var 1)) (da_consN (de_prop hG (fcons ⟨_, _, _, _, _, _, T.g_Answers, T.ic_Answers.cl, T.pr_Answers_step, G_Answers_step, (hr.mono (by decide)), T.b_Answers_step⟩ (fun q hq => (by cases hq))) (de_var 1)) da_nil))) (da_consN (de_lst .z (da_consN (de_ix (ix_G (u65 hr)) (de_var 2) de_int) (da_consN (de_ix (ix_G (u65 hr)) (de_var 2) de_int) da_nil))) da_nil)) (lenA_cons (lenA_cons lenA_nil)))))))) (dss_one (ds_ret de_bl)) dss_nil)
      (dss_cons (ds_expr (de_dm0 F.slot_dict_clear F.type_dict_clear mt_clearD (de_var 6)))
      (dss_cons (ds_asg de_int (dg_sub (set_G (u65 hr)) (de_var 6) (de_tup (da_consN (de_tup (da_consN de_int (da_consN de_int da_nil))) (da_consN de_int da_nil)))))
      (dss_one (ds_ret (de_cmp (op_eqH (u66 hr) hG (fun q hq => (by cases hq))) (de_meth0 hG (fcons ⟨_, _, _, _, _, T.g_Answers, T.ic_Answers.cl, T.me_Answers_told, G_Answers_told, (hr.mono (by decide)), T.b_Answers_told⟩ (fun q hq => (by cases hq))) (takes_of rfl rfl rfl rfl) (de_var 1)) (de_ix (ix_G (u65 hr)) (de_var 2) de_int)))))))))
theorem ok_law (T : Txt K mg A) : FnG P w K mg base 7 A.a_law A.fd_law ["_law_script"] (spD ⟨K, w, mg, none⟩ 1 den_law) := by
  have G_Answers___call__ := ok_Answers___call__ (P := P) (w := w) (base := base) T
  have G_Answers___eq__ := ok_Answers___eq__ (P := P) (w := w) (base := base) T
  have G_Answers___init__ := ok_Answers___init__ (P := P) (w := w) (base := base) T
  have G_Answers_always := ok_Answers_always (P := P) (w := w) (base := base) T
  have G_Answers_with_answer := ok_Answers_with_answer (P := P) (w := w) (base := base) T
  have G__law_alike := ok__law_alike (P := P) (w := w) (base := base) T
  have G__law_are_same := ok__law_are_same (P := P) (w := w) (base := base) T
  have G__law_asked_of := ok__law_asked_of (P := P) (w := w) (base := base) T
  have G__law_bag := ok__law_bag (P := P) (w := w) (base := base) T
  have G__law_case := ok__law_case (P := P) (w := w) (base := base) T
  have G__law_made := ok__law_made (P := P) (w := w) (base := base) T
  have G__law_right := ok__law_right (P := P) (w := w) (base := base) T
  have G__law_take := ok__law_take (P := P) (w := w) (base := base) T
  refine fn_denG (body := body_law) T.F_law sc_law rfl rfl (by decide) fun cdv A' outer s H E hG hr => ?_
  obtain ⟨gk_Answers_0_, hk_Answers_0_⟩ := T.kb_Answers_0_
  obtain ⟨gk_Answers_1_, hk_Answers_1_⟩ := T.kb_Answers_1_
  exact (dss_cons (ds_set 1 sc_law.nd (de_callG G__law_bag hG (hr.mono (by decide)) T.g__law_bag T.F__law_bag.kp T.b__law_bag (takes_of rfl rfl rfl rfl) (da_consN (de_var 0) da_nil) (lenA_cons lenA_nil)))
      (dss_cons (ds_for (passes_of rfl) (di_range1 (by rfl) T.m_range (da_consN de_int da_nil)) (dg_name 2 sc_law.nd) (dss_cons (ds_set 3 sc_law.nd (de_lst .l (da_consN (de_callG G__law_case hG (hr.mono (by decide)) T.g__law_case T.F__law_case.kp T.b__law_case (takes_of rfl rfl rfl rfl) (da_consN (de_var 1) da_nil) (lenA_cons lenA_nil)) (da_consN (de_callG G__law_case hG (hr.mono (by decide)) T.g__law_case T.F__law_case.kp T.b__law_case (takes_of rfl rfl rfl rfl) (da_consN (de_var 1) da_nil) (lenA_cons lenA_nil)) da_nil))))
      (dss_cons (ds_setLcH .walk 3 .l 4 [("_law_case_here", 11)] sc_law.nd (di_val (de_var 3)) (held_walk (de_var 3)) (blk_by (N := ["_law_script", "_law_bag_here", "_law_turn", "_law_cases", "_law_several", "_law_k", "_law_at", "_law_one", "_law_value_here", "_law_later", "_law_more", "_law_case_here", "_law_j", "_law_due"]) (sc := defScope s_law) (by decide +kernel)) (fun _ _ _ _ _ => (dl_one 11 sc_law.nd)) (fun _ _ _ _ _ => dts_nil) (fun _ _ _ _ _ => (de_callG G__law_made hG (hr.mono (by decide)) T.g__law_made T.F__law_made.kp T.b__law_made takes0 (da_consN (de_var 1) (da_consN (de_var 11) da_nil)) (lenA_cons (lenA_cons lenA_nil)))) (sw_true rfl rfl rfl (by decide +kernel)))
      (dss_cons (ds_for (passes_of rfl) (di_range1 (by rfl) T.m_range (da_consN (de_callG G__law_take hG (hr.mono (by decide)) T.g__law_take T.F__law_take.kp T.b__law_take (takes_of rfl rfl rfl rfl) (da_consN (de_var 1) (da_consN de_int da_nil)) (lenA_cons (lenA_cons lenA_nil))) da_nil)) (dg_name 5 sc_law.nd) (dss_cons (ds_par 6 7 sc_law.nd (da_consN (de_callG G__law_take hG (hr.mono (by decide)) T.g__law_take T.F__law_take.kp T.b__law_take (takes_of rfl rfl rfl rfl) (da_consN (de_var 1) (da_consN (de_callB call_lenG (by rfl) T.m_len (by decide +kernel) (da_consN (de_var 3) da_nil)) da_nil)) (lenA_cons (lenA_cons lenA_nil))) (da_consN (de_callG G__law_asked_of hG (hr.mono (by decide)) T.g__law_asked_of T.F__law_asked_of.kp T.b__law_asked_of (takes_of rfl rfl rfl rfl) (da_consN (de_var 1) da_nil) (lenA_cons lenA_nil)) da_nil)))
      (dss_cons (ds_set 8 sc_law.nd (de_ix (ix_G (u65 hr)) (de_lst .z (da_consN (de_op (op_addD .z) (de_ix (ix_G (u65 hr)) (de_ix (ix_G (u65 hr)) (de_var 3) (de_var 6)) de_int) (de_op (op_mulG .z) (de_ix (ix_G (u65 hr)) (de_ix (ix_G (u65 hr)) (de_var 3) (de_var 6)) de_int) (de_ix (ix_G (u65 hr)) (de_var 7) de_int))) (da_consN de_int (da_consN (de_callG G__law_take hG (hr.mono (by decide)) T.g__law_take T.F__law_take.kp T.b__law_take (takes_of rfl rfl rfl rfl) (da_consN (de_var 1) (da_consN de_int da_nil)) (lenA_cons (lenA_cons lenA_nil))) da_nil)))) (de_callG G__law_take hG (hr.mono (by decide)) T.g__law_take T.F__law_take.kp T.b__law_take (takes_of rfl rfl rfl rfl) (da_consN (de_var 1) (da_consN de_int da_nil)) (lenA_cons (lenA_cons lenA_nil)))))
      (dss_cons (ds_set 9 sc_law.nd (de_callTy (call_dictD .l (u65 hr)) (by rfl) T.m_dict (by decide +kernel) (da_consN (de_ix (ix_G (u65 hr)) (de_ix (ix_G (u65 hr)) (de_var 3) (de_var 6)) de_int) da_nil)))
      (dss_cons (ds_asg (de_var 8) (dg_sub (set_G (u65 hr)) (de_var 9) (de_var 7)))
      (dss_cons (ds_expr (de_bm PySem.F.plainAttrs_list PySem.F.slot_list_append PySem.F.type_list_append mt_appendD (de_var 3) (da_consN (de_tup (da_consN (de_frz (de_var 9)) (da_consN (de_ix (ix_G (u65 hr)) (de_ix (ix_G (u65 hr)) (de_var 3) (de_var 6)) de_int) (da_consN (de_ix (ix_G (u65 hr)) (de_ix (ix_G (u65 hr)) (de_var 3) (de_var 6)) de_int) da_nil)))) da_nil)))
      (dss_one (ds_expr (de_bm PySem.F.plainAttrs_list PySem.F.slot_list_append PySem.F.type_list_append mt_appendD (de_var 4) (da_consN (de_meth hG (fcons ⟨_, _, _, _, _, T.g_Answers, T.ic_Answers.cl, T.me_Answers_with_answer, G_Answers_with_answer, (hr.mono (by decide)), T.b_Answers_with_answer⟩ (fun q hq => (by cases hq))) (takes_of rfl rfl rfl rfl) (de_ix (ix_G (u65 hr)) (de_var 4) (de_var 6)) (da_consN (de_ix (ix_G (u65 hr)) (de_var 7) de_int) (da_consN (de_ix (ix_G (u65 hr)) (de_var 7) de_int) (da_consN (de_var 8) da_nil))) (lenA_cons (lenA_cons (lenA_cons lenA_nil)))) da_nil))))))))))
      (dss_cons (ds_for (passes_of rfl) (di_val (de_lst .z (da_consN (de_tup (da_consN de_int (da_consN de_int da_nil))) (da_consN (de_tup (da_consN de_int (da_consN de_int da_nil))) da_nil)))) (dg_name 10 sc_law.nd) (dss_cons (ds_set 11 sc_law.nd (de_tup (da_consN (de_callTy (call_dictD .z (u65 hr)) (by rfl) T.m_dict (by decide +kernel) (da_consN (de_ix (ix_G (u65 hr)) (de_ix (ix_G (u65 hr)) (de_var 3) de_int) de_int) da_nil)) (da_consN (de_op op_subI (de_ix (ix_G (u65 hr)) (de_ix (ix_G (u65 hr)) (de_var 3) de_int) de_int) (de_ix (ix_G (u65 hr)) (de_var 10) de_int)) (da_consN (de_op op_subI (de_ix (ix_G (u65 hr)) (de_ix (ix_G (u65 hr)) (de_var 3) de_int) de_int) (de_ix (ix_G (u65 hr)) (de_var 10) de_int)) da_nil)))))
      (dss_cons (ds_expr (de_bm PySem.F.plainAttrs_list PySem.F.slot_list_append PySem.F.type_list_append mt_appendD (de_var 3) (da_consN (de_var 11) da_nil)))
      (dss_one (ds_expr (de_bm PySem.F.plainAttrs_list PySem.F.slot_list_append PySem.F.type_list_append mt_appendD (de_var 4) (da_consN (de_callG G__law_made hG (hr.mono (by decide)) T.g__law_made T.F__law_made.kp T.b__law_made (takes_of rfl rfl rfl rfl) (da_consN (de_var 1) (da_consN (de_var 11) da_nil)) (lenA_cons (lenA_cons lenA_nil))) da_nil)))))))
      (dss_cons (ds_set 8 sc_law.nd (de_ix (ix_G (u65 hr)) (de_lst .z (da_consN de_int (da_consN de_int (da_consN (de_un un_negI de_int) (da_consN (de_op op_powI de_int de_int) da_nil))))) (de_callG G__law_take hG (hr.mono (by decide)) T.g__law_take T.F__law_take.kp T.b__law_take (takes_of rfl rfl rfl rfl) (da_consN (de_var 1) (da_consN de_int da_nil)) (lenA_cons (lenA_cons lenA_nil)))))
      (dss_cons (ds_expr (de_bm PySem.F.plainAttrs_list PySem.F.slot_list_append PySem.F.type_list_append mt_appendD (de_var 3) (da_consN (de_tup (da_consN (de_dict0 .z) (da_consN (de_var 8) (da_consN de_int da_nil)))) da_nil)))
      (dss_cons (ds_expr (de_bm PySem.F.plainAttrs_list PySem.F.slot_list_append PySem.F.type_list_append mt_appendD (de_var 4) (da_consN (de_static G_Answers_always hG (hr.mono (by decide)) T.g_Answers T.st_Answers_always T.b_Answers_always (takes_of rfl rfl rfl rfl) (da_consN (de_var 8) da_nil) (lenA_cons lenA_nil)) da_nil)))
      (dss_cons (ds_for (passes_of rfl) (di_range1 (by rfl) T.m_range (da_consN (de_callB call_lenG (by rfl) T.m_len (by decide +kernel) (da_consN (de_var 3) da_nil)) da_nil)) (dg_name 5 sc_law.nd) (dss_cons (ds_if (dt_not (dt_tv (de_callG G__law_right hG (hr.mono (by decide)) T.g__law_right T.F__law_right.kp T.b__law_right (takes_of rfl rfl rfl rfl) (da_consN (de_var 1) (da_consN (de_ix (ix_G (u65 hr)) (de_var 4) (de_var 5)) (da_consN (de_ix (ix_G (u65 hr)) (de_var 3) (de_var 5)) da_nil))) (lenA_cons (lenA_cons (lenA_cons lenA_nil)))))) (dss_one (ds_ret de_bl)) dss_nil)
      (dss_one (ds_for (passes_of rfl) (di_range1 (by rfl) T.m_range (da_consN (de_callB call_lenG (by rfl) T.m_len (by decide +kernel) (da_consN (de_var 3) da_nil)) da_nil)) (dg_name 12 sc_law.nd) (dss_cons (ds_set 13 sc_law.nd (de_callG G__law_are_same hG (hr.mono (by decide)) T.g__law_are_same T.F__law_are_same.kp T.b__law_are_same (takes_of rfl rfl rfl rfl) (da_consN (de_ix (ix_G (u65 hr)) (de_var 3) (de_var 5)) (da_consN (de_ix (ix_G (u65 hr)) (de_var 3) (de_var 12)) da_nil)) (lenA_cons (lenA_cons lenA_nil))))
      (dss_one (ds_if (dt_not (dt_tv (de_callG G__law_alike hG (hr.mono (by decide)) T.g__law_alike T.F__law_alike.kp T.b__law_alike (takes_of rfl rfl rfl rfl) (da_consN (de_lst .z (da_consN (de_cmp (op_eqH (u66 hr) hG (fcons ⟨_, _, _, _, _, T.g_Answers, T.me_Answers___eq__.at_, T.me_Answers___eq__.fn, T.en_Answers, T.es_Answers, T.et_Answers, G_Answers___eq__, (hr.mono (by decide)), T.b_Answers___eq__⟩ (fun q hq => (by cases hq)))) (de_ix (ix_G (u65 hr)) (de_var 4) (de_var 5)) (de_ix (ix_G (u65 hr)) (de_var 4) (de_var 12))) (da_consN (de_cmp (op_neH (u66 hr) hG (fcons ⟨_, _, _, _, _, T.g_Answers, T.me_Answers___eq__.at_, T.me_Answers___eq__.fn, T.en_Answers, T.es_Answers, T.et_Answers, G_Answers___eq__, (hr.mono (by decide)), T.b_Answers___eq__⟩ (fun q hq => (by cases hq)))) (de_ix (ix_G (u65 hr)) (de_var 4) (de_var 5)) (de_ix (ix_G (u65 hr)) (de_var 4) (de_var 12))) da_nil))) (da_consN (de_lst .z (da_consN (de_var 13) (da_consN (de_not (de_var 13)) da_nil))) da_nil)) (lenA_cons (lenA_cons lenA_nil))))) (dss_one (ds_ret de_bl)) dss_nil)))))))
      (dss_one (ds_if (DW.dt (dw_or (dt_cmp (op_eqH (u66 hr) hG (fcons ⟨_, _, _, _, _, T.g_Answers, T.me_Answers___eq__.at_, T.me_Answers___eq__.fn, T.en_Answers, T.es_Answers, T.et_Answers, G_Answers___eq__, (hr.mono (by decide)), T.b_Answers___eq__⟩ (fun q hq => (by cases hq)))) (de_ix (ix_G (u65 hr)) (de_var 4) de_int) (de_ix (ix_G (u65 hr)) (de_ix (ix_G (u65 hr)) (de_var 3) de_int) de_int)) (dw_or (dt_cmp (op_eqH (u66 hr) hG (fcons ⟨_, _, _, _, _, T.g_Answers, T.me_Answers___eq__.at_, T.me_Answers___eq__.fn, T.en_Answers, T.es_Answers, T.et_Answers, G_Answers___eq__, (hr.mono (by decide)), T.b_Answers___eq__⟩ (fun q hq => (by cases hq)))) (de_ix (ix_G (u65 hr)) (de_var 4) de_int) de_non) (dw_or1 (dt_cmp (op_eqH (u66 hr) hG (fcons ⟨_, _, _, _, _, T.g_Answers, T.me_Answers___eq__.at_, T.me_Answers___eq__.fn, T.en_Answers, T.es_Answers, T.et_Answers, G_Answers___eq__, (hr.mono (by decide)), T.b_Answers___eq__⟩ (fun q hq => (by cases hq)))) (de_ix (ix_G (u65 hr)) (de_var 4) (de_un un_negI de_int)) (de_var 8)))))) (dss_one (ds_ret de_bl)) dss_nil)))))))))))
      (dss_one (ds_ret (de_andG (de_cmp (op_eqH (u66 hr) hG (fcons ⟨_, _, _, _, _, T.g_Answers, T.me_Answers___eq__.at_, T.me_Answers___eq__.fn, T.en_Answers, T.es_Answers, T.et_Answers, G_Answers___eq__, (hr.mono (by decide)), T.b_Answers___eq__⟩ (fun q hq => (by cases hq)))) (de_make0 (ks := []) T.mk_Answers G_Answers___init__ hG (hr.mono (by decide)) T.g_Answers hk_Answers_0_ arr_Answers_0_ np_Answers_0_ (takes_of rfl rfl rfl rfl) dk_nil) (de_make (ks := []) T.mk_Answers G_Answers___init__ hG (hr.mono (by decide)) T.g_Answers hk_Answers_1_ arr_Answers_1_ np_Answers_1_ (takes_of rfl rfl rfl rfl) (da_consN (de_dict0 .z) da_nil) dk_nil)) (de_one (de_cmp (op_eqH (u66 hr) hG (fcons ⟨_, _, _, _, _, T.g_Answers, T.me_Answers___eq__.at_, T.me_Answers___eq__.fn, T.en_Answers, T.es_Answers, T.et_Answers, G_Answers___eq__, (hr.mono (by decide)), T.b_Answers___eq__⟩ (fun q hq => (by cases hq)))) (de_callO hG (fcons ⟨_, _, _, _, _, T.g_Answers, T.co_Answers, G_Answers___call__, (hr.mono (by decide)), T.b_Answers___call__⟩ (fun q hq => (by cases hq))) (takes_of rfl rfl rfl rfl) (de_make0 (ks := []) T.mk_Answers G_Answers___init__ hG (hr.mono (by decide)) T.g_Answers hk_Answers_0_ arr_Answers_0_ np_Answers_0_ (takes_of rfl rfl rfl rfl) dk_nil) (da_consN (de_tup da_nil) (da_consN de_int da_nil)) (lenA_cons (lenA_cons lenA_nil))) de_int)))))))
end
theorem all_mk {l : PySem.W.OpenLaw} {w : World} {K : PySem.W.Frag} {h : Heap} {mg : Str → Option Value} {fa : Addr} (X : K.In h) (G : h.Ns mainGlobals mg) (hfa : mg "law" = some (.ref fa))
    {f_is_integer : Addr} {od_is_integer an_is_integer : Option Addr} {sl_is_integer : Array (Option Value)} {oc_is_integer kV_is_integer dc_is_integer pm_is_integer cd_is_integer ct_is_integer : Value}
    {f_is_asked : Addr} {od_is_asked an_is_asked : Option Addr} {sl_is_asked : Array (Option Value)} {oc_is_asked kV_is_asked dc_is_asked pm_is_asked cd_is_asked ct_is_asked : Value}
    {f_is_answer_table : Addr} {od_is_answer_table an_is_answer_table : Option Addr} {sl_is_answer_table : Array (Option Value)} {oc_is_answer_table kV_is_answer_table dc_is_answer_table pm_is_answer_table cd_is_answer_table ct_is_answer_table : Value}
    {f_Answers___init__ : Addr} {od_Answers___init__ an_Answers___init__ : Option Addr} {sl_Answers___init__ : Array (Option Value)} {oc_Answers___init__ kV_Answers___init__ dc_Answers___init__ pm_Answers___init__ cd_Answers___init__ ct_Answers___init__ : Value}
    {dT_Answers___init__ : Addr} {dI_Answers___init__ : Array Value} {dN_Answers___init__ : Nat} {dL_Answers___init__ : Array (Option Value)} {dC_Answers___init__ : Value} {dO_Answers___init__ : Option Addr}
    {kD_Answers___init__ : Addr} {ku_Answers___init___rest : Value} {ku_Answers___init___step : Value}
    {f_Answers___call__ : Addr} {od_Answers___call__ an_Answers___call__ : Option Addr} {sl_Answers___call__ : Array (Option Value)} {oc_Answers___call__ kV_Answers___call__ dc_Answers___call__ pm_Answers___call__ cd_Answers___call__ ct_Answers___call__ : Value}
    {f_Answers_always : Addr} {od_Answers_always an_Answers_always : Option Addr} {sl_Answers_always : Array (Option Value)} {oc_Answers_always kV_Answers_always dc_Answers_always pm_Answers_always cd_Answers_always ct_Answers_always : Value}
    {pp_Answers_always : Addr} {pR_Answers_always : List Value}
    {f_Answers_told : Addr} {od_Answers_told an_Answers_told : Option Addr} {sl_Answers_told : Array (Option Value)} {oc_Answers_told kV_Answers_told dc_Answers_told pm_Answers_told cd_Answers_told ct_Answers_told : Value}
    {f_Answers_rest : Addr} {od_Answers_rest an_Answers_rest : Option Addr} {sl_Answers_rest : Array (Option Value)} {oc_Answers_rest kV_Answers_rest dc_Answers_rest pm_Answers_rest cd_Answers_rest ct_Answers_rest : Value}
    {pp_Answers_rest : Addr} {pR_Answers_rest : List Value}
    {f_Answers_step : Addr} {od_Answers_step an_Answers_step : Option Addr} {sl_Answers_step : Array (Option Value)} {oc_Answers_step kV_Answers_step dc_Answers_step pm_Answers_step cd_Answers_step ct_Answers_step : Value}
    {pp_Answers_step : Addr} {pR_Answers_step : List Value}
    {f_Answers_with_answer : Addr} {od_Answers_with_answer an_Answers_with_answer : Option Addr} {sl_Answers_with_answer : Array (Option Value)} {oc_Answers_with_answer kV_Answers_with_answer dc_Answers_with_answer pm_Answers_with_answer cd_Answers_with_answer ct_Answers_with_answer : Value}
    {f_Answers_lasting : Addr} {od_Answers_lasting an_Answers_lasting : Option Addr} {sl_Answers_lasting : Array (Option Value)} {oc_Answers_lasting kV_Answers_lasting dc_Answers_lasting pm_Answers_lasting cd_Answers_lasting ct_Answers_lasting : Value}
    {f_Answers___eq__ : Addr} {od_Answers___eq__ an_Answers___eq__ : Option Addr} {sl_Answers___eq__ : Array (Option Value)} {oc_Answers___eq__ kV_Answers___eq__ dc_Answers___eq__ pm_Answers___eq__ cd_Answers___eq__ ct_Answers___eq__ : Value}
    {f__law_bag : Addr} {od__law_bag an__law_bag : Option Addr} {sl__law_bag : Array (Option Value)} {oc__law_bag kV__law_bag dc__law_bag pm__law_bag cd__law_bag ct__law_bag : Value}
    {f__law_take : Addr} {od__law_take an__law_take : Option Addr} {sl__law_take : Array (Option Value)} {oc__law_take kV__law_take dc__law_take pm__law_take cd__law_take ct__law_take : Value}
    {f__law_alike : Addr} {od__law_alike an__law_alike : Option Addr} {sl__law_alike : Array (Option Value)} {oc__law_alike kV__law_alike dc__law_alike pm__law_alike cd__law_alike ct__law_alike : Value}
    {f__law_asked_of : Addr} {od__law_asked_of an__law_asked_of : Option Addr} {sl__law_asked_of : Array (Option Value)} {oc__law_asked_of kV__law_asked_of dc__law_asked_of pm__law_asked_of cd__law_asked_of ct__law_asked_of : Value}
    {f__law_case : Addr} {od__law_case an__law_case : Option Addr} {sl__law_case : Array (Option Value)} {oc__law_case kV__law_case dc__law_case pm__law_case cd__law_case ct__law_case : Value}
    {f__law_made : Addr} {od__law_made an__law_made : Option Addr} {sl__law_made : Array (Option Value)} {oc__law_made kV__law_made dc__law_made pm__law_made cd__law_made ct__law_made : Value}
    {f__law_value : Addr} {od__law_value an__law_value : Option Addr} {sl__law_value : Array (Option Value)} {oc__law_value kV__law_value dc__law_value pm__law_value cd__law_value ct__law_value : Value}
    {f__law_are_same : Addr} {od__law_are_same an__law_are_same : Option Addr} {sl__law_are_same : Array (Option Value)} {oc__law_are_same kV__law_are_same dc__law_are_same pm__law_are_same cd__law_are_same ct__law_are_same : Value}
    {f__law_right : Addr} {od__law_right an__law_right : Option Addr} {sl__law_right : Array (Option Value)} {oc__law_right kV__law_right dc__law_right pm__law_right cd__law_right ct__law_right : Value}
    {f_law : Addr} {od_law an_law : Option Addr} {sl_law : Array (Option Value)} {oc_law kV_law dc_law pm_law cd_law ct_law : Value}
    {c_PlanError : Addr}
    {c_Wrong : Addr}
    {c_Answers : Addr}
    {nm_Wrong q_Wrong : Str} {N_Wrong : Addr} {bs_Wrong bm_Wrong : List Value} {sn_Wrong : List Str} {sub_Wrong : List Value} {ab_Wrong : Bool} {col_Wrong : Option Bool} {dd_Wrong : Option Addr} {m0_Wrong m1_Wrong m2_Wrong m3_Wrong m5_Wrong : Option Value}
    {xf_Wrong : Addr} {xo_Wrong xa_Wrong : Option Addr} {xs_Wrong : Array (Option Value)} {xv_Wrong xk_Wrong xdc_Wrong xp_Wrong xcd_Wrong xct_Wrong : Value}
    {tk_MOST_ARGUMENTS : Tok}
    (p1_is_integer : PySem.W.nsIn K mainGlobals "is_integer" = some (some (.ref f_is_integer)))
    (p2_is_integer : K.lookup f_is_integer = some ⟨oc_is_integer, od_is_integer, .func (PySem.W.fnOf "is_integer" "is_integer" (defArgs s_is_integer) (defBody s_is_integer) (defScope s_is_integer) .none kV_is_integer dc_is_integer pm_is_integer an_is_integer cd_is_integer ct_is_integer), sl_is_integer⟩)
    (p3_is_integer : PySem.W.codeIn K cd_is_integer "is_integer" = true)
    (p4_is_integer : PySem.W.keepIn K (.ref f_is_integer) = true)
    (p1_is_asked : PySem.W.nsIn K mainGlobals "is_asked" = some (some (.ref f_is_asked)))
    (p2_is_asked : K.lookup f_is_asked = some ⟨oc_is_asked, od_is_asked, .func (PySem.W.fnOf "is_asked" "is_asked" (defArgs s_is_asked) (defBody s_is_asked) (defScope s_is_asked) .none kV_is_asked dc_is_asked pm_is_asked an_is_asked cd_is_asked ct_is_asked), sl_is_asked⟩)
    (p3_is_asked : PySem.W.codeIn K cd_is_asked "is_asked" = true)
    (p4_is_asked : PySem.W.keepIn K (.ref f_is_asked) = true)
    (p1_is_answer_table : PySem.W.nsIn K mainGlobals "is_answer_table" = some (some (.ref f_is_answer_table)))
    (p2_is_answer_table : K.lookup f_is_answer_table = some ⟨oc_is_answer_table, od_is_answer_table, .func (PySem.W.fnOf "is_answer_table" "is_answer_table" (defArgs s_is_answer_table) (defBody s_is_answer_table) (defScope s_is_answer_table) .none kV_is_answer_table dc_is_answer_table pm_is_answer_table an_is_answer_table cd_is_answer_table ct_is_answer_table), sl_is_answer_table⟩)
    (p3_is_answer_table : PySem.W.codeIn K cd_is_answer_table "is_answer_table" = true)
    (p4_is_answer_table : PySem.W.keepIn K (.ref f_is_answer_table) = true)
    (p1_Answers___init__ : PySem.W.findIn K (.ref c_Answers) "__init__" = some (some (.ref f_Answers___init__)))
    (p2_Answers___init__ : K.lookup f_Answers___init__ = some ⟨oc_Answers___init__, od_Answers___init__, .func (PySem.W.fnOf "__init__" "Answers.__init__" (defArgs s_Answers___init__) (defBody s_Answers___init__) (defScope s_Answers___init__) (.ref dT_Answers___init__) (.ref kD_Answers___init__) dc_Answers___init__ pm_Answers___init__ an_Answers___init__ cd_Answers___init__ ct_Answers___init__), sl_Answers___init__⟩)
    (p3_Answers___init__ : PySem.W.codeIn K cd_Answers___init__ "Answers.__init__" = true)
    (p4_Answers___init__ : PySem.W.keepIn K (.ref f_Answers___init__) = true)
    (d1_Answers___init__ : K.lookup dT_Answers___init__ = some ⟨dC_Answers___init__, dO_Answers___init__, .seq dI_Answers___init__ dN_Answers___init__, dL_Answers___init__⟩)
    (d2_Answers___init__ : Vals [V.non] dI_Answers___init__.toList)
    (k1_Answers___init___rest : PySem.W.nsIn K kD_Answers___init__ "rest" = some (some ku_Answers___init___rest))
    (k2_Answers___init___rest : L2.RelV (V.int 0) ku_Answers___init___rest)
    (k1_Answers___init___step : PySem.W.nsIn K kD_Answers___init__ "step" = some (some ku_Answers___init___step))
    (k2_Answers___init___step : L2.RelV (V.int 0) ku_Answers___init___step)
    (p1_Answers___call__ : PySem.W.findIn K (.ref c_Answers) "__call__" = some (some (.ref f_Answers___call__)))
    (mi_Answers___call__ : PySem.W.isFn K (.ref f_Answers___call__) = true)
    (mc_Answers___call__ : PySem.W.fnIn K f_Answers___call__ = true)
    (p2_Answers___call__ : K.lookup f_Answers___call__ = some ⟨oc_Answers___call__, od_Answers___call__, .func (PySem.W.fnOf "__call__" "Answers.__call__" (defArgs s_Answers___call__) (defBody s_Answers___call__) (defScope s_Answers___call__) .none kV_Answers___call__ dc_Answers___call__ pm_Answers___call__ an_Answers___call__ cd_Answers___call__ ct_Answers___call__), sl_Answers___call__⟩)
    (p3_Answers___call__ : PySem.W.codeIn K cd_Answers___call__ "Answers.__call__" = true)
    (p4_Answers___call__ : PySem.W.keepIn K (.ref f_Answers___call__) = true)
    (p1_Answers_always : PySem.W.findCls K (.ref c_Answers) (.type "type") "always" = some (.get (.builtin "staticmethod.__get__") (.ref pp_Answers_always) .none (.ref c_Answers)))
    (r1_Answers_always : PySem.W.recIn K pp_Answers_always "staticmethod" = some (.ref f_Answers_always :: pR_Answers_always))
    (r2_Answers_always : PySem.W.specialIn K (.ref c_Answers) "__getattribute__" = some (some (.builtin "type.__getattribute__")))
    (r3_Answers_always : PySem.W.readsIn K c_Answers (.type "type") = true)
    (p2_Answers_always : K.lookup f_Answers_always = some ⟨oc_Answers_always, od_Answers_always, .func (PySem.W.fnOf "always" "Answers.always" (defArgs s_Answers_always) (defBody s_Answers_always) (defScope s_Answers_always) .none kV_Answers_always dc_Answers_always pm_Answers_always an_Answers_always cd_Answers_always ct_Answers_always), sl_Answers_always⟩)
    (p3_Answers_always : PySem.W.codeIn K cd_Answers_always "Answers.always" = true)
    (p4_Answers_always : PySem.W.keepIn K (.ref f_Answers_always) = true)
    (p1_Answers_told : PySem.W.findIn K (.ref c_Answers) "told" = some (some (.ref f_Answers_told)))
    (mi_Answers_told : PySem.W.isFn K (.ref f_Answers_told) = true)
    (p2_Answers_told : K.lookup f_Answers_told = some ⟨oc_Answers_told, od_Answers_told, .func (PySem.W.fnOf "told" "Answers.told" (defArgs s_Answers_told) (defBody s_Answers_told) (defScope s_Answers_told) .none kV_Answers_told dc_Answers_told pm_Answers_told an_Answers_told cd_Answers_told ct_Answers_told), sl_Answers_told⟩)
    (p3_Answers_told : PySem.W.codeIn K cd_Answers_told "Answers.told" = true)
    (p4_Answers_told : PySem.W.keepIn K (.ref f_Answers_told) = true)
    (p1_Answers_rest : PySem.W.findIn K (.ref c_Answers) "rest" = some (some (.ref pp_Answers_rest)))
    (r1_Answers_rest : PySem.W.recIn K pp_Answers_rest "property" = some (.ref f_Answers_rest :: pR_Answers_rest))
    (r2_Answers_rest : PySem.W.specialIn K (.ref pp_Answers_rest) "__get__" = some (some (.builtin "property.__get__")))
    (r3_Answers_rest : PySem.W.takesIn K (.ref pp_Answers_rest) = some true)
    (p2_Answers_rest : K.lookup f_Answers_rest = some ⟨oc_Answers_rest, od_Answers_rest, .func (PySem.W.fnOf "rest" "Answers.rest" (defArgs s_Answers_rest) (defBody s_Answers_rest) (defScope s_Answers_rest) .none kV_Answers_rest dc_Answers_rest pm_Answers_rest an_Answers_rest cd_Answers_rest ct_Answers_rest), sl_Answers_rest⟩)
    (p3_Answers_rest : PySem.W.codeIn K cd_Answers_rest "Answers.rest" = true)
    (p4_Answers_rest : PySem.W.keepIn K (.ref f_Answers_rest) = true)
    (p1_Answers_step : PySem.W.findIn K (.ref c_Answers) "step" = some (some (.ref pp_Answers_step)))
    (r1_Answers_step : PySem.W.recIn K pp_Answers_step "property" = some (.ref f_Answers_step :: pR_Answers_step))
    (r2_Answers_step : PySem.W.specialIn K (.ref pp_Answers_step) "__get__" = some (some (.builtin "property.__get__")))
    (r3_Answers_step : PySem.W.takesIn K (.ref pp_Answers_step) = some true)
    (p2_Answers_step : K.lookup f_Answers_step = some ⟨oc_Answers_step, od_Answers_step, .func (PySem.W.fnOf "step" "Answers.step" (defArgs s_Answers_step) (defBody s_Answers_step) (defScope s_Answers_step) .none kV_Answers_step dc_Answers_step pm_Answers_step an_Answers_step cd_Answers_step ct_Answers_step), sl_Answers_step⟩)
    (p3_Answers_step : PySem.W.codeIn K cd_Answers_step "Answers.step" = true)
    (p4_Answers_step : PySem.W.keepIn K (.ref f_Answers_step) = true)
    (p1_Answers_with_answer : PySem.W.findIn K (.ref c_Answers) "with_answer" = some (some (.ref f_Answers_with_answer)))
    (mi_Answers_with_answer : PySem.W.isFn K (.ref f_Answers_with_answer) = true)
    (p2_Answers_with_answer : K.lookup f_Answers_with_answer = some ⟨oc_Answers_with_answer, od_Answers_with_answer, .func (PySem.W.fnOf "with_answer" "Answers.with_answer" (defArgs s_Answers_with_answer) (defBody s_Answers_with_answer) (defScope s_Answers_with_answer) .none kV_Answers_with_answer dc_Answers_with_answer pm_Answers_with_answer an_Answers_with_answer cd_Answers_with_answer ct_Answers_with_answer), sl_Answers_with_answer⟩)
    (p3_Answers_with_answer : PySem.W.codeIn K cd_Answers_with_answer "Answers.with_answer" = true)
    (p4_Answers_with_answer : PySem.W.keepIn K (.ref f_Answers_with_answer) = true)
    (p1_Answers_lasting : PySem.W.findIn K (.ref c_Answers) "lasting" = some (some (.ref f_Answers_lasting)))
    (mi_Answers_lasting : PySem.W.isFn K (.ref f_Answers_lasting) = true)
    (p2_Answers_lasting : K.lookup f_Answers_lasting = some ⟨oc_Answers_lasting, od_Answers_lasting, .func (PySem.W.fnOf "lasting" "Answers.lasting" (defArgs s_Answers_lasting) (defBody s_Answers_lasting) (defScope s_Answers_lasting) .none kV_Answers_lasting dc_Answers_lasting pm_Answers_lasting an_Answers_lasting cd_Answers_lasting ct_Answers_lasting), sl_Answers_lasting⟩)
    (p3_Answers_lasting : PySem.W.codeIn K cd_Answers_lasting "Answers.lasting" = true)
    (p4_Answers_lasting : PySem.W.keepIn K (.ref f_Answers_lasting) = true)
    (p1_Answers___eq__ : PySem.W.findIn K (.ref c_Answers) "__eq__" = some (some (.ref f_Answers___eq__)))
    (mi_Answers___eq__ : PySem.W.isFn K (.ref f_Answers___eq__) = true)
    (p2_Answers___eq__ : K.lookup f_Answers___eq__ = some ⟨oc_Answers___eq__, od_Answers___eq__, .func (PySem.W.fnOf "__eq__" "Answers.__eq__" (defArgs s_Answers___eq__) (defBody s_Answers___eq__) (defScope s_Answers___eq__) .none kV_Answers___eq__ dc_Answers___eq__ pm_Answers___eq__ an_Answers___eq__ cd_Answers___eq__ ct_Answers___eq__), sl_Answers___eq__⟩)
    (p3_Answers___eq__ : PySem.W.codeIn K cd_Answers___eq__ "Answers.__eq__" = true)
    (p4_Answers___eq__ : PySem.W.keepIn K (.ref f_Answers___eq__) = true)
    (p1__law_bag : PySem.W.nsIn K mainGlobals "_law_bag" = some (some (.ref f__law_bag)))
    (p2__law_bag : K.lookup f__law_bag = some ⟨oc__law_bag, od__law_bag, .func (PySem.W.fnOf "_law_bag" "_law_bag" (defArgs s__law_bag) (defBody s__law_bag) (defScope s__law_bag) .none kV__law_bag dc__law_bag pm__law_bag an__law_bag cd__law_bag ct__law_bag), sl__law_bag⟩)
    (p3__law_bag : PySem.W.codeIn K cd__law_bag "_law_bag" = true)
    (p4__law_bag : PySem.W.keepIn K (.ref f__law_bag) = true)
    (p1__law_take : PySem.W.nsIn K mainGlobals "_law_take" = some (some (.ref f__law_take)))
    (p2__law_take : K.lookup f__law_take = some ⟨oc__law_take, od__law_take, .func (PySem.W.fnOf "_law_take" "_law_take" (defArgs s__law_take) (defBody s__law_take) (defScope s__law_take) .none kV__law_take dc__law_take pm__law_take an__law_take cd__law_take ct__law_take), sl__law_take⟩)
    (p3__law_take : PySem.W.codeIn K cd__law_take "_law_take" = true)
    (p4__law_take : PySem.W.keepIn K (.ref f__law_take) = true)
    (p1__law_alike : PySem.W.nsIn K mainGlobals "_law_alike" = some (some (.ref f__law_alike)))
    (p2__law_alike : K.lookup f__law_alike = some ⟨oc__law_alike, od__law_alike, .func (PySem.W.fnOf "_law_alike" "_law_alike" (defArgs s__law_alike) (defBody s__law_alike) (defScope s__law_alike) .none kV__law_alike dc__law_alike pm__law_alike an__law_alike cd__law_alike ct__law_alike), sl__law_alike⟩)
    (p3__law_alike : PySem.W.codeIn K cd__law_alike "_law_alike" = true)
    (p4__law_alike : PySem.W.keepIn K (.ref f__law_alike) = true)
    (p1__law_asked_of : PySem.W.nsIn K mainGlobals "_law_asked_of" = some (some (.ref f__law_asked_of)))
    (p2__law_asked_of : K.lookup f__law_asked_of = some ⟨oc__law_asked_of, od__law_asked_of, .func (PySem.W.fnOf "_law_asked_of" "_law_asked_of" (defArgs s__law_asked_of) (defBody s__law_asked_of) (defScope s__law_asked_of) .none kV__law_asked_of dc__law_asked_of pm__law_asked_of an__law_asked_of cd__law_asked_of ct__law_asked_of), sl__law_asked_of⟩)
    (p3__law_asked_of : PySem.W.codeIn K cd__law_asked_of "_law_asked_of" = true)
    (p4__law_asked_of : PySem.W.keepIn K (.ref f__law_asked_of) = true)
    (p1__law_case : PySem.W.nsIn K mainGlobals "_law_case" = some (some (.ref f__law_case)))
    (p2__law_case : K.lookup f__law_case = some ⟨oc__law_case, od__law_case, .func (PySem.W.fnOf "_law_case" "_law_case" (defArgs s__law_case) (defBody s__law_case) (defScope s__law_case) .none kV__law_case dc__law_case pm__law_case an__law_case cd__law_case ct__law_case), sl__law_case⟩)
    (p3__law_case : PySem.W.codeIn K cd__law_case "_law_case" = true)
    (p4__law_case : PySem.W.keepIn K (.ref f__law_case) = true)
    (p1__law_made : PySem.W.nsIn K mainGlobals "_law_made" = some (some (.ref f__law_made)))
    (p2__law_made : K.lookup f__law_made = some ⟨oc__law_made, od__law_made, .func (PySem.W.fnOf "_law_made" "_law_made" (defArgs s__law_made) (defBody s__law_made) (defScope s__law_made) .none kV__law_made dc__law_made pm__law_made an__law_made cd__law_made ct__law_made), sl__law_made⟩)
    (p3__law_made : PySem.W.codeIn K cd__law_made "_law_made" = true)
    (p4__law_made : PySem.W.keepIn K (.ref f__law_made) = true)
    (p1__law_value : PySem.W.nsIn K mainGlobals "_law_value" = some (some (.ref f__law_value)))
    (p2__law_value : K.lookup f__law_value = some ⟨oc__law_value, od__law_value, .func (PySem.W.fnOf "_law_value" "_law_value" (defArgs s__law_value) (defBody s__law_value) (defScope s__law_value) .none kV__law_value dc__law_value pm__law_value an__law_value cd__law_value ct__law_value), sl__law_value⟩)
    (p3__law_value : PySem.W.codeIn K cd__law_value "_law_value" = true)
    (p4__law_value : PySem.W.keepIn K (.ref f__law_value) = true)
    (p1__law_are_same : PySem.W.nsIn K mainGlobals "_law_are_same" = some (some (.ref f__law_are_same)))
    (p2__law_are_same : K.lookup f__law_are_same = some ⟨oc__law_are_same, od__law_are_same, .func (PySem.W.fnOf "_law_are_same" "_law_are_same" (defArgs s__law_are_same) (defBody s__law_are_same) (defScope s__law_are_same) .none kV__law_are_same dc__law_are_same pm__law_are_same an__law_are_same cd__law_are_same ct__law_are_same), sl__law_are_same⟩)
    (p3__law_are_same : PySem.W.codeIn K cd__law_are_same "_law_are_same" = true)
    (p4__law_are_same : PySem.W.keepIn K (.ref f__law_are_same) = true)
    (p1__law_right : PySem.W.nsIn K mainGlobals "_law_right" = some (some (.ref f__law_right)))
    (p2__law_right : K.lookup f__law_right = some ⟨oc__law_right, od__law_right, .func (PySem.W.fnOf "_law_right" "_law_right" (defArgs s__law_right) (defBody s__law_right) (defScope s__law_right) .none kV__law_right dc__law_right pm__law_right an__law_right cd__law_right ct__law_right), sl__law_right⟩)
    (p3__law_right : PySem.W.codeIn K cd__law_right "_law_right" = true)
    (p4__law_right : PySem.W.keepIn K (.ref f__law_right) = true)
    (p1_law : PySem.W.nsIn K mainGlobals "law" = some (some (.ref f_law)))
    (p2_law : K.lookup f_law = some ⟨oc_law, od_law, .func (PySem.W.fnOf "law" "law" (defArgs s_law) (defBody s_law) (defScope s_law) .none kV_law dc_law pm_law an_law cd_law ct_law), sl_law⟩)
    (p3_law : PySem.W.codeIn K cd_law "law" = true)
    (p4_law : PySem.W.keepIn K (.ref f_law) = true)
    (a_PlanError : PySem.W.nsIn K mainGlobals "PlanError" = some (some (.ref c_PlanError)))
    (a_Wrong : PySem.W.nsIn K mainGlobals "Wrong" = some (some (.ref c_Wrong)))
    (a_Answers : PySem.W.nsIn K mainGlobals "Answers" = some (some (.ref c_Answers)))
    (xl_Wrong : K.lookup c_Wrong = some (excClassObj nm_Wrong q_Wrong c_Wrong N_Wrong bs_Wrong bm_Wrong true sn_Wrong sub_Wrong ab_Wrong col_Wrong dd_Wrong m0_Wrong m1_Wrong m2_Wrong m3_Wrong m5_Wrong "ValueError.__new__"))
    (xr_Wrong : PySem.HandSPX.refsVE bm_Wrong = true)
    (xsa_Wrong : PySem.W.findIn K (.ref c_Wrong) "__setattr__" = some (some (.builtin "object.__setattr__")))
    (xex_Wrong : PySem.W.subIn K (.ref c_Wrong) (.type "BaseException") = some true)
    (xty_Wrong : PySem.W.typeIn K (.ref c_Wrong) = some (.type "type"))
    (xkp_Wrong : PySem.W.keepIn K (.ref c_Wrong) = true)
    (xga_Wrong : PySem.W.findIn K (.ref c_Wrong) "__getattribute__" = some (some (.builtin "BaseException.__getattribute__")))
    (xgg_Wrong : PySem.W.findIn K (.ref c_Wrong) "__getattr__" = some none)
    (xhd_Wrong : PySem.W.hasDictIn K c_Wrong = true)
    (xcl_Wrong : PySem.W.findIn K (.ref c_Wrong) "__class__" = some (some (.builtin "object.__class__")))
    (xmr_Wrong : PySem.W.mroIn K c_Wrong (.type "object") = some true)
    (hn_ : PySem.W.specialIn K (.builtin "object.__class__") "__get__" = some (some (.builtin "getset_descriptor.__get__")))
    (ht_ : PySem.W.takesIn K (.builtin "object.__class__") = some true)
    (xi_Wrong : PySem.W.findIn K (.ref c_Wrong) "__init__" = some (some (.ref xf_Wrong)))
    (xt_Wrong : PySem.W.typeIn K (.ref xf_Wrong) = some (.type "function"))
    (xp2_Wrong : K.lookup xf_Wrong = some ⟨xv_Wrong, xo_Wrong, .func (PySem.W.fnOf "__init__" "Wrong.__init__" (defArgs sx_Wrong) (defBody sx_Wrong) (defScope sx_Wrong) .none xk_Wrong xdc_Wrong xp_Wrong xa_Wrong xcd_Wrong xct_Wrong), xs_Wrong⟩)
    (xp3_Wrong : PySem.W.codeIn K xcd_Wrong "Wrong.__init__" = true)
    (xp4_Wrong : PySem.W.keepIn K (.ref xf_Wrong) = true)
    (xn_Wrong_place : PySem.W.findIn K (.ref c_Wrong) "place" = some none)
    (ba_PlanError : PySem.W.specialIn K (.ref c_PlanError) "__getattribute__" = some (some (.builtin "type.__getattribute__")))
    (bb_PlanError : PySem.W.readsIn K c_PlanError (.type "type") = true)
    (bc_PlanError : PySem.W.findCls K (.ref c_PlanError) (.type "type") "__init__" = some (.val (.builtin "ValueError.__init__")))
    (ipg_Answers : PySem.W.plainGet K c_Answers Str.empty = true)
    (ihd_Answers : PySem.W.hasDictIn K c_Answers = true)
    (ipo_Answers : PySem.W.plainOver K c_Answers = true)
    (isa_Answers : PySem.W.findIn K (.ref c_Answers) "__setattr__" = some (some (.builtin "object.__setattr__")))
    (icl_Answers : PySem.W.findIn K (.ref c_Answers) "__class__" = some (some (.builtin "object.__class__")))
    (imr_Answers : PySem.W.mroIn K c_Answers (.type "object") = some true)
    (en_Answers : PySem.W.findIn K (.ref c_Answers) "__ne__" = some (some (.builtin "object.__ne__")))
    (es_Answers : PySem.W.subIn K (.ref c_Answers) (.type "object") = some true)
    (et_Answers_NoneType : PySem.W.subIn K (.type "NoneType") (.ref c_Answers) = some false)
    (et_Answers_bool : PySem.W.subIn K (.type "bool") (.ref c_Answers) = some false)
    (et_Answers_int : PySem.W.subIn K (.type "int") (.ref c_Answers) = some false)
    (et_Answers_str : PySem.W.subIn K (.type "str") (.ref c_Answers) = some false)
    (et_Answers_list : PySem.W.subIn K (.type "list") (.ref c_Answers) = some false)
    (et_Answers_tuple : PySem.W.subIn K (.type "tuple") (.ref c_Answers) = some false)
    (et_Answers_dict : PySem.W.subIn K (.type "dict") (.ref c_Answers) = some false)
    (mm_Answers : PySem.W.makesIn K c_Answers = true)
    (mf_Answers : PySem.W.isFn K (.ref f_Answers___init__) = true)
    (mp_Answers : PySem.W.keepIn K (.ref c_Answers) = true)
    (fi_its_rest_Answers : PySem.W.findIn K (.ref c_Answers) "its_rest" = some none)
    (fi_its_step_Answers : PySem.W.findIn K (.ref c_Answers) "its_step" = some none)
    (fi_its_table_Answers : PySem.W.findIn K (.ref c_Answers) "its_table" = some none)
    (ix_Answers_Wrong : PySem.W.kitOne K (.ref c_Wrong) (.ref c_Answers) = some false)
    (ii_Answers_Answers : PySem.W.kitOne K (.ref c_Answers) (.ref c_Answers) = some true)
    (nt_Answers_NoneType : PySem.W.kitOne K (.type "NoneType") (.ref c_Answers) = some false)
    (nt_Answers_bool : PySem.W.kitOne K (.type "bool") (.ref c_Answers) = some false)
    (nt_Answers_int : PySem.W.kitOne K (.type "int") (.ref c_Answers) = some false)
    (nt_Answers_str : PySem.W.kitOne K (.type "str") (.ref c_Answers) = some false)
    (nt_Answers_list : PySem.W.kitOne K (.type "list") (.ref c_Answers) = some false)
    (nt_Answers_tuple : PySem.W.kitOne K (.type "tuple") (.ref c_Answers) = some false)
    (nt_Answers_dict : PySem.W.kitOne K (.type "dict") (.ref c_Answers) = some false)
    (z_abs : PySem.W.nsIn K mainGlobals "abs" = some none)
    (z_all : PySem.W.nsIn K mainGlobals "all" = some none)
    (z_bool : PySem.W.nsIn K mainGlobals "bool" = some none)
    (z_dict : PySem.W.nsIn K mainGlobals "dict" = some none)
    (z_int : PySem.W.nsIn K mainGlobals "int" = some none)
    (z_isinstance : PySem.W.nsIn K mainGlobals "isinstance" = some none)
    (z_len : PySem.W.nsIn K mainGlobals "len" = some none)
    (z_list : PySem.W.nsIn K mainGlobals "list" = some none)
    (z_range : PySem.W.nsIn K mainGlobals "range" = some none)
    (z_repr : PySem.W.nsIn K mainGlobals "repr" = some none)
    (z_tuple : PySem.W.nsIn K mainGlobals "tuple" = some none)
    (q1_MOST_ARGUMENTS : PySem.W.nsIn K mainGlobals "MOST_ARGUMENTS" = some (some (.int 3 tk_MOST_ARGUMENTS)))
    : ∃ fd : FuncData, (∀ (s : Shared) (v : Value), BindsTo s fd ⟨[v], []⟩ [("_law_script", v)]) ∧ ∀ base : Heap, K.In base → base.Ns mainGlobals mg → FnG l.prog w K mg base 7 fa fd ["_law_script"] (spD ⟨K, w, mg, none⟩ 1 den_law) := by
  have e := hfa.symm.trans (PySem.W.mg_of X G p1_law)
  cases e
  have F_is_integer := fun_mk (st := s_is_integer) p2_is_integer p3_is_integer p4_is_integer
  have b_is_integer := F_is_integer.binds (ps := ["thing"]) fun _ _ _ _ _ _ us hl => match us, hl with | [_], _ => rfl
  have F_is_asked := fun_mk (st := s_is_asked) p2_is_asked p3_is_asked p4_is_asked
  have b_is_asked := F_is_asked.binds (ps := ["thing"]) fun _ _ _ _ _ _ us hl => match us, hl with | [_], _ => rfl
  have F_is_answer_table := fun_mk (st := s_is_answer_table) p2_is_answer_table p3_is_answer_table p4_is_answer_table
  have b_is_answer_table := F_is_answer_table.binds (ps := ["thing"]) fun _ _ _ _ _ _ us hl => match us, hl with | [_], _ => rfl
  have F_Answers___init__ : FunD K "__init__" "Answers.__init__" (defArgs s_Answers___init__) (defBody s_Answers___init__) (defScope s_Answers___init__) [V.non] [("rest", V.int 0), ("step", V.int 0)] f_Answers___init__ _ := ⟨⟨_, _, _, _, _, _, _, _, _, _, rfl, p2_Answers___init__, p3_Answers___init__, .inr ⟨by simp, dT_Answers___init__, _, dI_Answers___init__.toList, dN_Answers___init__, rfl, d1_Answers___init__, by rw [Array.toArray_toList], d2_Answers___init__⟩, .inr ⟨kD_Answers___init__, rfl, fcons ⟨_, k1_Answers___init___rest, k2_Answers___init___rest⟩ (fcons ⟨_, k1_Answers___init___step, k2_Answers___init___step⟩ (fun q hq => (by cases hq)))⟩⟩, p4_Answers___init__⟩
  have F_Answers___call__ := fun_mk (st := s_Answers___call__) p2_Answers___call__ p3_Answers___call__ p4_Answers___call__
  have b_Answers___call__ := F_Answers___call__.binds (ps := ["self", "arguments", "many"]) fun _ _ _ _ _ _ us hl => match us, hl with | [_, _, _], _ => rfl
  have F_Answers_always := fun_mk (st := s_Answers_always) p2_Answers_always p3_Answers_always p4_Answers_always
  have b_Answers_always := F_Answers_always.binds (ps := ["value"]) fun _ _ _ _ _ _ us hl => match us, hl with | [_], _ => rfl
  have F_Answers_told := fun_mk (st := s_Answers_told) p2_Answers_told p3_Answers_told p4_Answers_told
  have b_Answers_told := F_Answers_told.binds (ps := ["self"]) fun _ _ _ _ _ _ us hl => match us, hl with | [_], _ => rfl
  have F_Answers_rest := fun_mk (st := s_Answers_rest) p2_Answers_rest p3_Answers_rest p4_Answers_rest
  have b_Answers_rest := F_Answers_rest.binds (ps := ["self"]) fun _ _ _ _ _ _ us hl => match us, hl with | [_], _ => rfl
  have F_Answers_step := fun_mk (st := s_Answers_step) p2_Answers_step p3_Answers_step p4_Answers_step
  have b_Answers_step := F_Answers_step.binds (ps := ["self"]) fun _ _ _ _ _ _ us hl => match us, hl with | [_], _ => rfl
  have F_Answers_with_answer := fun_mk (st := s_Answers_with_answer) p2_Answers_with_answer p3_Answers_with_answer p4_Answers_with_answer
  have b_Answers_with_answer := F_Answers_with_answer.binds (ps := ["self", "arguments", "many", "answer"]) fun _ _ _ _ _ _ us hl => match us, hl with | [_, _, _, _], _ => rfl
  have F_Answers_lasting := fun_mk (st := s_Answers_lasting) p2_Answers_lasting p3_Answers_lasting p4_Answers_lasting
  have b_Answers_lasting := F_Answers_lasting.binds (ps := ["self"]) fun _ _ _ _ _ _ us hl => match us, hl with | [_], _ => rfl
  have F_Answers___eq__ := fun_mk (st := s_Answers___eq__) p2_Answers___eq__ p3_Answers___eq__ p4_Answers___eq__
  have b_Answers___eq__ := F_Answers___eq__.binds (ps := ["self", "other"]) fun _ _ _ _ _ _ us hl => match us, hl with | [_, _], _ => rfl
  have F__law_bag := fun_mk (st := s__law_bag) p2__law_bag p3__law_bag p4__law_bag
  have b__law_bag := F__law_bag.binds (ps := ["_law_script"]) fun _ _ _ _ _ _ us hl => match us, hl with | [_], _ => rfl
  have F__law_take := fun_mk (st := s__law_take) p2__law_take p3__law_take p4__law_take
  have b__law_take := F__law_take.binds (ps := ["_law_bag_here", "_law_most"]) fun _ _ _ _ _ _ us hl => match us, hl with | [_, _], _ => rfl
  have F__law_alike := fun_mk (st := s__law_alike) p2__law_alike p3__law_alike p4__law_alike
  have b__law_alike := F__law_alike.binds (ps := ["_law_one", "_law_other"]) fun _ _ _ _ _ _ us hl => match us, hl with | [_, _], _ => rfl
  have F__law_asked_of := fun_mk (st := s__law_asked_of) p2__law_asked_of p3__law_asked_of p4__law_asked_of
  have b__law_asked_of := F__law_asked_of.binds (ps := ["_law_bag_here"]) fun _ _ _ _ _ _ us hl => match us, hl with | [_], _ => rfl
  have F__law_case := fun_mk (st := s__law_case) p2__law_case p3__law_case p4__law_case
  have b__law_case := F__law_case.binds (ps := ["_law_bag_here"]) fun _ _ _ _ _ _ us hl => match us, hl with | [_], _ => rfl
  have F__law_made := fun_mk (st := s__law_made) p2__law_made p3__law_made p4__law_made
  have b__law_made := F__law_made.binds (ps := ["_law_bag_here", "_law_case_here"]) fun _ _ _ _ _ _ us hl => match us, hl with | [_, _], _ => rfl
  have F__law_value := fun_mk (st := s__law_value) p2__law_value p3__law_value p4__law_value
  have b__law_value := F__law_value.binds (ps := ["_law_case_here", "_law_one"]) fun _ _ _ _ _ _ us hl => match us, hl with | [_, _], _ => rfl
  have F__law_are_same := fun_mk (st := s__law_are_same) p2__law_are_same p3__law_are_same p4__law_are_same
  have b__law_are_same := F__law_are_same.binds (ps := ["_law_case_here", "_law_other"]) fun _ _ _ _ _ _ us hl => match us, hl with | [_, _], _ => rfl
  have F__law_right := fun_mk (st := s__law_right) p2__law_right p3__law_right p4__law_right
  have b__law_right := F__law_right.binds (ps := ["_law_bag_here", "_law_one", "_law_case_here"]) fun _ _ _ _ _ _ us hl => match us, hl with | [_, _, _], _ => rfl
  have F_law := fun_mk (st := s_law) p2_law p3_law p4_law
  have b_law := F_law.binds (ps := ["_law_script"]) fun _ _ _ _ _ _ us hl => match us, hl with | [_], _ => rfl
  have xc_Wrong : XcT K c_Wrong := ⟨⟨⟨nm_Wrong, q_Wrong, N_Wrong, bs_Wrong, bm_Wrong, sn_Wrong, sub_Wrong, ab_Wrong, col_Wrong, dd_Wrong, m0_Wrong, m1_Wrong, m2_Wrong, m3_Wrong, m5_Wrong, xl_Wrong, xr_Wrong⟩, xsa_Wrong, xex_Wrong, xty_Wrong, xkp_Wrong⟩, ⟨xga_Wrong, xgg_Wrong, xex_Wrong, xhd_Wrong⟩, ⟨xga_Wrong, xgg_Wrong, xex_Wrong, xhd_Wrong, xcl_Wrong, hn_, ht_, xmr_Wrong⟩⟩
  have xF_Wrong := fun_mk (st := sx_Wrong) xp2_Wrong xp3_Wrong xp4_Wrong
  have xb_Wrong := xF_Wrong.binds (ps := ["self", "place"]) fun _ _ _ _ _ _ us hl => match us, hl with | [_, _], _ => rfl
  have ic_Answers : ClT K c_Answers := ⟨⟨ipg_Answers, ihd_Answers, ipo_Answers, isa_Answers⟩, ipg_Answers, icl_Answers, hn_, ht_, imr_Answers⟩
  have kb_Answers_0_ := F_Answers___init__.kbinds (ps := ["self", "told", "rest", "step"]) 1 [] [("rest", V.int 0), ("step", V.int 0)] (fun {α} us its mv ws => ga_Answers_0_ us its mv ws) (by simp) (by simp) (by simp) (fun h1 h2 h3 h4 => rel_Answers_0_ h1 h2 h3 h4) (fun T D doc pm an cdv ct us its mv ws l1 l2 l3 l4 => match us, its, mv, ws, l1, l2, l3, l4 with | [_], [_], [_, _], [], _, _, _, _ => ⟨_, rfl, ⟨_, _, _, _, _, _, rfl, rfl, ⟨_, _, _, _, _, _, rfl, rfl, rfl⟩⟩⟩)
  have kb_Answers_0_rest := F_Answers___init__.kbinds (ps := ["self", "told", "rest", "step"]) 1 ["rest"] [("step", V.int 0)] (fun {α} us its mv ws => ga_Answers_0_rest us its mv ws) (by simp) (by simp) (by simp) (fun h1 h2 h3 h4 => rel_Answers_0_rest h1 h2 h3 h4) (fun T D doc pm an cdv ct us its mv ws l1 l2 l3 l4 => match us, its, mv, ws, l1, l2, l3, l4 with | [_], [_], [_], [_], _, _, _, _ => ⟨_, rfl, ⟨_, _, _, _, _, _, rfl, rfl, rfl⟩⟩)
  have kb_Answers_0_rest_step := F_Answers___init__.kbinds (ps := ["self", "told", "rest", "step"]) 1 ["rest", "step"] [] (fun {α} us its mv ws => ga_Answers_0_rest_step us its mv ws) (by simp) (by simp) (by simp) (fun h1 h2 h3 h4 => rel_Answers_0_rest_step h1 h2 h3 h4) (fun T D doc pm an cdv ct us its mv ws l1 l2 l3 l4 => match us, its, mv, ws, l1, l2, l3, l4 with | [_], [_], [], [_, _], _, _, _, _ => ⟨_, rfl, rfl⟩)
  have kb_Answers_1_ := F_Answers___init__.kbinds (ps := ["self", "told", "rest", "step"]) 2 [] [("rest", V.int 0), ("step", V.int 0)] (fun {α} us its mv ws => ga_Answers_1_ us its mv ws) (by simp) (by simp) (by simp) (fun h1 h2 h3 h4 => rel_Answers_1_ h1 h2 h3 h4) (fun T D doc pm an cdv ct us its mv ws l1 l2 l3 l4 => match us, its, mv, ws, l1, l2, l3, l4 with | [_, _], [_], [_, _], [], _, _, _, _ => ⟨_, rfl, ⟨_, _, _, _, _, _, rfl, rfl, ⟨_, _, _, _, _, _, rfl, rfl, rfl⟩⟩⟩)
  have kb_Answers_1_rest_step := F_Answers___init__.kbinds (ps := ["self", "told", "rest", "step"]) 2 ["rest", "step"] [] (fun {α} us its mv ws => ga_Answers_1_rest_step us its mv ws) (by simp) (by simp) (by simp) (fun h1 h2 h3 h4 => rel_Answers_1_rest_step h1 h2 h3 h4) (fun T D doc pm an cdv ct us its mv ws l1 l2 l3 l4 => match us, its, mv, ws, l1, l2, l3, l4 with | [_, _], [_], [], [_, _], _, _, _, _ => ⟨_, rfl, rfl⟩)
  have kb_Answers_1_step_rest := F_Answers___init__.kbinds (ps := ["self", "told", "rest", "step"]) 2 ["step", "rest"] [] (fun {α} us its mv ws => ga_Answers_1_step_rest us its mv ws) (by simp) (by simp) (by simp) (fun h1 h2 h3 h4 => rel_Answers_1_step_rest h1 h2 h3 h4) (fun T D doc pm an cdv ct us its mv ws l1 l2 l3 l4 => match us, its, mv, ws, l1, l2, l3, l4 with | [_, _], [_], [], [_, _], _, _, _, _ => ⟨_, rfl, rfl⟩)
  have T : Txt K mg ⟨f_is_integer, _, f_is_asked, _, f_is_answer_table, _, f_Answers___init__, _, f_Answers___call__, _, f_Answers_always, _, f_Answers_told, _, f_Answers_rest, _, f_Answers_step, _, f_Answers_with_answer, _, f_Answers_lasting, _, f_Answers___eq__, _, f__law_bag, _, f__law_take, _, f__law_alike, _, f__law_asked_of, _, f__law_case, _, f__law_made, _, f__law_value, _, f__law_are_same, _, f__law_right, _, fa, _, pp_Answers_always, pp_Answers_rest, pp_Answers_step, c_PlanError, c_Wrong, c_Answers, xf_Wrong, _⟩ :=
    { F_Answers___call__ := F_Answers___call__,
      F_Answers___eq__ := F_Answers___eq__,
      F_Answers___init__ := F_Answers___init__,
      F_Answers_always := F_Answers_always,
      F_Answers_lasting := F_Answers_lasting,
      F_Answers_rest := F_Answers_rest,
      F_Answers_step := F_Answers_step,
      F_Answers_told := F_Answers_told,
      F_Answers_with_answer := F_Answers_with_answer,
      F__law_alike := F__law_alike,
      F__law_are_same := F__law_are_same,
      F__law_asked_of := F__law_asked_of,
      F__law_bag := F__law_bag,
      F__law_case := F__law_case,
      F__law_made := F__law_made,
      F__law_right := F__law_right,
      F__law_take := F__law_take,
      F__law_value := F__law_value,
      F_is_answer_table := F_is_answer_table,
      F_is_asked := F_is_asked,
      F_is_integer := F_is_integer,
      F_law := F_law,
      b_Answers___call__ := b_Answers___call__,
      b_Answers___eq__ := b_Answers___eq__,
      b_Answers_always := b_Answers_always,
      b_Answers_lasting := b_Answers_lasting,
      b_Answers_rest := b_Answers_rest,
      b_Answers_step := b_Answers_step,
      b_Answers_told := b_Answers_told,
      b_Answers_with_answer := b_Answers_with_answer,
      b__law_alike := b__law_alike,
      b__law_are_same := b__law_are_same,
      b__law_asked_of := b__law_asked_of,
      b__law_bag := b__law_bag,
      b__law_case := b__law_case,
      b__law_made := b__law_made,
      b__law_right := b__law_right,
      b__law_take := b__law_take,
      b__law_value := b__law_value,
      b_is_answer_table := b_is_answer_table,
      b_is_asked := b_is_asked,
      b_is_integer := b_is_integer,
      b_law := b_law,
      ba_PlanError := ba_PlanError,
      bb_PlanError := bb_PlanError,
      bc_PlanError := bc_PlanError,
      c_MOST_ARGUMENTS := ⟨_, PySem.W.mg_of X G q1_MOST_ARGUMENTS⟩,
      co_Answers := ⟨p1_Answers___call__, mi_Answers___call__, mc_Answers___call__⟩,
      en_Answers := en_Answers,
      es_Answers := es_Answers,
      et_Answers := fcons et_Answers_NoneType (fcons et_Answers_bool (fcons et_Answers_int (fcons et_Answers_str (fcons et_Answers_list (fcons et_Answers_tuple (fcons et_Answers_dict (fun t ht => (by cases ht)))))))),
      fi_its_rest := fcons ⟨_, PySem.W.mg_of X G a_Answers, ic_Answers, fi_its_rest_Answers⟩ (fun C hC => (by cases hC)),
      fi_its_step := fcons ⟨_, PySem.W.mg_of X G a_Answers, ic_Answers, fi_its_step_Answers⟩ (fun C hC => (by cases hC)),
      fi_its_table := fcons ⟨_, PySem.W.mg_of X G a_Answers, ic_Answers, fi_its_table_Answers⟩ (fun C hC => (by cases hC)),
      fx_its_rest := fun C hC => (by cases hC),
      fx_its_step := fun C hC => (by cases hC),
      fx_its_table := fun C hC => (by cases hC),
      g_Answers := PySem.W.mg_of X G a_Answers,
      g_PlanError := PySem.W.mg_of X G a_PlanError,
      g_Wrong := PySem.W.mg_of X G a_Wrong,
      g__law_alike := PySem.W.mg_of X G p1__law_alike,
      g__law_are_same := PySem.W.mg_of X G p1__law_are_same,
      g__law_asked_of := PySem.W.mg_of X G p1__law_asked_of,
      g__law_bag := PySem.W.mg_of X G p1__law_bag,
      g__law_case := PySem.W.mg_of X G p1__law_case,
      g__law_made := PySem.W.mg_of X G p1__law_made,
      g__law_right := PySem.W.mg_of X G p1__law_right,
      g__law_take := PySem.W.mg_of X G p1__law_take,
      g__law_value := PySem.W.mg_of X G p1__law_value,
      g_is_answer_table := PySem.W.mg_of X G p1_is_answer_table,
      g_is_asked := PySem.W.mg_of X G p1_is_asked,
      g_is_integer := PySem.W.mg_of X G p1_is_integer,
      g_law := PySem.W.mg_of X G p1_law,
      ic_Answers := ic_Answers,
      ii_Answers := fcons ⟨_, PySem.W.mg_of X G a_Answers, ic_Answers, ii_Answers_Answers⟩ (fun q hq => (by cases hq)),
      ix_Answers := fcons ⟨_, PySem.W.mg_of X G a_Wrong, xc_Wrong, ix_Answers_Wrong⟩ (fun q hq => (by cases hq)),
      kb_Answers_0_ := (let ⟨_, _, h⟩ := kb_Answers_0_; ⟨_, h⟩),
      kb_Answers_0_rest := (let ⟨_, _, h⟩ := kb_Answers_0_rest; ⟨_, h⟩),
      kb_Answers_0_rest_step := (let ⟨_, _, h⟩ := kb_Answers_0_rest_step; ⟨_, h⟩),
      kb_Answers_1_ := (let ⟨_, _, h⟩ := kb_Answers_1_; ⟨_, h⟩),
      kb_Answers_1_rest_step := (let ⟨_, _, h⟩ := kb_Answers_1_rest_step; ⟨_, h⟩),
      kb_Answers_1_step_rest := (let ⟨_, _, h⟩ := kb_Answers_1_step_rest; ⟨_, h⟩),
      m_abs := PySem.W.mg_none_of X G z_abs,
      m_all := PySem.W.mg_none_of X G z_all,
      m_bool := PySem.W.mg_none_of X G z_bool,
      m_dict := PySem.W.mg_none_of X G z_dict,
      m_int := PySem.W.mg_none_of X G z_int,
      m_isinstance := PySem.W.mg_none_of X G z_isinstance,
      m_len := PySem.W.mg_none_of X G z_len,
      m_list := PySem.W.mg_none_of X G z_list,
      m_range := PySem.W.mg_none_of X G z_range,
      m_repr := PySem.W.mg_none_of X G z_repr,
      m_tuple := PySem.W.mg_none_of X G z_tuple,
      me_Answers___call__ := ⟨p1_Answers___call__, mi_Answers___call__, p4_Answers___call__⟩,
      me_Answers___eq__ := ⟨p1_Answers___eq__, mi_Answers___eq__, p4_Answers___eq__⟩,
      me_Answers_lasting := ⟨p1_Answers_lasting, mi_Answers_lasting, p4_Answers_lasting⟩,
      me_Answers_told := ⟨p1_Answers_told, mi_Answers_told, p4_Answers_told⟩,
      me_Answers_with_answer := ⟨p1_Answers_with_answer, mi_Answers_with_answer, p4_Answers_with_answer⟩,
      mk_Answers := ⟨mm_Answers, p1_Answers___init__, mf_Answers, mp_Answers⟩,
      nt_Answers := fcons nt_Answers_NoneType (fcons nt_Answers_bool (fcons nt_Answers_int (fcons nt_Answers_str (fcons nt_Answers_list (fcons nt_Answers_tuple (fcons nt_Answers_dict (fun t ht => (by cases ht)))))))),
      pr_Answers_rest := ⟨p1_Answers_rest, r2_Answers_rest, r3_Answers_rest, _, r1_Answers_rest⟩,
      pr_Answers_step := ⟨p1_Answers_step, r2_Answers_step, r3_Answers_step, _, r1_Answers_step⟩,
      st_Answers_always := ⟨r2_Answers_always, r3_Answers_always, p1_Answers_always, ⟨_, r1_Answers_always⟩, p4_Answers_always⟩,
      xF_Wrong := xF_Wrong,
      xb_Wrong := xb_Wrong,
      xc_Wrong := xc_Wrong,
      xi_Wrong := xi_Wrong,
      xn_Wrong_place := xn_Wrong_place,
      xt_Wrong := xt_Wrong }
  exact ⟨_, fun s v => .of_eq rfl, fun base _ _ => ok_law T⟩
end K22
namespace K22
open PySem PySem.Spec PyProof.Rows L2 L2.Dn
/-! ### keys and tables -/
abbrev Ky := List Int × Int
abbrev Tab := List (Ky × Int)
def kd (k : Ky) : PyData := .tuple [.tuple (k.1.map .int), .int k.2]
def kn (k : Ky) : NestedKey := .tup [.tup (k.1.map .num), .num k.2]
theorem nks_ints : ∀ xs : List Int, nk.nks (xs.map .int) = some (xs.map .num)
  | [] => by simp [nk.nks]
  | x :: xs => by
    show nk.nks (.int x :: xs.map .int) = _
    unfold nk.nks
    rw [nks_ints xs]
    rfl
theorem nk_kd (k : Ky) : nk (kd k) = some (kn k) := by
  show (nk.nks [.tuple (k.1.map .int), .int k.2]).map NestedKey.tup = _
  have e : nk (.tuple (k.1.map .int)) = some (.tup (k.1.map .num)) := by
    show (nk.nks (k.1.map .int)).map NestedKey.tup = _
    rw [nks_ints]; rfl
  have e2 : nk (.int k.2) = some (.num k.2) := rfl
  simp only [nk.nks, e, e2]
  rfl
theorem map_num_inj : ∀ {a b : List Int}, a.map NestedKey.num = b.map NestedKey.num → a = b
  | [], [], _ => rfl
  | [], _ :: _, h => by cases h
  | _ :: _, [], h => by cases h
  | x :: a, y :: b, h => by
    simp only [List.map_cons, List.cons.injEq, NestedKey.num.injEq] at h
    rw [h.1, map_num_inj h.2]
theorem kn_inj {a b : Ky} (h : kn a = kn b) : a = b := by
  simp only [kn, NestedKey.tup.injEq, List.cons.injEq, NestedKey.num.injEq, and_true] at h
  obtain ⟨h1, h2⟩ := h
  exact Prod.ext (map_num_inj h1) h2
def args1 : List Int := [-1, 0, 1]
def allArgs : List (List Int) := [] :: (args1.map fun a => [a]) ++ (args1.flatMap fun a => args1.map fun b => [a, b]) ++ (args1.flatMap fun a => args1.flatMap fun b => args1.map fun c => [a, b, c])
def manys : List Int := [0, 1, 2, 10 ^ 30]
def allKy : List Ky := allArgs.flatMap fun a => manys.map fun n => (a, n)
def hashes : List Int := (allKy.filterMap fun k => hI (kn k))
theorem hash_some : allKy.all (fun k => (hI (kn k)).isSome) = true := by decide +kernel
theorem hash_nodup : hashes.Nodup := by decide +kernel
theorem hI_inj {a b : Ky} (ha : a ∈ allKy) (hb : b ∈ allKy) (h : hI (kn a) = hI (kn b)) : a = b := by
  have key : ∀ (l : List Ky), (∀ k ∈ l, (hI (kn k)).isSome = true) → (l.filterMap fun k => hI (kn k)).Nodup → ∀ a ∈ l, ∀ b ∈ l, hI (kn a) = hI (kn b) → a = b := by
    intro l
    induction l with
    | nil => intro _ _ a ha; cases ha
    | cons x l ih =>
      intro hs hn a ha b hb e
      obtain ⟨v, ev⟩ := Option.isSome_iff_exists.mp (hs x (List.mem_cons_self ..))
      rw [List.filterMap_cons, ev] at hn
      have h1 := List.nodup_cons.mp hn
      have inl : ∀ y ∈ l, hI (kn y) = some v → False := fun y hy ey => h1.1 (List.mem_filterMap.mpr ⟨y, hy, ey⟩)
      rcases List.mem_cons.mp ha with ra | ha
      · rcases List.mem_cons.mp hb with rb | hb
        · rw [ra, rb]
        · exact (inl b hb (by rw [← e, ra, ev])).elim
      · rcases List.mem_cons.mp hb with rb | hb
        · exact (inl a ha (by rw [e, rb, ev])).elim
        · exact ih (fun k hk => hs k (List.mem_cons_of_mem _ hk)) h1.2 a ha b hb e
  exact key allKy (fun k hk => List.all_eq_true.mp hash_some k hk) hash_nodup a ha b hb h
theorem hIs_of : ∀ {ks : List Ky}, (∀ k ∈ ks, k ∈ allKy) → ks.Nodup → ∃ hs, hIs (ks.map kn) = some hs ∧ hs.Nodup ∧ ∀ h ∈ hs, ∃ k ∈ ks, hI (kn k) = some h
  | [], _, _ => ⟨[], rfl, List.nodup_nil, fun h hh => by cases hh⟩
  | k :: ks, h1, h2 => by
    obtain ⟨hs, k1, k2, k3⟩ := hIs_of (ks := ks) (fun x hx => h1 x (List.mem_cons_of_mem _ hx)) (List.nodup_cons.mp h2).2
    obtain ⟨h, e⟩ := Option.isSome_iff_exists.mp (List.all_eq_true.mp hash_some k (h1 k (List.mem_cons_self ..)))
    refine ⟨h :: hs, by simp only [List.map_cons, hIs, e, k1], List.nodup_cons.mpr ⟨fun hm => ?_, k2⟩, ?_⟩
    · obtain ⟨x, hx, ex⟩ := k3 h hm
      have := hI_inj (h1 k (List.mem_cons_self ..)) (h1 x (List.mem_cons_of_mem _ hx)) (e.trans ex.symm)
      rw [this] at h2
      exact (List.nodup_cons.mp h2).1 hx
    · intro z hz
      rcases List.mem_cons.mp hz with q | hz
      · rw [q]; exact ⟨k, List.mem_cons_self .., e⟩
      · obtain ⟨x, hx, ex⟩ := k3 z hz
        exact ⟨x, List.mem_cons_of_mem _ hx, ex⟩
def pd (t : Tab) : List (PyData × D) := t.map fun q => (kd q.1, .p (.int q.2))
def tk (t : Tab) : List (PyData × PyData) := t.map fun q => (kd q.1, .int q.2)
def td (t : Tab) : PyData := .dict (tk t)
def big (i : Int) : Prop := i.natAbs < 10 ^ 60
structure OkT (n : Nat) (t : Tab) : Prop where
  key : ∀ q ∈ t, q.1 ∈ allKy
  nd : (t.map (·.1)).Nodup
  len : t.length ≤ n
  val : ∀ q ∈ t, big q.2
theorem OkT.le {n k : Nat} {t : Tab} (h : OkT n t) (hn : n ≤ k) : OkT k t := ⟨h.key, h.nd, Nat.le_trans h.len hn, h.val⟩
theorem OkT.nil (n : Nat) : OkT n [] := ⟨(fun q h => by cases h), List.nodup_nil, Nat.zero_le _, (fun q h => by cases h)⟩
def look (t : Tab) (k : Ky) : Option Int := (t.find? fun q => decide (q.1 = k)).map (·.2)
def put (t : Tab) (k : Ky) (v : Int) : Tab := if k ∈ t.map (·.1) then t.map fun q => if q.1 = k then (q.1, v) else q else t ++ [(k, v)]
theorem lkD_pd (k : Ky) : ∀ t : Tab, lkD (pd t) (kn k) = (look t k).map fun v => .p (.int v)
  | [] => rfl
  | q :: t => by
    have ih := lkD_pd k t
    unfold lkD look pd at ih ⊢
    rw [List.map_cons, List.find?_cons, List.find?_cons]
    by_cases h : q.1 = k
    · have e : (decide (nk (kd q.1) = some (kn k))) = true := by rw [h, nk_kd]; simp
      have e2 : (decide (q.1 = k)) = true := by simp [h]
      simp only [e, e2, Option.map_some]
    · have e : (decide (nk (kd q.1) = some (kn k))) = false := by
        rw [nk_kd]
        simp only [Option.some.injEq, decide_eq_false_iff_not]
        exact fun z => h (kn_inj z)
      have e2 : (decide (q.1 = k)) = false := by simp [h]
      simp only [e, e2]
      exact ih
theorem pd_nk (t : Tab) : (pd t).map (fun q => nk q.1) = t.map fun q => some (kn q.1) := by
  simp only [pd, List.map_map]
  exact List.map_congr_left fun q _ => nk_kd q.1
theorem mem_nk {k : Ky} {t : Tab} : some (kn k) ∈ (pd t).map (fun q => nk q.1) ↔ k ∈ t.map (·.1) := by
  rw [pd_nk]
  constructor
  · intro h
    obtain ⟨q, hq, e⟩ := List.mem_map.mp h
    rw [← kn_inj (Option.some.inj e)]
    exact List.mem_map.mpr ⟨q, hq, rfl⟩
  · intro h
    obtain ⟨q, hq, e⟩ := List.mem_map.mp h
    exact List.mem_map.mpr ⟨q, hq, by rw [e]⟩
theorem putD_pd (t : Tab) (k : Ky) (v : Int) : putD (pd t) (kd k) (kn k) (.p (.int v)) = pd (put t k v) := by
  unfold putD put
  by_cases h : k ∈ t.map (·.1)
  · rw [if_pos (mem_nk.mpr h), if_pos h]
    simp only [pd, List.map_map]
    refine List.map_congr_left fun q _ => ?_
    dsimp only [Function.comp_def]
    rw [nk_kd]
    by_cases e : q.1 = k
    · rw [if_pos (by rw [e]), if_pos e]
    · rw [if_neg (fun z => e (kn_inj (Option.some.inj z))), if_neg e]
  · rw [if_neg (fun z => h (mem_nk.mp z)), if_neg h]
    simp [pd]
theorem OkT.put {n : Nat} {t : Tab} {k : Ky} {v : Int} (h : OkT n t) (hk : k ∈ allKy) (hv : big v) : OkT (n + 1) (put t k v) := by
  unfold K22.put
  by_cases hm : k ∈ t.map (·.1)
  · rw [if_pos hm]
    refine ⟨fun q hq => ?_, ?_, ?_, fun q hq => ?_⟩
    · obtain ⟨x, hx, rfl⟩ := List.mem_map.mp hq
      split <;> exact h.key x hx
    · have : (t.map fun q => if q.1 = k then (q.1, v) else q).map (·.1) = t.map (·.1) := by
        rw [List.map_map]
        refine List.map_congr_left fun q _ => ?_
        dsimp only [Function.comp_def]
        split <;> rfl
      rw [this]; exact h.nd
    · rw [List.length_map]; exact Nat.le_succ_of_le h.len
    · obtain ⟨x, hx, rfl⟩ := List.mem_map.mp hq
      split
      · exact hv
      · exact h.val x hx
  · rw [if_neg hm]
    refine ⟨fun q hq => ?_, ?_, ?_, fun q hq => ?_⟩
    · rcases List.mem_append.mp hq with hq | hq
      · exact h.key q hq
      · rw [List.mem_singleton.mp hq]; exact hk
    · rw [List.map_append, List.nodup_append]
      refine ⟨h.nd, by simp, fun a ha b hb => ?_⟩
      have : b = k := by simpa using hb
      rw [this]
      exact fun z => hm (z ▸ ha)
    · rw [List.length_append]; exact Nat.succ_le_succ h.len
    · rcases List.mem_append.mp hq with hq | hq
      · exact h.val q hq
      · rw [List.mem_singleton.mp hq]; exact hv
theorem zip_un : ∀ kv : List (PyData × PyData), (kv.map (·.1)).zip (kv.map (·.2)) = kv
  | [] => rfl
  | q :: kv => by simp only [List.map_cons, List.zip_cons_cons, zip_un kv]
theorem zip_p : ∀ kv : List (PyData × PyData), (kv.map (·.1)).zip ((kv.map (·.2)).map D.p) = kv.map fun q => (q.1, D.p q.2)
  | [] => rfl
  | q :: kv => by simp only [List.map_cons, List.zip_cons_cons, zip_p kv]
theorem pd_tk (t : Tab) : (tk t).map (fun q => (q.1, D.p q.2)) = pd t := by simp [tk, pd, List.map_map, Function.comp_def]
theorem dctZ_td (t : Tab) : dctZ (.p (td t)) = some ((tk t).map (·.1), ((tk t).map (·.2)).map D.p) := rfl
theorem dctOf_td (t : Tab) (m : Store) : dctOf (.p (td t)) m = some (pd t) := by
  unfold dctOf
  rw [dctZ_td]
  simp only [zip_p, pd_tk]
theorem mkDct_pd (t : Tab) : mkDct (pd t) = .p (td t) := by
  have e1 : (pd t).map (·.2) = ((tk t).map (·.2)).map D.p := by simp [pd, tk, List.map_map, Function.comp_def]
  have e2 : (pd t).map (·.1) = (tk t).map (·.1) := by simp [pd, tk, List.map_map, Function.comp_def]
  simp only [mkDct, e1, pures_map, e2, zip_un]
  rfl
theorem keysK_pd (t : Tab) : keysK (pd t) = (t.map (·.1)).map kn := by
  unfold keysK pd
  rw [List.filterMap_map, List.map_map, ← List.filterMap_eq_map]
  congr 1
  funext q
  exact nk_kd q.1
theorem apart_t {n : Nat} {t : Tab} (h : OkT n t) : apartK (keysK (pd t)) = true := by
  obtain ⟨hs, e1, e2, _⟩ := hIs_of (ks := t.map (·.1)) (fun k hk => by obtain ⟨q, hq, rfl⟩ := List.mem_map.mp hk; exact h.key q hq) h.nd
  rw [keysK_pd]
  simp only [apartK, e1, decide_eq_true e2, Bool.or_true]
theorem pd_len (t : Tab) : (pd t).length = t.length := by simp [pd]
theorem pd_small {n : Nat} {t : Tab} (h : OkT n t) (hn : n ≤ 1000) : (pd t).length ≤ sizeLine := by
  rw [pd_len, sizeLine_eq]; have := h.len; omega
theorem nls_p : ∀ ds : List PyData, nls (ds.map D.p) = true
  | [] => by simp [nls]
  | d :: ds => by simp only [List.map_cons, nls, nl, nls_p ds, Bool.and_self]
theorem nxs_p (ds : List PyData) : nxs (ds.map D.p) = true := nxs_of_nls _ (nls_p ds)
theorem pd_vals (t : Tab) : (pd t).map (·.2) = (t.map fun q => PyData.int q.2).map D.p := by simp [pd, List.map_map, Function.comp_def]
theorem dictD_z {n : Nat} {t : Tab} {d : D} {m : Store} (h : OkT n t) (hn : n ≤ 1000) (e : dctOf d m = some (pd t)) : dictD .z [d] m = some (.p (td t), m) := by
  simp only [dictD, e, if_pos (And.intro (apart_t h) (pd_small h hn)), newDO, newD, mkDct_pd]
theorem dictD_g {n : Nat} {t : Tab} {d : D} {G l : List Cell} (h : OkT n t) (hn : n ≤ 1000) (e : dctOf d ⟨G, l⟩ = some (pd t)) : dictD .g [d] ⟨G, l⟩ = some (.cell (.g G.length), ⟨G ++ [.dct (pd t)], l⟩) := by
  have e2 : nls ((pd t).map (·.2)) = true := by rw [pd_vals]; exact nls_p _
  simp only [dictD, e, if_pos (And.intro (apart_t h) (pd_small h hn)), newDO, newD, e2, if_true]
  rfl
theorem dictD_l {n : Nat} {t : Tab} {d : D} {G l : List Cell} (h : OkT n t) (hn : n ≤ 1000) (e : dctOf d ⟨G, l⟩ = some (pd t)) : dictD .l [d] ⟨G, l⟩ = some (.cell (.l l.length), ⟨G, l ++ [.dct (pd t)]⟩) := by
  have e2 : nxs ((pd t).map (·.2)) = true := by rw [pd_vals]; exact nxs_p _
  simp only [dictD, e, if_pos (And.intro (apart_t h) (pd_small h hn)), newDO, newD, e2, if_true]
  rfl
theorem keyK_kd (k : Ky) (hk : k ∈ allKy) : keyK (.p (kd k)) = some (kn k) := by
  have hd : (kn k).depth ≤ 8 := by
    have : allKy.all (fun k => decide ((kn k).depth ≤ 8)) = true := by decide +kernel
    simpa using List.all_eq_true.mp this k hk
  simp only [keyK, nk_kd, if_pos hd]
def val (t : Tab) (r s : Int) (k : Ky) : Int := (look t k).getD (r + s * k.2)
end K22
namespace K22
open PySem PySem.Spec PyProof.Rows L2 L2.Dn
/-! ### what the program does with keys and tables -/
theorem call_p {den : Den} {p : PyData} {d : D} {g g' l : List Cell} (h : den [.p p] g = .ok d g') : callR den [.p p] ⟨g, l⟩ = .ok d ⟨g', l⟩ := by
  unfold callR
  rw [show nls [.p p] = true from rfl]
  simp only [if_true, h, RG.res]
theorem tru_b {b : Bool} {m : Store} : truG (.p (.bool b)) m = some b := by cases b <;> rfl
theorem int_ok (i : Int) (g : List Cell) : den_is_integer [.p (.int i)] g = .ok (.p (.bool true)) g := rfl
theorem ky_args {k : Ky} (h : k ∈ allKy) : (k.1 = [] ∨ (∃ a, k.1 = [a]) ∨ (∃ a b, k.1 = [a, b]) ∨ ∃ a b c, k.1 = [a, b, c]) ∧ 0 ≤ k.2 := by
  have : allKy.all (fun k => decide (k.1.length ≤ 3) && decide (0 ≤ k.2)) = true := by decide +kernel
  have := List.all_eq_true.mp this k h
  simp only [Bool.and_eq_true, decide_eq_true_eq] at this
  obtain ⟨h1, h2⟩ := this
  refine ⟨?_, h2⟩
  match e : k.1, h1 with
  | [], _ => exact .inl rfl
  | [a], _ => exact .inr (.inl ⟨a, rfl⟩)
  | [a, b], _ => exact .inr (.inr (.inl ⟨a, b, rfl⟩))
  | [a, b, c], _ => exact .inr (.inr (.inr ⟨a, b, c, rfl⟩))
theorem asked_any (as : List Int) (n : Int) (h : as = [] ∨ (∃ a, as = [a]) ∨ (∃ a b, as = [a, b]) ∨ ∃ a b c, as = [a, b, c]) (g : List Cell) : den_is_asked [.p (kd (as, n))] g = .ok (.p (.bool (decide (0 ≤ n)))) g := by
  rcases h with rfl | ⟨a, rfl⟩ | ⟨a, b, rfl⟩ | ⟨a, b, c, rfl⟩ <;> with_unfolding_all rfl
theorem asked_ok {k : Ky} (h : k ∈ allKy) (g : List Cell) : den_is_asked [.p (kd k)] g = .ok (.p (.bool true)) g := by
  obtain ⟨h1, h2⟩ := ky_args h
  rw [show kd k = kd (k.1, k.2) from rfl, asked_any _ _ h1, decide_eq_true h2]
theorem prs_tk : ∀ t : Tab, prs ((pd t).map (·.1)) ((pd t).map (·.2)) = t.map fun q => .p (.tuple [kd q.1, .int q.2])
  | [] => rfl
  | q :: t => by
    have := prs_tk t
    unfold prs pd at this ⊢
    simp only [List.map_cons, List.zip_cons_cons, this]
    rfl
theorem bools_p : ∀ n : Nat, bools ((List.replicate n (PyData.bool true)).map D.p) = some (List.replicate n true)
  | 0 => rfl
  | n + 1 => by simp only [List.replicate_succ, List.map_cons, bools, bools_p n, Option.map_some]
theorem allD_t (n : Nat) (m : Store) : allD [.p (.list (List.replicate n (.bool true)))] m = some (.p (.bool true), m) := by
  have : (List.replicate n true).all id = true := by simp
  simp only [allD, lstOf, bools_p, Option.map_some, this]
theorem item_ok {x : Option D} {k : Ky} {b : Int} (h : k ∈ allKy) {g l : List Cell} : (andG (callE den_is_asked (consA (vE 1) nilA)) (callE den_is_integer (consA (vE 2) nilA))) [x, some (.p (kd k)), some (.p (.int b))] ⟨g, l⟩ = .ok (.p (.bool true)) ⟨g, l⟩ := by
  simp only [andG, callE, consA, nilA, vE_0, vE_s, bind_ok, call_p (asked_ok h g), tru_b, call_p (int_ok b g)]
theorem set_back {G : List Cell} {i : Nat} {x : Cell} (h : G[i]? = some x) : (G.set i .gone).set i x = G := by
  rw [List.set_set]
  obtain ⟨hl, e⟩ := List.getElem?_eq_some_iff.mp h
  rw [← e, List.set_getElem_self]
theorem gone_at {G : List Cell} {i : Nat} {x : Cell} (h : G[i]? = some x) : (G.set i .gone)[i]? = some .gone := by
  rw [List.getElem?_set_self (List.getElem?_eq_some_iff.mp h).1]
theorem comp_ok {n : Nat} {t : Tab} (h : OkT n t) (hn : n ≤ 1000) (x : Option D) (m : Store) : lcE .z [1, 2] (fun _ m => .ok (t.map fun q => .p (.tuple [kd q.1, .int q.2])) m) (manyG [1, 2]) yesT (andG (callE den_is_asked (consA (vE 1) nilA)) (callE den_is_integer (consA (vE 2) nilA))) [x, none, none] m = .ok (.p (.list (List.replicate t.length (.bool true)))) m := by
  have hs : (t.map fun q => D.p (.tuple [kd q.1, .int q.2])).length ≤ sizeLine := by
    rw [sizeLine_eq, List.length_map]
    have := h.len
    omega
  have := lcM_map (g := manyG [1, 2]) (t := yesT) (fe := andG (callE den_is_asked (consA (vE 1) nilA)) (callE den_is_integer (consA (vE 2) nilA))) (ρ := [x, none, none]) (m := m) (ds := t.map fun q => .p (.tuple [kd q.1, .int q.2])) (f := fun _ => .p (.bool true)) fun d hd => by
    obtain ⟨q, hq, rfl⟩ := List.mem_map.mp hd
    exact ⟨[x, some (.p (kd q.1)), some (.p (.int q.2))], rfl, rfl, item_ok (h.key q hq)⟩
  simp only [lcE, bind_ok, if_pos hs, wipeR, List.set_cons_zero, List.set_cons_succ, this, newL]
  have e2 : (t.map fun q => D.p (.tuple [kd q.1, .int q.2])).map (fun _ => D.p (.bool true)) = (List.replicate t.length (PyData.bool true)).map D.p := by
    rw [List.map_map, List.map_replicate]
    exact List.map_const (l := t) (b := D.p (.bool true))
  rw [e2, mkLst_p]
theorem table_cell {n : Nat} {t : Tab} {i : Nat} {G : List Cell} (h : OkT n t) (hn : n ≤ 1000) (e : G[i]? = some (.dct (pd t))) : den_is_answer_table [.cell (.g i)] G = .ok (.p (.bool true)) G := by
  change fin (body_is_answer_table [some (.cell (.g i)), none, none] ⟨G, []⟩) = _
  have hh : heldO .items 0 [some (.cell (.g i)), none, none] ⟨G, []⟩ = some (.g i, .dct (pd t), t.map fun q => .p (.tuple [kd q.1, .int q.2])) := by
    simp only [heldO, List.getElem?_cons_zero, gat, e, heldL, Option.map_some, prs_tk]
  have c1 : lcH .items 0 .z [1, 2] (itmsI (vE 0)) (manyG [1, 2]) yesT (andG (callE den_is_asked (consA (vE 1) nilA)) (callE den_is_integer (consA (vE 2) nilA))) [some (.cell (.g i)), none, none] ⟨G, []⟩ = .ok (.p (.list (List.replicate t.length (.bool true)))) ⟨G, []⟩ := by
    simp only [lcH, hh, comp_ok h hn, gset, undoR, gat, gone_at e, set_back e]
  have i1 : calE isiD (consA (vE 0) (consA (tyE "dict") nilA)) [some (.cell (.g i)), none, none] ⟨G, []⟩ = .ok (.p (.bool true)) ⟨G, []⟩ := by
    have : tyN (.cell (.g i)) ⟨G, []⟩ = some "dict" := by simp only [tyN, gat, e]
    simp only [calE, consA, nilA, vE_0, bind_ok, tyE, isiD, this]
    rfl
  simp only [body_is_answer_table, retS, andG, i1, bind_ok, tru_b]
  simp only [calE, consA, nilA, c1, bind_ok, allD_t, lift_some, bindS_ok, fin_rt]
theorem table_none (G : List Cell) : den_is_answer_table [.p (.dict [])] G = .ok (.p (.bool true)) G := by with_unfolding_all rfl
/-! ### the constructor -/
section
variable {G l : List Cell} {x y : Cell}
theorem at_last : (⟨G ++ [x], l⟩ : Store).at_ (.g G.length) = some x := by rw [gat]; simp
theorem set_last : (⟨G ++ [x], l⟩ : Store).set y (.g G.length) = ⟨G ++ [y], l⟩ := by rw [gset]; simp
end
theorem setFD_last {G : List Cell} {f : Str} {d : PyData} {fs : List (Str × D)} (hl : fs.length < 1000) : setFD ["Answers"] f (.cell (.g G.length)) (.p d) ⟨G ++ [.ins "Answers" fs], []⟩ = some ⟨G ++ [.ins "Answers" (putFD f (.p d) fs)], []⟩ := by
  simp only [setFD, at_last, List.mem_singleton, true_and, okIn_p, and_true, hl, if_true, set_last]
theorem putFD_len (f : Str) (d : D) : ∀ fs : List (Str × D), (putFD f d fs).length ≤ fs.length + 1
  | [] => Nat.le_refl _
  | q :: fs => by
    unfold putFD
    split
    · simp
    · have := putFD_len f d fs
      simp only [List.length_cons]
      omega
def AO (t : Tab) (r s : Int) : D := .obj "Answers" ["its_table", "its_rest", "its_step"] [.p (td t), .p (.int r), .p (.int s)]
/-- what may be handed in -/
structure Told (G : List Cell) (d : D) (t : Tab) : Prop where
  nl : nl d = true
  no : isNo d = false → ∀ x, den_is_answer_table [d] (G ++ [x]) = .ok (.p (.bool true)) (G ++ [x])
  tab : ∀ x r s : Option D, ∀ y, orG (vE 1) (dct0E .z) [x, some d, r, s] ⟨G ++ [y], []⟩ = .ok (if t = [] then .p (td []) else d) ⟨G ++ [y], []⟩
  of_ : ∀ y, t ≠ [] → dctOf d ⟨G ++ [y], []⟩ = some (pd t)
theorem init_ok {n : Nat} {t : Tab} {d : D} {r s : Int} {G : List Cell} (h : OkT n t) (hn : n ≤ 1000) (T : Told G d t) :
    den_Answers___init__ [.cell (.g G.length), d, .p (.int r), .p (.int s)] (G ++ [.ins "Answers" []]) = .ok (.p .none) (G ++ [.ins "Answers" [("its_table", .p (td t)), ("its_rest", .p (.int r)), ("its_step", .p (.int s))]]) := by
  have t1 : andT (testE (opE (isG true) (vE 1) (cE .none))) (notT (tvE (callE den_is_answer_table (consA (vE 1) nilA)))) [some (.cell (.g G.length)), some d, some (.p (.int r)), some (.p (.int s))] ⟨G ++ [.ins "Answers" []], []⟩ = .ok false ⟨G ++ [.ins "Answers" []], []⟩ := by
    have e0 : isG true d (.p .none) ⟨G ++ [.ins "Answers" []], []⟩ = some (.p (.bool (!isNo d)), ⟨G ++ [.ins "Answers" []], []⟩) := rfl
    cases q : isNo d with
    | true =>
      simp only [andT, testE, opE_eq, vE_0, vE_s, cE, bind_ok, e0, q, lift_some, testR_ok, Bool.not_true, Bool.false_eq_true, if_false]
    | false =>
      have e1 : callR den_is_answer_table [d] ⟨G ++ [.ins "Answers" []], []⟩ = .ok (.p (.bool true)) ⟨G ++ [.ins "Answers" []], []⟩ := by
        unfold callR
        rw [show nls [d] = true by simp only [nls, T.nl, Bool.and_self], if_pos rfl, T.no q]
        rfl
      simp only [andT, testE, opE_eq, vE_0, vE_s, cE, bind_ok, e0, q, lift_some, testR_ok, Bool.not_false, if_true, notT, tvE, callE, consA, nilA, e1, tru_b, Bool.not_true]
  have t2 : notT (tvE (callE den_is_integer (consA (vE 2) nilA))) [some (.cell (.g G.length)), some d, some (.p (.int r)), some (.p (.int s))] ⟨G ++ [.ins "Answers" []], []⟩ = .ok false ⟨G ++ [.ins "Answers" []], []⟩ := by
    simp only [notT, tvE, callE, consA, nilA, vE_0, vE_s, bind_ok, call_p (int_ok r _), tru_b, Bool.not_true]
  have t3 : notT (tvE (callE den_is_integer (consA (vE 3) nilA))) [some (.cell (.g G.length)), some d, some (.p (.int r)), some (.p (.int s))] ⟨G ++ [.ins "Answers" []], []⟩ = .ok false ⟨G ++ [.ins "Answers" []], []⟩ := by
    simp only [notT, tvE, callE, consA, nilA, vE_0, vE_s, bind_ok, call_p (int_ok s _), tru_b, Bool.not_true]
  have t4 : calE (dictD .z) (consA (orG (vE 1) (dct0E .z)) nilA) [some (.cell (.g G.length)), some d, some (.p (.int r)), some (.p (.int s))] ⟨G ++ [.ins "Answers" []], []⟩ = .ok (.p (td t)) ⟨G ++ [.ins "Answers" []], []⟩ := by
    simp only [calE, consA, nilA, T.tab, bind_ok]
    by_cases ht : t = []
    · subst ht
      rw [if_pos rfl, dictD_z (OkT.nil 0) (by decide) (dctOf_td [] _)]
      rfl
    · rw [if_neg ht, dictD_z h hn (T.of_ _ ht)]
      rfl
  rw [eq_Answers___init__]
  unfold body_Answers___init__
  simp only [seqS, ifS, t1, t2, t3, bindS_ok, Bool.false_eq_true, if_false, nilS, seq_nx, setFS, t4, vE_0, vE_s]
  rw [setFD_last (by decide)]
  simp only [seq_nx, seqS, setFS, vE_0, vE_s, bindS_ok]
  rw [setFD_last (Nat.lt_of_le_of_lt (putFD_len _ _ _) (by decide))]
  simp only [seq_nx, setFS, vE_0, vE_s, bindS_ok]
  rw [setFD_last (Nat.lt_of_le_of_lt (putFD_len _ _ _) (Nat.lt_of_le_of_lt (Nat.succ_le_succ (putFD_len _ _ _)) (by decide)))]
  rfl
theorem make_ok {n : Nat} {t : Tab} {d : D} {r s : Int} {G l : List Cell} (h : OkT n t) (hn : n ≤ 1000) (T : Told G d t) :
    makeR "Answers" den_Answers___init__ (fun a => [a, d, .p (.int r), .p (.int s)]) ⟨G, l⟩ = .ok (AO t r s) ⟨G ++ [.gone], l⟩ := by
  unfold makeR
  rw [if_pos (by simp only [nls, nl, T.nl, Bool.and_self])]
  dsimp only
  rw [init_ok h hn T]
  simp only [frzR, at_last, frzC, set_last]
  rfl
theorem told_none (G : List Cell) : Told G (.p .none) [] := ⟨rfl, (fun z => by cases z), (fun _ _ _ _ => rfl), (fun _ z => absurd rfl z)⟩
theorem told_nil (G : List Cell) : Told G (.p (.dict [])) [] := ⟨rfl, (fun _ x => table_none _), (fun _ _ _ _ => rfl), (fun _ z => absurd rfl z)⟩
theorem told_cell {n i : Nat} {t : Tab} {G : List Cell} (h : OkT n t) (hn : n ≤ 1000) (e : G[i]? = some (.dct (pd t))) : Told G (.cell (.g i)) t := by
  have e1 : ∀ x, (G ++ [x])[i]? = some (.dct (pd t)) := fun x => by rw [List.getElem?_append_left (List.getElem?_eq_some_iff.mp e).1]; exact e
  have e2 : ∀ x, dctOf (.cell (.g i)) ⟨G ++ [x], []⟩ = some (pd t) := fun x => by simp only [dctOf, dctZ, gat, e1]
  refine ⟨rfl, fun _ x => table_cell h hn (e1 x), fun x r s y => ?_, fun y _ => e2 y⟩
  have e3 : truG (.cell (.g i)) ⟨G ++ [y], []⟩ = some (!(pd t).isEmpty) := by
    have : truD (.cell (.g i)) ⟨G ++ [y], []⟩ = none := by simp only [truD, lstOf, gat, e1]
    simp only [truG, this, e2, if_pos (pd_small h hn)]
  cases t with
  | nil =>
    have e4 : truG (.cell (.g i)) ⟨G ++ [y], []⟩ = some false := e3
    simp only [orG, vE_0, vE_s, bind_ok, e4]
    rfl
  | cons q t =>
    have e4 : truG (.cell (.g i)) ⟨G ++ [y], []⟩ = some true := e3
    simp only [orG, vE_0, vE_s, bind_ok, e4]
    rw [if_neg (by intro z; cases z)]
end K22
namespace K22
open PySem PySem.Spec PyProof.Rows L2 L2.Dn
/-! ### the methods -/
def okR (r : Int) : Prop := r.natAbs ≤ 2 * 10 ^ 39
def okS (s : Int) : Prop := s.natAbs ≤ 2 * 10 ^ 9
theorem small_s {s : Int} (h : okS s) : small s = true := by
  unfold okS at h
  have h1 : -(2 ^ 64) < s := by omega
  have h2 : s < 2 ^ 64 := by omega
  simp only [small, decide_eq_true h1, decide_eq_true h2, Bool.and_self]
theorem many_le {k : Ky} (h : k ∈ allKy) : k.2 ∈ manys := by
  have : allKy.all (fun k => decide (k.2 ∈ manys)) = true := by decide +kernel
  simpa using List.all_eq_true.mp this k h
theorem dflt_big {r s : Int} {k : Ky} (hr : okR r) (hs : okS s) (hk : k ∈ allKy) : big (r + s * k.2) := by
  have hm := many_le hk
  unfold okR okS big at *
  simp only [manys, List.mem_cons, List.not_mem_nil, or_false] at hm
  rcases hm with e | e | e | e <;> rw [e] <;> omega
theorem look_big {n : Nat} {t : Tab} {k : Ky} {v : Int} (h : OkT n t) (e : look t k = some v) : big v := by
  unfold look at e
  obtain ⟨q, q1, rfl⟩ := Option.map_eq_some_iff.mp e
  exact h.val q (List.mem_of_find?_eq_some q1)
theorem val_big {n : Nat} {t : Tab} {r s : Int} {k : Ky} (h : OkT n t) (hr : okR r) (hs : okS s) (hk : k ∈ allKy) : big (val t r s k) := by
  unfold val
  cases e : look t k with
  | none => exact dflt_big hr hs hk
  | some v => exact look_big h e
section
variable {t : Tab} {r s : Int} {m : Store} {ρ : Rho} {k : Ky}
theorem fld_t : fldD [] ["Answers"] "its_table" (AO t r s) m = some (.p (td t), m) := by with_unfolding_all rfl
theorem fld_r : fldD [] ["Answers"] "its_rest" (AO t r s) m = some (.p (.int r), m) := by with_unfolding_all rfl
theorem fld_s : fldD [] ["Answers"] "its_step" (AO t r s) m = some (.p (.int s), m) := by with_unfolding_all rfl
theorem tupleD_tup (ds : List PyData) : tupleD [.p (.tuple ds)] m = some (.p (.tuple ds), m) := rfl
theorem tupleD_list (ds : List PyData) : tupleD [.p (.list ds)] m = some (.p (.tuple ds), m) := by
  show some (mkTup (ds.map D.p), m) = _
  rw [mkTup_p]
theorem in_td (hk : k ∈ allKy) : inG (.p (kd k)) (.p (td t)) m = some (.p (.bool (look t k).isSome), m) := by
  have e1 : inD (.p (kd k)) (.p (td t)) m = none := rfl
  simp only [inG, altO, e1, inDc, keyK_kd k hk, dctOf_td, lkD_pd, Bool.false_eq_true, if_false, Option.isSome_map]
theorem ix_td {v : Int} (hk : k ∈ allKy) (e : look t k = some v) : ixG (.p (td t)) (.p (kd k)) m = some (.p (.int v), m) := by
  have e1 : ixD (.p (td t)) (.p (kd k)) m = none := rfl
  simp only [ixG, altO, e1, ixDc, keyK_kd k hk, dctOf_td, lkD_pd, e, Option.map_some]
end
/-- arguments as a tuple or as a list -/
def ArgD (d : D) (as : List Int) : Prop := d = .p (.tuple (as.map .int)) ∨ d = .p (.list (as.map .int))
theorem arg_tup {d : D} {as : List Int} {m : Store} (h : ArgD d as) : tupleD [d] m = some (.p (.tuple (as.map .int)), m) := by
  rcases h with rfl | rfl
  · exact tupleD_tup _
  · exact tupleD_list _
theorem key_tup {ρ : Rho} {m : Store} {d : D} {k : Ky} {f1 f2 : FE} (h : ArgD d k.1) (h1 : f1 ρ m = .ok d m) (h2 : f2 ρ m = .ok (.p (.int k.2)) m) : tupE (consA (calE tupleD (consA f1 nilA)) (consA f2 nilA)) ρ m = .ok (.p (kd k)) m := by
  have e : (consA (calE tupleD (consA f1 nilA)) (consA f2 nilA)) ρ m = .ok ([PyData.tuple (k.1.map .int), .int k.2].map D.p) m := by
    simp only [consA, nilA, calE, h1, h2, bind_ok, arg_tup h, lift_some]
    rfl
  have l : ([PyData.tuple (k.1.map .int), .int k.2].map D.p).length ≤ sizeLine := by rw [sizeLine_eq]; simp
  simp only [tupE, e, bind_ok, if_pos l, mkTup_p]
  rfl
theorem call_ok {t : Tab} {r s : Int} {d : D} {k : Ky} {G : List Cell} (hk : k ∈ allKy) (hs : okS s) (h : ArgD d k.1) : den_Answers___call__ [AO t r s, d, .p (.int k.2)] G = .ok (.p (.int (val t r s k))) G := by
  rw [eq_Answers___call__]
  have e1 := key_tup (ρ := [some (AO t r s), some d, some (.p (.int k.2)), none]) (m := ⟨G, []⟩) (f1 := vE 1) (f2 := vE 2) h rfl rfl
  unfold body_Answers___call__
  simp only [seqS, setS, e1, bindS_ok, seq_nx, List.set_cons_zero, List.set_cons_succ, ifS, testE, opE_eq, fldE, vE_0, vE_s, bind_ok, fld_t, fld_r, fld_s, lift_some, in_td hk, testR_ok]
  unfold val
  cases e : look t k with
  | none =>
    simp only [Option.isSome_none, Bool.false_eq_true, if_false, nilS, seq_nx, retS, opE_eq, fldE, vE_0, vE_s, bind_ok, fld_r, fld_s, lift_some, mul_l (small_s hs), addD_int, bindS_ok, fin_rt, Option.getD_none]
  | some v =>
    simp only [Option.isSome_some, if_true, retS, opE_eq, fldE, vE_0, vE_s, bind_ok, fld_t, lift_some, ix_td hk e, bindS_ok, seq_rt, fin_rt, Option.getD_some]
theorem told_ok {n : Nat} {t : Tab} {r s : Int} {G : List Cell} (h : OkT n t) (hn : n ≤ 1000) : den_Answers_told [AO t r s] G = .ok (.cell (.g G.length)) (G ++ [.dct (pd t)]) := by
  rw [eq_Answers_told]
  unfold body_Answers_told
  simp only [retS, calE, consA, nilA, fldE, vE_0, bind_ok, fld_t, lift_some, dictD_g h hn (dctOf_td t _), bindS_ok]
  rfl
theorem rest_ok {t : Tab} {r s : Int} {G : List Cell} : den_Answers_rest [AO t r s] G = .ok (.p (.int r)) G := by
  rw [eq_Answers_rest]
  unfold body_Answers_rest
  simp only [retS, fldE, vE_0, bind_ok, fld_r, lift_some, bindS_ok, fin_rt]
theorem step_ok {t : Tab} {r s : Int} {G : List Cell} : den_Answers_step [AO t r s] G = .ok (.p (.int s)) G := by
  rw [eq_Answers_step]
  unfold body_Answers_step
  simp only [retS, fldE, vE_0, bind_ok, fld_s, lift_some, bindS_ok, fin_rt]
theorem set_dct {n : Nat} {t : Tab} {k : Ky} {v : Int} {i : Ix} {m : Store} (h : OkT n t) (hn : n ≤ 1000) (hk : k ∈ allKy) (e : m.at_ i = some (.dct (pd t))) : setG (.cell i) (.p (kd k)) (.p (.int v)) m = some (m.set (.dct (pd (put t k v))) i) := by
  have e1 : setItemD (.cell i) (.p (kd k)) (.p (.int v)) m = none := by
    unfold setItemD
    split
    · rename_i x j q1 q2
      cases q1
      rw [e]
    · rfl
  have e3 : (pd t).length < sizeLine := by
    rw [sizeLine_eq, pd_len]
    have := h.len
    omega
  simp only [setG, e1, setItemDc, e, keyK_kd k hk, if_pos (And.intro e3 okIn_p), putD_pd]
theorem with_ok {n : Nat} {t : Tab} {r s v : Int} {k : Ky} {d : D} {G : List Cell} (h : OkT n t) (hn : n < 1000) (hk : k ∈ allKy) (hv : big v) (hd : ArgD d k.1) :
    ∃ J, den_Answers_with_answer [AO t r s, d, .p (.int k.2), .p (.int v)] G = .ok (AO (put t k v) r s) (G ++ J) := by
  rw [eq_Answers_with_answer]
  have e1 := key_tup (ρ := [some (AO t r s), some d, some (.p (.int k.2)), some (.p (.int v)), some (.cell (.g G.length))]) (m := ⟨G ++ [.dct (pd t)], []⟩) (f1 := vE 1) (f2 := vE 2) hd rfl rfl
  have e2 := set_dct (i := .g G.length) (m := ⟨G ++ [.dct (pd t)], []⟩) (v := v) h (by omega) hk at_last
  rw [set_last] at e2
  have mk := make_ok (G := G ++ [.dct (pd (put t k v))]) (l := []) (r := r) (s := s) (h.put hk hv) (by omega) (told_cell (i := G.length) (G := G ++ [.dct (pd (put t k v))]) (h.put hk hv) (by omega) (by simp))
  refine ⟨[.dct (pd (put t k v)), .gone], ?_⟩
  have ar : ∀ a : D, gd_Answers_1_rest_step (a :: [.cell (.g G.length)]) [.p (.int r), .p (.int s)] = [a, .cell (.g G.length), .p (.int r), .p (.int s)] := fun _ => rfl
  unfold body_Answers_with_answer
  simp only [seqS, setS, calE, consA, nilA, fldE, vE_0, bind_ok, fld_t, lift_some, dictD_g h (show n ≤ 1000 by omega) (dctOf_td t _), bindS_ok, seq_nx, List.set_cons_zero, List.set_cons_succ, asgS, vE_s, subG, ]
  simp only [e1, bindS_ok, e2, seq_nx, retS, makeE, consA, nilA, vE_0, vE_s, fldE, bind_ok, fld_r, fld_s, lift_some, List.length_cons, List.length_nil, and_self, if_true, ar, mk]
  simp only [List.append_assoc, List.cons_append, List.nil_append]
  rfl
end K22
namespace K22
open PySem PySem.Spec PyProof.Rows L2 L2.Dn
/-! ### the table without what would be answered anyway -/
def lastP (r s : Int) (q : Ky × Int) : Bool := !(q.2 == r + s * q.1.2)
def last (t : Tab) (r s : Int) : Tab := t.filter (lastP r s)
theorem put_new {t : Tab} {k : Ky} {v : Int} (h : k ∉ t.map (·.1)) : put t k v = t ++ [(k, v)] := by unfold put; rw [if_neg h]
def itm (q : Ky × Int) : D := .p (.tuple [kd q.1, .int q.2])
def lastG : FG := tupG 2 (consG (tupG 2 (consG (nameG 2) (consG (nameG 3) nilG))) (consG (nameG 4) nilG))
def lastB : FS := ifS (testE (opE (eqG true) (vE 4) (opE (addD .z) (fldE [] ["Answers"] "its_rest" (vE 0)) (opE (mulG .z) (fldE [] ["Answers"] "its_step" (vE 0)) (vE 3))))) (asgS (vE 4) (subG setG (vE 1) (tupE (consA (vE 2) (consA (vE 3) nilA))))) nilS
theorem lastG_ok {q : Ky × Int} {a b c d e : Option D} {m : Store} : lastG (itm q) [a, b, c, d, e] m = .nx [a, b, some (.p (.tuple (q.1.1.map .int))), some (.p (.int q.1.2)), some (.p (.int q.2))] m := rfl
theorem lastB_ok {n : Nat} {acc : Tab} {q : Ky × Int} {t : Tab} {r s : Int} {G : List Cell} (h : OkT n acc) (hn : n ≤ 1000) (hk : q.1 ∈ allKy) (hs : okS s) (hq : q.1 ∉ acc.map (·.1)) :
    lastB [some (AO t r s), some (.cell (.l 0)), some (.p (.tuple (q.1.1.map .int))), some (.p (.int q.1.2)), some (.p (.int q.2))] ⟨G, [.dct (pd acc)]⟩ = .nx [some (AO t r s), some (.cell (.l 0)), some (.p (.tuple (q.1.1.map .int))), some (.p (.int q.1.2)), some (.p (.int q.2))] ⟨G, [.dct (pd (if lastP r s q then acc ++ [q] else acc))]⟩ := by
  unfold lastB
  simp only [ifS, testE, opE_eq, fldE, vE_0, vE_s, bind_ok, fld_r, fld_s, lift_some, mul_l (small_s hs), addD_int, eqG_int, if_true, testR_ok, bindS_ok]
  cases e : (q.2 == r + s * q.1.2) with
  | true =>
    have e2 : lastP r s q = false := by unfold lastP; rw [e]; rfl
    simp only [Bool.not_true, Bool.false_eq_true, if_false, nilS, e2]
  | false =>
    have e2 : lastP r s q = true := by unfold lastP; rw [e]; rfl
    have e3 : tupE (consA (vE 2) (consA (vE 3) nilA)) [some (AO t r s), some (.cell (.l 0)), some (.p (.tuple (q.1.1.map .int))), some (.p (.int q.1.2)), some (.p (.int q.2))] ⟨G, [.dct (pd acc)]⟩ = .ok (.p (kd q.1)) ⟨G, [.dct (pd acc)]⟩ := rfl
    have e4 := set_dct (i := .l 0) (m := ⟨G, [.dct (pd acc)]⟩) (k := q.1) (v := q.2) h hn hk rfl
    rw [put_new hq] at e4
    simp only [Bool.not_false, if_true, asgS, vE_0, vE_s, bindS_ok, subG, e3, e4, e2]
    rfl
theorem last_loop {r s : Int} {t0 : Tab} {G : List Cell} (hs : okS s) : ∀ {t acc : Tab} {n : Nat} {c d e : Option D}, OkT n (acc ++ t) → n ≤ 1000 →
    ∃ c' d' e', forS lastG lastB (t.map itm) [some (AO t0 r s), some (.cell (.l 0)), c, d, e] ⟨G, [.dct (pd acc)]⟩ = .nx [some (AO t0 r s), some (.cell (.l 0)), c', d', e'] ⟨G, [.dct (pd (acc ++ t.filter (lastP r s)))]⟩
  | [], acc, n, c, d, e, _, _ => ⟨c, d, e, by simp [forS]⟩
  | q :: t, acc, n, c, d, e, h, hn => by
    have hk : q.1 ∈ allKy := h.key q (by simp)
    have nd := h.nd
    rw [List.map_append, List.map_cons, List.nodup_append] at nd
    have hq : q.1 ∉ acc.map (·.1) := fun z => nd.2.2 _ z _ (List.mem_cons_self ..) rfl
    have ha : OkT n acc := ⟨fun x hx => h.key x (List.mem_append_left _ hx), nd.1, Nat.le_trans (by simp) h.len, fun x hx => h.val x (List.mem_append_left _ hx)⟩
    have b := lastB_ok (t := t0) (r := r) (G := G) ha hn hk hs hq
    have step : OkT n ((if lastP r s q then acc ++ [q] else acc) ++ t) := by
      cases lastP r s q with
      | true => rw [if_pos rfl]; simpa using h
      | false =>
        rw [if_neg Bool.false_ne_true]
        refine ⟨fun x hx => h.key x ?_, ?_, ?_, fun x hx => h.val x ?_⟩
        · rcases List.mem_append.mp hx with z | z
          · exact List.mem_append_left _ z
          · exact List.mem_append_right _ (List.mem_cons_of_mem _ z)
        · rw [List.map_append, List.nodup_append]
          exact ⟨nd.1, (List.nodup_cons.mp nd.2.1).2, fun a ha b hb => nd.2.2 a ha b (List.mem_cons_of_mem _ hb)⟩
        · have := h.len; simp only [List.length_append, List.length_cons] at this ⊢; omega
        · rcases List.mem_append.mp hx with z | z
          · exact List.mem_append_left _ z
          · exact List.mem_append_right _ (List.mem_cons_of_mem _ z)
    obtain ⟨c', d', e', ih⟩ := last_loop (r := r) (s := s) (t0 := t0) (G := G) hs (t := t) (c := some (.p (.tuple (q.1.1.map .int)))) (d := some (.p (.int q.1.2))) (e := some (.p (.int q.2))) step hn
    refine ⟨c', d', e', ?_⟩
    rw [List.map_cons]
    unfold forS
    rw [lastG_ok, seq_nx, b]
    simp only
    rw [ih]
    cases z : lastP r s q with
    | true => simp only [if_true, List.filter_cons_of_pos z, List.append_assoc, List.singleton_append]
    | false => simp only [Bool.false_eq_true, if_false, List.filter_cons_of_neg (show ¬ lastP r s q = true by rw [z]; exact Bool.false_ne_true)]
theorem lasting_ok {n : Nat} {t : Tab} {r s : Int} {G : List Cell} (h : OkT n t) (hn : n ≤ 1000) (hs : okS s) : den_Answers_lasting [AO t r s] G = .ok (.p (td (last t r s))) G := by
  rw [eq_Answers_lasting]
  obtain ⟨c', d', e', lp⟩ := last_loop (r := r) (s := s) (t0 := t) (G := G) hs (t := t) (acc := []) (c := none) (d := none) (e := none) h hn
  have it : itmsI (fldE [] ["Answers"] "its_table" (vE 0)) [some (AO t r s), some (.cell (.l 0)), none, none, none] ⟨G, [.dct (pd [])]⟩ = .ok (t.map itm) ⟨G, [.dct (pd [])]⟩ := by
    have e : prs ((tk t).map (·.1)) (((tk t).map (·.2)).map D.p) = t.map itm := by
      have := prs_tk t
      rw [show (pd t).map (·.1) = (tk t).map (·.1) by simp [pd, tk, List.map_map, Function.comp_def], show (pd t).map (·.2) = ((tk t).map (·.2)).map D.p by simp [pd, tk, List.map_map, Function.comp_def]] at this
      exact this
    simp only [itmsI, fldE, vE_0, bind_ok, fld_t, lift_some, dctZ_td, e]
  have f1 : forE (itmsI (fldE [] ["Answers"] "its_table" (vE 0))) lastG lastB [some (AO t r s), some (.cell (.l 0)), none, none, none] ⟨G, [.dct (pd [])]⟩ = .nx [some (AO t r s), some (.cell (.l 0)), c', d', e'] ⟨G, [.dct (pd (last t r s))]⟩ := by
    simp only [forE, it, bindS_ok]
    exact lp
  have s1 : setS 1 (dct0E .l) [some (AO t r s), none, none, none, none] ⟨G, []⟩ = .nx [some (AO t r s), some (.cell (.l 0)), none, none, none] ⟨G, [.dct (pd [])]⟩ := rfl
  change fin (seqS (setS 1 (dct0E .l)) (seqS (forE (itmsI (fldE [] ["Answers"] "its_table" (vE 0))) lastG lastB) (retS (frzE (vE 1)))) [some (AO t r s), none, none, none, none] ⟨G, []⟩) = _
  simp only [seqS, s1, seq_nx, f1, retS, frzE, vE_0, vE_s, frzR, lat, List.getElem?_cons_zero, frzC, mkDct_pd, bindS_ok, fin_rt]
  rfl
theorem OkT.last {n : Nat} {t : Tab} (h : OkT n t) (r s : Int) : OkT n (last t r s) := by
  refine ⟨fun q hq => h.key q (List.mem_filter.mp hq).1, ?_, Nat.le_trans (List.length_filter_le ..) h.len, fun q hq => h.val q (List.mem_filter.mp hq).1⟩
  exact List.Sublist.nodup (List.Sublist.map _ List.filter_sublist) h.nd
/-! ### == of tables -/
def hit (b : Tab) (q : Ky × Int) : Bool := match look b q.1 with
  | some w => q.2 == w
  | none => false
def same (a b : Tab) : Bool := a.length == b.length && a.all (hit b)
theorem okW_int (m : Store) (i : Int) : okW m (.p (.int i)) = true := rfl
theorem eqW_int (m : Store) (i j : Int) : eqW m (.p (.int i)) (.p (.int j)) = (i == j) := rfl
theorem all_okW (m : Store) (t : Tab) : (pd t).all (fun q => okW m q.2) = true := by
  rw [List.all_eq_true]
  intro q hq
  obtain ⟨x, _, rfl⟩ := List.mem_map.mp hq
  exact okW_int m _
theorem all_hit (m : Store) (a b : Tab) : (pd a).all (hitD m (pd b)) = a.all (hit b) := by
  simp only [pd, List.all_map]
  congr 1
  funext q
  simp only [Function.comp_def, hitD, nk_kd]
  have := lkD_pd q.1 b
  unfold pd at this
  rw [this]
  unfold hit
  cases look b q.1 <;> rfl
theorem eqDc_ok {x y : D} {a b : Tab} {m : Store} (neg : Bool) (hx : dctOf x m = some (pd a)) (hy : dctOf y m = some (pd b)) : eqDc neg x y m = some (.p (.bool (if neg then !same a b else same a b)), m) := by
  simp only [eqDc, hx, hy, all_okW, and_self, if_true, pd_len, all_hit]
  rfl
theorem eqG_td (neg : Bool) (t : Tab) (y : D) (m : Store) : eqG neg (.p (td t)) y m = none := by
  have e1 : eqS neg (.p (td t)) y m = none := rfl
  have e2 : eqP neg (.p (td t)) y m = none := by
    unfold eqP
    rw [whole_p]
    split
    · rename_i p q h1 h2
      cases h1
      rw [if_neg]
      rintro ⟨z, _⟩
      simp [SeqAt.shaped, td, PyData.canLay0] at z
    · rfl
  simp only [eqG, altO, e1, e2]
theorem eqG_cell {neg : Bool} {i : Ix} {t : Tab} {y : D} {m : Store} (h : m.at_ i = some (.dct (pd t))) : eqG neg (.cell i) y m = none := by
  have e1 : eqS neg (.cell i) y m = none := rfl
  have e2 : eqP neg (.cell i) y m = none := by
    unfold eqP
    have : ∃ kv, whole m (.cell i) = some (.dict kv) ∨ whole m (.cell i) = none := by
      unfold whole deep
      rw [h]
      simp only
      cases deepAll (deep m 7) ((pd t).map (·.2)) with
      | none => exact ⟨[], .inr rfl⟩
      | some ps => exact ⟨_, .inl rfl⟩
    obtain ⟨kv, e | e⟩ := this
    · rw [e]
      split
      · rename_i p q h1 h2
        cases h1
        rw [if_neg]
        rintro ⟨z, _⟩
        simp [SeqAt.shaped, PyData.canLay0] at z
      · rfl
    · rw [e]
  simp only [eqG, altO, e1, e2]
theorem eqH_td {neg : Bool} {l : List (Str × Den)} {a b : Tab} {y : D} {m : Store} (hy : dctOf y m = some (pd b)) : eqH neg l (.p (td a)) y m = some (.p (.bool (if neg then !same a b else same a b)), m) := by
  simp only [eqH, altO, eqG_td, eqDc_ok neg (dctOf_td a m) hy]
theorem eqH_cell {neg : Bool} {l : List (Str × Den)} {a b : Tab} {i : Ix} {y : D} {m : Store} (hx : m.at_ i = some (.dct (pd a))) (hy : dctOf y m = some (pd b)) : eqH neg l (.cell i) y m = some (.p (.bool (if neg then !same a b else same a b)), m) := by
  have e : dctOf (.cell i) m = some (pd a) := by simp only [dctOf, dctZ, hx]
  simp only [eqH, altO, eqG_cell hx, eqDc_ok neg e hy]
theorem eqH_G {neg : Bool} {l : List (Str × Den)} {x y : D} {m : Store} {z : D × Store} (h : eqG neg x y m = some z) : eqH neg l x y m = some z := by simp only [eqH, altO, h]
theorem eqG_two {neg : Bool} {a b c d : Int} {m : Store} : eqG neg (.p (.tuple [.int a, .int b])) (.p (.tuple [.int c, .int d])) m = some (.p (.bool (if neg then !(a == c && b == d) else (a == c && b == d))), m) := by
  have : eqP neg (.p (.tuple [.int a, .int b])) (.p (.tuple [.int c, .int d])) m = some (.p (.bool (if neg then !((a == c) && ((b == d) && true)) else ((a == c) && ((b == d) && true)))), m) := rfl
  rw [Bool.and_true] at this
  exact this
end K22
namespace K22
open PySem PySem.Spec PyProof.Rows L2 L2.Dn
/-! ### == of Answers -/
theorem isC_ao {t : Tab} {r s : Int} {m : Store} : isCL "Answers" lx_Answers li_Answers [AO t r s, .fn "Answers"] m = some (.p (.bool true), m) := by with_unfolding_all rfl
theorem meth_last {n : Nat} {t : Tab} {r s : Int} {ρ : Rho} {G l : List Cell} {f : FE} (h : OkT n t) (hn : n ≤ 1000) (hs : okS s) (hf : f ρ ⟨G, l⟩ = .ok (AO t r s) ⟨G, l⟩) : methE [("Answers", den_Answers_lasting)] "lasting" f nilA ρ ⟨G, l⟩ = .ok (.p (td (last t r s))) ⟨G, l⟩ := by
  have e1 : metOf [("Answers", den_Answers_lasting)] "lasting" (AO t r s) ⟨G, l⟩ = some den_Answers_lasting := by with_unfolding_all rfl
  have e2 : callR den_Answers_lasting [AO t r s] ⟨G, l⟩ = .ok (.p (td (last t r s))) ⟨G, l⟩ := by
    unfold callR
    rw [if_pos (by rfl), lasting_ok h hn hs]
    rfl
  simp only [methE, hf, bind_ok, e1, nilA, e2]
def eqA (t : Tab) (r s : Int) (t' : Tab) (r' s' : Int) : Bool := (r == r' && s == s') && same (last t r s) (last t' r' s')
theorem eq_ok {n : Nat} {t t' : Tab} {r s r' s' : Int} {G : List Cell} (h : OkT n t) (h' : OkT n t') (hn : n ≤ 1000) (hs : okS s) (hs' : okS s') : den_Answers___eq__ [AO t r s, AO t' r' s'] G = .ok (.p (.bool (eqA t r s t' r' s'))) G := by
  rw [eq_Answers___eq__]
  have m1 : ∀ o2 : Option D, methE [("Answers", den_Answers_lasting)] "lasting" (vE 0) nilA [some (AO t r s), some (AO t' r' s'), o2] ⟨G, []⟩ = .ok (.p (td (last t r s))) ⟨G, []⟩ := fun o2 => meth_last h hn hs rfl
  have m2 : ∀ o2 : Option D, methE [("Answers", den_Answers_lasting)] "lasting" (vE 1) nilA [some (AO t r s), some (AO t' r' s'), o2] ⟨G, []⟩ = .ok (.p (td (last t' r' s'))) ⟨G, []⟩ := fun o2 => meth_last h' hn hs' rfl
  have u1 : tupE (consA (fldE [] ["Answers"] "its_rest" (vE 0)) (consA (fldE [] ["Answers"] "its_step" (vE 0)) nilA)) [some (AO t r s), some (AO t' r' s'), none] ⟨G, []⟩ = .ok (.p (.tuple [.int r, .int s])) ⟨G, []⟩ := by with_unfolding_all rfl
  have u2 : tupE (consA (fldE [] ["Answers"] "its_rest" (vE 1)) (consA (fldE [] ["Answers"] "its_step" (vE 1)) nilA)) [some (AO t r s), some (AO t' r' s'), none] ⟨G, []⟩ = .ok (.p (.tuple [.int r', .int s'])) ⟨G, []⟩ := by with_unfolding_all rfl
  have i1 : notT (tvE (calE (isCL "Answers" lx_Answers li_Answers) (consA (vE 1) (consA (fnE "Answers") nilA)))) [some (AO t r s), some (AO t' r' s'), none] ⟨G, []⟩ = .ok false ⟨G, []⟩ := by
    simp only [notT, tvE, calE, consA, nilA, vE_0, vE_s, bind_ok, fnE, isC_ao, lift_some, tru_b, Bool.not_true]
  unfold body_Answers___eq__ eqA
  simp only [seqS, ifS, i1, bindS_ok, Bool.false_eq_true, if_false, nilS, seq_nx, setS, opE_eq, u1, u2, bind_ok, eqH_G eqG_two, lift_some, List.set_cons_zero, List.set_cons_succ, retS, andG, vE_0, vE_s, tru_b]
  cases (r == r' && s == s') with
  | false => simp only [bindS_ok, fin_rt, Bool.false_and]
  | true => simp only [m1, m2, bind_ok, eqH_td (dctOf_td _ _), Bool.false_eq_true, if_false, lift_some, bindS_ok, fin_rt, Bool.true_and]
theorem eq_p {t : Tab} {r s : Int} {p : PyData} {G : List Cell} (hp : ∃ ty, tyN (.p p) ⟨G, []⟩ = some ty) : den_Answers___eq__ [AO t r s, .p p] G = .ok (.p (.bool false)) G := by
  rw [eq_Answers___eq__]
  have e : isCL "Answers" lx_Answers li_Answers [.p p, .fn "Answers"] ⟨G, []⟩ = some (.p (.bool false), ⟨G, []⟩) := by
    cases p <;> with_unfolding_all rfl
  have i1 : notT (tvE (calE (isCL "Answers" lx_Answers li_Answers) (consA (vE 1) (consA (fnE "Answers") nilA)))) [some (AO t r s), some (.p p), none] ⟨G, []⟩ = .ok true ⟨G, []⟩ := by
    simp only [notT, tvE, calE, consA, nilA, vE_0, vE_s, bind_ok, fnE, e, lift_some, tru_b, Bool.not_false]
  unfold body_Answers___eq__
  simp only [seqS, ifS, i1, bindS_ok, if_true, retS, cE, seq_rt, fin_rt]
/-- == and != where the law asks -/
abbrev EL : List (Str × Den) := [("Answers", den_Answers___eq__)]
theorem eqG_ao (neg : Bool) {t : Tab} {r s : Int} {y : D} {m : Store} : eqG neg (AO t r s) y m = none := by
  have e1 : eqS neg (AO t r s) y m = none := rfl
  have e2 : eqP neg (AO t r s) y m = none := rfl
  simp only [eqG, altO, e1, e2]
theorem eqDc_ao (neg : Bool) {t : Tab} {r s : Int} {y : D} {m : Store} : eqDc neg (AO t r s) y m = none := rfl
theorem eqI_ao {n : Nat} {t t' : Tab} {r s r' s' : Int} {G l : List Cell} (h : OkT n t) (h' : OkT n t') (hn : n ≤ 1000) (hs : okS s) (hs' : okS s') : eqI EL (AO t r s) (AO t' r' s') ⟨G, l⟩ = some (.p (.bool (eqA t r s t' r' s')), ⟨G, l⟩) := by
  have e1 : callR den_Answers___eq__ [AO t r s, AO t' r' s'] ⟨G, l⟩ = .ok (.p (.bool (eqA t r s t' r' s'))) ⟨G, l⟩ := by
    unfold callR
    rw [if_pos (by rfl), eq_ok h h' hn hs hs']
    rfl
  have e2 : eqI EL (AO t r s) (AO t' r' s') ⟨G, l⟩ = blR (callR den_Answers___eq__ [AO t r s, AO t' r' s'] ⟨G, l⟩) := by with_unfolding_all rfl
  rw [e2, e1]
  rfl
theorem eqH_ao {neg : Bool} {n : Nat} {t t' : Tab} {r s r' s' : Int} {G l : List Cell} (h : OkT n t) (h' : OkT n t') (hn : n ≤ 1000) (hs : okS s) (hs' : okS s') : eqH neg EL (AO t r s) (AO t' r' s') ⟨G, l⟩ = some (.p (.bool (if neg then !eqA t r s t' r' s' else eqA t r s t' r' s')), ⟨G, l⟩) := by
  simp only [eqH, altO, eqG_ao, eqDc_ao, eqIN, eqI_ao h h' hn hs hs', notR]
  cases neg <;> rfl
theorem eqH_aop {t : Tab} {r s : Int} {p : PyData} {G l : List Cell} (hp : ∃ ty, ∀ m, tyN (.p p) m = some ty) : eqH false EL (AO t r s) (.p p) ⟨G, l⟩ = some (.p (.bool false), ⟨G, l⟩) := by
  obtain ⟨ty, hp⟩ := hp
  have e1 : callR den_Answers___eq__ [AO t r s, .p p] ⟨G, l⟩ = .ok (.p (.bool false)) ⟨G, l⟩ := by
    unfold callR
    rw [if_pos (by rfl), eq_p ⟨ty, hp _⟩]
    rfl
  have e2 : eqI EL (AO t r s) (.p p) ⟨G, l⟩ = blR (callR den_Answers___eq__ [AO t r s, .p p] ⟨G, l⟩) := by
    cases p <;> with_unfolding_all rfl
  simp only [eqH, altO, eqG_ao, eqDc_ao, eqIN, e2, e1, blR, Bool.false_eq_true, if_false]
/-! ### the law's own answers -/
def CO (t : Tab) (r s : Int) : D := .p (.tuple [td t, .int r, .int s])
section
variable {t : Tab} {r s : Int} {m : Store}
theorem co0 : ixG (CO t r s) (.p (.int 0)) m = some (.p (td t), m) := rfl
theorem co1 : ixG (CO t r s) (.p (.int 1)) m = some (.p (.int r), m) := rfl
theorem co2 : ixG (CO t r s) (.p (.int 2)) m = some (.p (.int s), m) := rfl
theorem kd0 {k : Ky} : ixG (.p (kd k)) (.p (.int 0)) m = some (.p (.tuple (k.1.map .int)), m) := rfl
theorem kd1 {k : Ky} : ixG (.p (kd k)) (.p (.int 1)) m = some (.p (.int k.2), m) := rfl
theorem co_tail : slD .z (CO t r s) (some 1) none m = some (.p (.tuple [.int r, .int s]), m) := rfl
end
theorem value_ok {t : Tab} {r s : Int} {k : Ky} {G : List Cell} (hk : k ∈ allKy) (hs : okS s) : den__law_value [CO t r s, .p (kd k)] G = .ok (.p (.int (val t r s k))) G := by
  rw [eq__law_value]
  have g : ∀ z : D, getD1 (.p (td t)) [.p (kd k), z] ⟨G, []⟩ = some (((look t k).map fun v => D.p (.int v)).getD z, ⟨G, []⟩) := fun z => by
    simp only [getD1, dctOf_td, keyK_kd k hk, lkD_pd]
  unfold body__law_value
  simp only [retS, dmE, opE_eq, vE_0, vE_s, cE, bind_ok, co0, lift_some, dctOf_td, Option.isSome_some, if_true, consA, nilA, co1, co2, kd1, mul_l (small_s hs), addD_int, g, bindS_ok]
  unfold val
  cases look t k <;> rfl
def sameC (t : Tab) (r s : Int) (t' : Tab) (r' s' : Int) : Bool := (r == r' && s == s') && ((t.map (·.1)) ++ (t'.map (·.1))).all fun k => val t r s k == val t' r' s' k
theorem listG_td {n : Nat} {t : Tab} {m : Store} (h : OkT n t) (hn : n ≤ 1000) : listG .z [.p (td t)] m = some (.p (.list ((t.map (·.1)).map kd)), m) := by
  have e1 : listD .z [.p (td t)] m = none := rfl
  have e2 : ((pd t).map (·.1)).map D.p = ((t.map (·.1)).map kd).map D.p := by simp [pd, List.map_map, Function.comp_def]
  simp only [listG, e1, dctOf_td, if_pos (pd_small h hn), newO, e2, mkLst_p]
theorem call2 {den : Den} {p q d : PyData} {g g' l : List Cell} (h : den [.p p, .p q] g = .ok (.p d) g') : callR den [.p p, .p q] ⟨g, l⟩ = .ok (.p d) ⟨g', l⟩ := by
  unfold callR
  rw [show nls [.p p, .p q] = true from rfl]
  simp only [if_true, h, RG.res]
theorem ones_eq : ∀ (n : Nat) (m : Store), eqG false (.p (.list (List.replicate n (.int 1)))) (.p (.list [])) m = some (.p (.bool (n == 0)), m) := by
  intro n m
  have sh : ∀ n, PyData.canLayAll0 (List.replicate n (.int 1)) = true := by
    intro n
    induction n with
    | zero => rfl
    | succ n ih => rw [List.replicate_succ]; simp only [PyData.canLayAll0, PyData.canLay0, ih, Bool.and_self]
  have dp : ∀ n, PyData.depthAll (List.replicate n (.int 1)) ≤ 0 := by
    intro n
    induction n with
    | zero => exact Nat.le_refl _
    | succ n ih => rw [List.replicate_succ]; simp only [PyData.depthAll, PyData.depth]; omega
  have e : SeqAt.shaped (.list (List.replicate n (.int 1))) = true := by
    have := dp n
    have d2 : (PyData.list (List.replicate n (.int 1))).depth ≤ 64 := by simp only [PyData.depth]; omega
    simp only [SeqAt.shaped, PyData.canLay0, sh, Bool.true_and]
    exact decide_eq_true d2
  have e2 : PyData.eqv (.list (List.replicate n (.int 1))) (.list []) = (n == 0) := by
    cases n with
    | zero => rfl
    | succ n => rfl
  have : eqP false (.p (.list (List.replicate n (.int 1)))) (.p (.list [])) m = some (.p (.bool (n == 0)), m) := by
    simp only [eqP, whole_p]
    rw [if_pos ⟨e, rfl⟩, e2]
    rfl
  exact this
theorem are_ok {n : Nat} {t t' : Tab} {r s r' s' : Int} {G : List Cell} (h : OkT n t) (h' : OkT n t') (hn : n ≤ 500) (hs : okS s) (hs' : okS s') : den__law_are_same [CO t r s, CO t' r' s'] G = .ok (.p (.bool (sameC t r s t' r' s'))) G := by
  rw [eq__law_are_same]
  have kall : ∀ k ∈ (t.map (·.1)) ++ (t'.map (·.1)), k ∈ allKy := fun k hk => by
    rcases List.mem_append.mp hk with z | z
    · obtain ⟨q, hq, rfl⟩ := List.mem_map.mp z; exact h.key q hq
    · obtain ⟨q, hq, rfl⟩ := List.mem_map.mp z; exact h'.key q hq
  have hl : ((t.map (·.1)) ++ (t'.map (·.1))).length ≤ 1000 := by
    have := h.len; have := h'.len
    simp only [List.length_append, List.length_map]; omega
  have w1 : walkI (opE (addD .z) (calE (listG .z) (consA (opE ixG (vE 0) (cE (.int 0))) nilA)) (calE (listG .z) (consA (opE ixG (vE 1) (cE (.int 0))) nilA))) [some (CO t r s), some (CO t' r' s'), none] ⟨G, []⟩ = .ok ((((t.map (·.1)) ++ (t'.map (·.1))).map kd).map D.p) ⟨G, []⟩ := by
    have a1 : ((t.map (·.1)).map kd).length + ((t'.map (·.1)).map kd).length ≤ sizeLine := by
      have := h.len; have := h'.len
      rw [sizeLine_eq]; simp only [List.length_map]; omega
    simp only [walkI, opE_eq, calE, consA, nilA, vE_0, vE_s, cE, bind_ok, co0, lift_some, listG_td h (show n ≤ 1000 by omega), listG_td h' (show n ≤ 1000 by omega), addD_list a1, itemsZ, List.map_append]
  have body : lcM (oneG 2) (testE (opE (eqG true) (callE den__law_value (consA (vE 0) (consA (vE 2) nilA))) (callE den__law_value (consA (vE 1) (consA (vE 2) nilA))))) (cE (.int 1)) [some (CO t r s), some (CO t' r' s'), none] ((((t.map (·.1)) ++ (t'.map (·.1))).map kd).map D.p) ⟨G, []⟩
      = .ok (((List.replicate ((((t.map (·.1)) ++ (t'.map (·.1))).filter fun k => !(val t r s k == val t' r' s' k)).length) (PyData.int 1))).map D.p) ⟨G, []⟩ := by
    have gen : ∀ ks : List Ky, (∀ k ∈ ks, k ∈ allKy) → lcM (oneG 2) (testE (opE (eqG true) (callE den__law_value (consA (vE 0) (consA (vE 2) nilA))) (callE den__law_value (consA (vE 1) (consA (vE 2) nilA))))) (cE (.int 1)) [some (CO t r s), some (CO t' r' s'), none] ((ks.map kd).map D.p) ⟨G, []⟩ = .ok (((List.replicate ((ks.filter fun k => !(val t r s k == val t' r' s' k)).length) (PyData.int 1))).map D.p) ⟨G, []⟩ := by
      intro ks
      induction ks with
      | nil => intro _; rfl
      | cons k ks ih =>
        intro hk
        have ih := ih fun x hx => hk x (List.mem_cons_of_mem _ hx)
        have c1 : callR den__law_value [CO t r s, .p (kd k)] ⟨G, []⟩ = .ok (.p (.int (val t r s k))) ⟨G, []⟩ := call2 (value_ok (hk k (List.mem_cons_self ..)) hs)
        have c2 : callR den__law_value [CO t' r' s', .p (kd k)] ⟨G, []⟩ = .ok (.p (.int (val t' r' s' k))) ⟨G, []⟩ := call2 (value_ok (hk k (List.mem_cons_self ..)) hs')
        have tt : testE (opE (eqG true) (callE den__law_value (consA (vE 0) (consA (vE 2) nilA))) (callE den__law_value (consA (vE 1) (consA (vE 2) nilA)))) [some (CO t r s), some (CO t' r' s'), some (.p (kd k))] ⟨G, []⟩ = .ok (!(val t r s k == val t' r' s' k)) ⟨G, []⟩ := by
          simp only [testE, opE_eq, callE, consA, nilA, vE_0, vE_s, bind_ok, c1, c2, eqG_int, if_true, lift_some, testR_ok]
        rw [List.map_cons, List.map_cons]
        unfold lcM
        rw [show oneG 2 (D.p (kd k)) [some (CO t r s), some (CO t' r' s'), none] = some [some (CO t r s), some (CO t' r' s'), some (.p (kd k))] from rfl]
        simp only [tt, noX, bind_ok, cE, ih]
        cases q : (val t r s k == val t' r' s' k) with
        | true =>
          rw [List.filter_cons_of_neg (by simp [q])]
          simp only [Bool.not_true, Bool.false_eq_true, if_false]
        | false =>
          rw [List.filter_cons_of_pos (by simp [q])]
          simp only [Bool.not_false, if_true, List.length_cons, List.replicate_succ, List.map_cons]
    exact gen _ kall
  have hz : ((((t.map (·.1)) ++ (t'.map (·.1))).map kd).map D.p).length ≤ sizeLine := by
    rw [sizeLine_eq, List.length_map, List.length_map]; omega
  have lc : lcE .z [2] (walkI (opE (addD .z) (calE (listG .z) (consA (opE ixG (vE 0) (cE (.int 0))) nilA)) (calE (listG .z) (consA (opE ixG (vE 1) (cE (.int 0))) nilA)))) (oneG 2) (testE (opE (eqG true) (callE den__law_value (consA (vE 0) (consA (vE 2) nilA))) (callE den__law_value (consA (vE 1) (consA (vE 2) nilA))))) (cE (.int 1)) [some (CO t r s), some (CO t' r' s'), none] ⟨G, []⟩
      = .ok (.p (.list (List.replicate ((((t.map (·.1)) ++ (t'.map (·.1))).filter fun k => !(val t r s k == val t' r' s' k)).length) (PyData.int 1)))) ⟨G, []⟩ := by
    simp only [lcE, w1, bind_ok, if_pos hz, wipeR, List.set_cons_zero, List.set_cons_succ, body, newL, mkLst_p]
  have fz : ((((t.map (·.1)) ++ (t'.map (·.1))).filter fun k => !(val t r s k == val t' r' s' k)).length == 0) = ((t.map (·.1)) ++ (t'.map (·.1))).all fun k => val t r s k == val t' r' s' k := by
    generalize (t.map (·.1)) ++ (t'.map (·.1)) = ks
    induction ks with
    | nil => rfl
    | cons k ks ih =>
      rw [List.all_cons, ← ih]
      cases q : (val t r s k == val t' r' s' k) with
      | true => rw [List.filter_cons_of_neg (by simp [q]), Bool.true_and]
      | false => rw [List.filter_cons_of_pos (by simp [q]), Bool.false_and]; rfl
  have e0 : lstE .z nilA [some (CO t r s), some (CO t' r' s'), none] ⟨G, []⟩ = .ok (.p (.list [])) ⟨G, []⟩ := rfl
  unfold body__law_are_same sameC
  simp only [seqS, ifS, testE, opE_eq (eqG true), slE, noO, someO, cE, vE_0, vE_s, bind_ok, co_tail, lift_some, eqG_two, if_true, testR_ok, bindS_ok]
  cases (r == r' && s == s') with
  | false => simp only [Bool.not_false, if_true, retS, cE, bindS_ok, seq_rt, fin_rt, Bool.false_and]
  | true =>
    simp only [Bool.not_true, Bool.false_eq_true, if_false, nilS, seq_nx, retS]
    rw [opE_eq, lc]
    simp only [bind_ok, e0, ones_eq, lift_some, bindS_ok, fin_rt, fz, Bool.true_and]
end K22
namespace K22
open PySem PySem.Spec PyProof.Rows L2 L2.Dn
/-! ### both ways of being the same -/
theorem look_cons {q : Ky × Int} {t : Tab} {k : Ky} : look (q :: t) k = if q.1 = k then some q.2 else look t k := by
  unfold look
  rw [List.find?_cons]
  by_cases h : q.1 = k
  · rw [if_pos h]; simp [h]
  · rw [if_neg h]; simp [h]
theorem look_none {k : Ky} : ∀ {t : Tab}, k ∉ t.map (·.1) → look t k = none
  | [], _ => rfl
  | q :: t, h => by
    rw [look_cons, if_neg (fun z => h (by rw [← z]; simp)), look_none (fun z => h (List.mem_cons_of_mem _ z))]
theorem look_mem {k : Ky} {v : Int} : ∀ {t : Tab}, look t k = some v → (k, v) ∈ t
  | [], h => by cases h
  | q :: t, h => by
    rw [look_cons] at h
    by_cases e : q.1 = k
    · rw [if_pos e] at h
      cases h
      rw [← e]
      exact List.mem_cons_self ..
    · rw [if_neg e] at h
      exact List.mem_cons_of_mem _ (look_mem h)
theorem look_of {q : Ky × Int} : ∀ {t : Tab}, (t.map (·.1)).Nodup → q ∈ t → look t q.1 = some q.2
  | [], _, h => by cases h
  | x :: t, hn, h => by
    rw [look_cons]
    rcases List.mem_cons.mp h with e | h
    · rw [e, if_pos rfl]
    · rw [List.map_cons, List.nodup_cons] at hn
      rw [if_neg (fun z => hn.1 (by rw [z]; exact List.mem_map.mpr ⟨q, h, rfl⟩)), look_of hn.2 h]
theorem look_last {r s : Int} {k : Ky} : ∀ {t : Tab}, (t.map (·.1)).Nodup → look (last t r s) k = match look t k with
    | some v => if v == r + s * k.2 then none else some v
    | none => none
  | [], _ => rfl
  | q :: t, hn => by
    rw [List.map_cons, List.nodup_cons] at hn
    have ih := look_last (r := r) (s := s) (k := k) hn.2
    rw [look_cons]
    by_cases e : q.1 = k
    · rw [if_pos e]
      have nt : look t k = none := look_none (by rw [← e]; exact hn.1)
      rw [nt] at ih
      unfold last at ih ⊢
      cases z : lastP r s q with
      | true =>
        rw [List.filter_cons_of_pos z, look_cons, if_pos e]
        unfold lastP at z
        rw [← e]
        simp only [Bool.not_eq_true'] at z
        simp only [z, Bool.false_eq_true, if_false]
      | false =>
        rw [List.filter_cons_of_neg (by rw [z]; exact Bool.false_ne_true)]
        unfold lastP at z
        rw [← e]
        simp only [Bool.not_eq_false'] at z
        simp only [z, if_true]
        rw [e]
        exact ih
    · rw [if_neg e]
      unfold last at ih ⊢
      cases z : lastP r s q with
      | true => rw [List.filter_cons_of_pos z, look_cons, if_neg e]; exact ih
      | false => rw [List.filter_cons_of_neg (by rw [z]; exact Bool.false_ne_true)]; exact ih
theorem val_last {r s : Int} {k : Ky} {t : Tab} (hn : (t.map (·.1)).Nodup) : val t r s k = (look (last t r s) k).getD (r + s * k.2) := by
  rw [look_last hn]
  unfold val
  cases look t k with
  | none => rfl
  | some v =>
    simp only [Option.getD_some]
    by_cases e : v = r + s * k.2
    · rw [if_pos (by simpa using e), Option.getD_none, e]
    · rw [if_neg (by simpa using e), Option.getD_some]
theorem last_val {r s : Int} {k : Ky} {t : Tab} (hn : (t.map (·.1)).Nodup) : look (last t r s) k = if val t r s k == r + s * k.2 then none else some (val t r s k) := by
  rw [look_last hn]
  unfold val
  cases look t k with
  | none => simp
  | some v => rfl
theorem sub_len {α : Type} [BEq α] [LawfulBEq α] : ∀ {a b : List α}, a.Nodup → (∀ x ∈ a, x ∈ b) → a.length ≤ b.length
  | [], _, _, _ => Nat.zero_le _
  | x :: a, b, hn, h => by
    have hx := h x (List.mem_cons_self ..)
    rw [List.nodup_cons] at hn
    have ih := sub_len (a := a) (b := b.erase x) hn.2 fun y hy => (List.mem_erase_of_ne (fun z : y = x => hn.1 (by rw [← z]; exact hy))).mpr (h y (List.mem_cons_of_mem _ hy))
    rw [List.length_erase_of_mem hx] at ih
    have : 0 < b.length := List.length_pos_of_mem hx
    rw [List.length_cons]
    omega
theorem sub_all {α : Type} [BEq α] [LawfulBEq α] {a b : List α} (hn : a.Nodup) (h : ∀ x ∈ a, x ∈ b) (hl : b.length ≤ a.length) : ∀ x ∈ b, x ∈ a := fun x hx => by
  refine Classical.byContradiction fun hc => ?_
  have := sub_len (a := a) (b := b.erase x) hn fun y hy => (List.mem_erase_of_ne (fun z : y = x => hc (by rw [← z]; exact hy))).mpr (h y hy)
  rw [List.length_erase_of_mem hx] at this
  have : 0 < b.length := List.length_pos_of_mem hx
  omega
theorem same_iff {a b : Tab} (ha : (a.map (·.1)).Nodup) (hb : (b.map (·.1)).Nodup) : same a b = true ↔ ∀ k, look a k = look b k := by
  unfold same
  rw [Bool.and_eq_true, beq_iff_eq, List.all_eq_true]
  constructor
  · rintro ⟨hl, hh⟩ k
    have hit_ : ∀ q ∈ a, look b q.1 = some q.2 := fun q hq => by
      have := hh q hq
      unfold hit at this
      cases e : look b q.1 with
      | none => rw [e] at this; cases this
      | some w => rw [e] at this; rw [beq_iff_eq.mp this]
    cases e : look a k with
    | some v => exact (hit_ (k, v) (look_mem e)).symm
    | none =>
      cases e2 : look b k with
      | none => rfl
      | some w =>
        have sub : ∀ x ∈ a.map (·.1), x ∈ b.map (·.1) := fun x hx => by
          obtain ⟨q, hq, rfl⟩ := List.mem_map.mp hx
          exact List.mem_map.mpr ⟨_, look_mem (hit_ q hq), rfl⟩
        have := sub_all ha sub (by simp [hl]) k (List.mem_map.mpr ⟨_, look_mem e2, rfl⟩)
        obtain ⟨q, hq, rfl⟩ := List.mem_map.mp this
        rw [look_of ha hq] at e
        cases e
  · intro h
    have sub : ∀ {x y : Tab}, (x.map (·.1)).Nodup → (∀ k, look x k = look y k) → ∀ k ∈ x.map (·.1), k ∈ y.map (·.1) := fun {x y} hx h k hk => by
      obtain ⟨q, hq, rfl⟩ := List.mem_map.mp hk
      have e := look_of hx hq
      rw [h] at e
      exact List.mem_map.mpr ⟨_, look_mem e, rfl⟩
    refine ⟨?_, fun q hq => ?_⟩
    · have h1 := sub_len ha (sub ha h)
      have h2 := sub_len hb (sub hb fun k => (h k).symm)
      simp only [List.length_map] at h1 h2
      omega
    · unfold hit
      rw [← h, look_of ha hq]
      simp
theorem eqA_same {n : Nat} {t t' : Tab} {r s r' s' : Int} (h : OkT n t) (h' : OkT n t') : eqA t r s t' r' s' = sameC t r s t' r' s' := by
  unfold eqA sameC
  cases e : (r == r' && s == s') with
  | false => rfl
  | true =>
    rw [Bool.and_eq_true, beq_iff_eq, beq_iff_eq] at e
    obtain ⟨rfl, rfl⟩ := e
    rw [Bool.true_and, Bool.true_and, Bool.eq_iff_iff, same_iff (h.last r s).nd (h'.last r s).nd, List.all_eq_true]
    constructor
    · intro q k _
      rw [val_last h.nd, val_last h'.nd, q, beq_self_eq_true]
    · intro q k
      by_cases hk : k ∈ (t.map (·.1)) ++ (t'.map (·.1))
      · rw [last_val h.nd, last_val h'.nd, beq_iff_eq.mp (q k hk)]
      · have h1 : look t k = none := look_none fun z => hk (List.mem_append_left _ z)
        have h2 : look t' k = none := look_none fun z => hk (List.mem_append_right _ z)
        rw [look_last h.nd, look_last h'.nd, h1, h2]
end K22
namespace K22
open PySem PySem.Spec PyProof.Rows L2 L2.Dn
/-! ### draws -/
theorem tkd {cs : List PyData} {C : Cell} {J L : List Cell} {ρ : Rho} {j : Nat} (n : Int) (hC : bagsOk cs C) (hρ : ρ[j]? = some (some (.cell (.g 0)))) (h0 : 0 < n) (h1 : n < 2 ^ 64) :
    ∃ r C', 0 ≤ r ∧ r < n ∧ bagsOk cs C' ∧ callE den__law_take (consA (vE j) (consA (cE (.int n)) nilA)) ρ ⟨C :: J, L⟩ = .ok (.p (.int r)) ⟨C' :: J, L⟩ := by
  obtain ⟨r, C', k1, k2, k3, k4⟩ := take_ok (g := J) hC h0 h1
  refine ⟨r, C', k1, k2, k3, ?_⟩
  have e : den__law_take [.cell (.g 0), .p (.int n)] (C :: J) = .ok (.p (.int r)) (C' :: J) := k4
  simp only [callE, consA, nilA, vE, hρ, cE, bind_ok, callR]
  rw [if_pos (by rfl), e]
  rfl
section
variable {ρ : Rho} {m m1 m2 : Store}
theorem consA_ok {f : FE} {g : Rho → Store → Res (List D)} {a : D} {as : List D} (h1 : f ρ m = .ok a m1) (h2 : g ρ m1 = .ok as m2) : consA f g ρ m = .ok (a :: as) m2 := by simp only [consA, h1, bind_ok, h2]
theorem lst_ok {g : Rho → Store → Res (List D)} {ps : List PyData} (h : g ρ m = .ok (ps.map D.p) m1) (hl : ps.length ≤ 100) : lstE .z g ρ m = .ok (.p (.list ps)) m1 := by
  have : (ps.map D.p).length ≤ sizeLine := by
    rw [sizeLine_eq, List.length_map]
    omega
  simp only [lstE, h, bind_ok, if_pos this, newL, mkLst_p]
theorem tup_ok {g : Rho → Store → Res (List D)} {ps : List PyData} (h : g ρ m = .ok (ps.map D.p) m1) (hl : ps.length ≤ 100) : tupE g ρ m = .ok (.p (.tuple ps)) m1 := by
  have : (ps.map D.p).length ≤ sizeLine := by
    rw [sizeLine_eq, List.length_map]
    omega
  simp only [tupE, h, bind_ok, if_pos this, mkTup_p]
theorem ix_ok {fa fb : FE} {ps : List PyData} {r : Int} {x : PyData} (h1 : fa ρ m = .ok (.p (.list ps)) m1) (h2 : fb ρ m1 = .ok (.p (.int r)) m2) (h0 : 0 ≤ r) (e : ps[r.toNat]? = some x) : opE ixG fa fb ρ m = .ok (.p x) m2 := by
  simp only [opE_eq, h1, h2, bind_ok, ixG_list h0 e, lift_some]
theorem rng_ok {fl : Rho → Store → Res (List D)} {r : Int} (h : fl ρ m = .ok [.p (.int r)] m1) (h0 : 0 ≤ r) (h1 : r < 1000) : rng1I fl ρ m = .ok (rngL 0 r.toNat) m1 := by
  simp only [rng1I, h, bind_ok]
  rw [if_pos ⟨by omega, by omega⟩]
end
theorem at_of {α : Type} {xs : List α} {r : Int} (h0 : 0 ≤ r) (h1 : r < xs.length) : ∃ x, xs[r.toNat]? = some x ∧ x ∈ xs := by
  have : r.toNat < xs.length := by omega
  exact ⟨xs[r.toNat], List.getElem?_eq_getElem this, List.getElem_mem this⟩
theorem rng_len (n : Nat) : (rngL 0 n).length = n := by simp [rngL]
theorem ints_of {P : Int → Prop} : ∀ {ys : List D}, (∀ y ∈ ys, ∃ i : Int, y = .p (.int i) ∧ P i) → ∃ xs : List Int, ys = (xs.map PyData.int).map D.p ∧ (∀ x ∈ xs, P x) ∧ xs.length = ys.length
  | [], _ => ⟨[], rfl, by simp, rfl⟩
  | y :: ys, h => by
    obtain ⟨x, e, hx⟩ := h y (List.mem_cons_self ..)
    obtain ⟨xs, k1, k2, k3⟩ := ints_of (ys := ys) fun z hz => h z (List.mem_cons_of_mem _ hz)
    refine ⟨x :: xs, by rw [e, k1]; rfl, ?_, by simp [k3]⟩
    intro z hz
    rcases List.mem_cons.mp hz with q | hz
    · rw [q]; exact hx
    · exact k2 z hz
theorem in_all {as : List Int} {n : Int} (h : ∀ a ∈ as, a ∈ args1) (hl : as.length ≤ 3) (hn : n ∈ manys) : (as, n) ∈ allKy := by
  have key : as ∈ allArgs := by
    match as, hl with
    | [], _ => decide
    | [a], _ =>
      have := h a (by simp)
      simp only [args1, List.mem_cons, List.not_mem_nil, or_false] at this
      rcases this with rfl | rfl | rfl <;> decide
    | [a, b], _ =>
      have h1 := h a (by simp)
      have h2 := h b (by simp)
      simp only [args1, List.mem_cons, List.not_mem_nil, or_false] at h1 h2
      rcases h1 with rfl | rfl | rfl <;> rcases h2 with rfl | rfl | rfl <;> decide
    | [a, b, c], _ =>
      have h1 := h a (by simp)
      have h2 := h b (by simp)
      have h3 := h c (by simp)
      simp only [args1, List.mem_cons, List.not_mem_nil, or_false] at h1 h2 h3
      rcases h1 with rfl | rfl | rfl <;> rcases h2 with rfl | rfl | rfl <;> rcases h3 with rfl | rfl | rfl <;> decide
  exact List.mem_flatMap.mpr ⟨as, key, List.mem_map.mpr ⟨n, hn, rfl⟩⟩
def manyL : List PyData := [.int 0, .int 0, .int 1, .int 2, .int (10 ^ 30)]
theorem manyL_ok : ∀ p ∈ manyL, ∃ i, p = .int i ∧ i ∈ manys :=
  fcons ⟨0, rfl, by decide⟩ (fcons ⟨0, rfl, by decide⟩ (fcons ⟨1, rfl, by decide⟩ (fcons ⟨2, rfl, by decide⟩ (fcons ⟨_, rfl, by decide⟩ (fun x hx => (by cases hx))))))
theorem asked_den {cs : List PyData} {C : Cell} {J : List Cell} (hC : bagsOk cs C) : ∃ k C', k ∈ allKy ∧ bagsOk cs C' ∧ den__law_asked_of [.cell (.g 0)] (C :: J) = .ok (.p (kd k)) (C' :: J) := by
  obtain ⟨n, C1, n0, n1, b1, e1⟩ := tkd (J := J) (L := []) (ρ := [some (.cell (.g 0)), none]) (j := 0) 4 hC rfl (by decide) (by decide)
  have rg := rng_ok (fl := consA (callE den__law_take (consA (vE 0) (consA (cE (.int 4)) nilA))) nilA) (ρ := [some (.cell (.g 0)), none]) (m := ⟨C :: J, []⟩) (consA_ok e1 rfl) n0 (by omega)
  obtain ⟨ys, m', l1, ⟨C2, rfl, b2⟩, l3, l4⟩ := lcM_inv (g := oneG 1) (t := yesT) (fe := opE subI (callE den__law_take (consA (vE 0) (consA (cE (.int 3)) nilA))) (cE (.int 1))) (ρ := [some (.cell (.g 0)), none]) (I := fun m => ∃ C, m = ⟨C :: J, []⟩ ∧ bagsOk cs C) (P := fun y => ∃ i : Int, y = .p (.int i) ∧ i ∈ args1)
    (ds := rngL 0 n.toNat) (m := ⟨C1 :: J, []⟩) ⟨C1, rfl, b1⟩ (by
      rintro d hd m ⟨C, rfl, hC⟩
      obtain ⟨q, C', q0, q1, b, e⟩ := tkd (J := J) (L := []) (ρ := [some (.cell (.g 0)), some d]) (j := 0) 3 hC rfl (by decide) (by decide)
      refine ⟨[some (.cell (.g 0)), some d], .p (.int (q - 1)), _, rfl, rfl, ?_, ⟨C', rfl, b⟩, q - 1, rfl, ?_⟩
      · simp only [opE_eq, e, cE, bind_ok, subI_int, lift_some]
      · obtain rfl | rfl | rfl : q = 0 ∨ q = 1 ∨ q = 2 := by omega
        all_goals decide)
  obtain ⟨as, a1, a2, a3⟩ := ints_of l3
  rw [rng_len] at l4
  have hz : (rngL 0 n.toNat).length ≤ sizeLine := by rw [rng_len, sizeLine_eq]; omega
  have lc : lcE .z [1] (rng1I (consA (callE den__law_take (consA (vE 0) (consA (cE (.int 4)) nilA))) nilA)) (oneG 1) yesT (opE subI (callE den__law_take (consA (vE 0) (consA (cE (.int 3)) nilA))) (cE (.int 1))) [some (.cell (.g 0)), none] ⟨C :: J, []⟩ = .ok (.p (.list (as.map .int))) ⟨C2 :: J, []⟩ := by
    simp only [lcE, rg, bind_ok, if_pos hz, wipeR, List.set_cons_zero, List.set_cons_succ, l1, newL, a1, mkLst_p]
  obtain ⟨q, C3, q0, q1, b3, e3⟩ := tkd (J := J) (L := []) (ρ := [some (.cell (.g 0)), none]) (j := 0) 5 b2 rfl (by decide) (by decide)
  obtain ⟨p, p1, p2⟩ := at_of (xs := manyL) q0 q1
  obtain ⟨i, rfl, hi⟩ := manyL_ok p p2
  have ix : opE ixG (lstE .z (consA (cE (.int 0)) (consA (cE (.int 0)) (consA (cE (.int 1)) (consA (cE (.int 2)) (consA (opE powI (cE (.int 10)) (cE (.int 30))) nilA)))))) (callE den__law_take (consA (vE 0) (consA (cE (.int 5)) nilA))) [some (.cell (.g 0)), none] ⟨C2 :: J, []⟩ = .ok (.p (.int i)) ⟨C3 :: J, []⟩ :=
    ix_ok (ps := manyL) rfl e3 q0 p1
  refine ⟨(as, i), C3, in_all a2 (by omega) hi, b3, ?_⟩
  rw [eq__law_asked_of]
  unfold body__law_asked_of
  have tp : tupE (consA (calE tupleD (consA (lcE .z [1] (rng1I (consA (callE den__law_take (consA (vE 0) (consA (cE (.int 4)) nilA))) nilA)) (oneG 1) yesT (opE subI (callE den__law_take (consA (vE 0) (consA (cE (.int 3)) nilA))) (cE (.int 1)))) nilA)) (consA (opE ixG (lstE .z (consA (cE (.int 0)) (consA (cE (.int 0)) (consA (cE (.int 1)) (consA (cE (.int 2)) (consA (opE powI (cE (.int 10)) (cE (.int 30))) nilA)))))) (callE den__law_take (consA (vE 0) (consA (cE (.int 5)) nilA)))) nilA)) [some (.cell (.g 0)), none] ⟨C :: J, []⟩ = .ok (.p (kd (as, i))) ⟨C3 :: J, []⟩ := by
    refine tup_ok (ps := [.tuple (as.map .int), .int i]) (consA_ok (m1 := ⟨C2 :: J, []⟩) ?_ (consA_ok ix rfl)) (by simp)
    simp only [calE, consA, nilA, lc, bind_ok, tupleD_list, lift_some]
  simp only [retS, tp, bindS_ok, fin_rt]
theorem asked_call {cs : List PyData} {C : Cell} {J L : List Cell} {ρ : Rho} {j : Nat} (hC : bagsOk cs C) (hρ : ρ[j]? = some (some (.cell (.g 0)))) : ∃ k C', k ∈ allKy ∧ bagsOk cs C' ∧ callE den__law_asked_of (consA (vE j) nilA) ρ ⟨C :: J, L⟩ = .ok (.p (kd k)) ⟨C' :: J, L⟩ := by
  obtain ⟨k, C', h1, h2, h3⟩ := asked_den (J := J) hC
  refine ⟨k, C', h1, h2, ?_⟩
  simp only [callE, consA, nilA, vE, hρ, bind_ok, callR]
  rw [if_pos (by rfl), h3]
  rfl
end K22
namespace K22
open PySem PySem.Spec PyProof.Rows L2 L2.Dn
theorem forS_cnt {g : FG} {body : FS} {R : Nat → Rho → Store → Prop} : ∀ {ds : List D} {n : Nat} {ρ : Rho} {m : Store}, R n ρ m → (∀ d ∈ ds, ∀ k, n ≤ k → k < n + ds.length → ∀ ρ m, R k ρ m → ∃ ρ' m', (g d ρ m).seq body = .nx ρ' m' ∧ R (k + 1) ρ' m') → ∃ ρ' m', forS g body ds ρ m = .nx ρ' m' ∧ R (n + ds.length) ρ' m'
  | [], n, ρ, m, hR, _ => ⟨ρ, m, rfl, hR⟩
  | d :: ds, n, ρ, m, hR, h => by
    obtain ⟨ρ1, m1, h1, h2⟩ := h d (List.mem_cons_self ..) n (Nat.le_refl _) (by simp) ρ m hR
    obtain ⟨ρ2, m2, k1, k2⟩ := forS_cnt (ds := ds) h2 fun x hx k hk1 hk2 => h x (List.mem_cons_of_mem _ hx) k (by omega) (by simp only [List.length_cons]; omega)
    refine ⟨ρ2, m2, ?_, ?_⟩
    · unfold forS
      rw [h1]
      exact k1
    · rw [show n + (d :: ds).length = n + 1 + ds.length by simp only [List.length_cons]; omega]
      exact k2
/-! ### a case -/
def baseL : List PyData := [.int 0, .int 0, .int 5, .int (-3), .int (10 ^ 39)]
def paceL : List PyData := [.int 0, .int 0, .int 1, .int (-2), .int (10 ^ 9)]
theorem baseL_ok : ∀ p ∈ baseL, ∃ i : Int, p = .int i ∧ i.natAbs ≤ 10 ^ 39 :=
  fcons ⟨0, rfl, by decide⟩ (fcons ⟨0, rfl, by decide⟩ (fcons ⟨5, rfl, by decide⟩ (fcons ⟨-3, rfl, by decide⟩ (fcons ⟨_, rfl, by decide⟩ (fun x hx => (by cases hx))))))
theorem paceL_ok : ∀ p ∈ paceL, ∃ i : Int, p = .int i ∧ i.natAbs ≤ 10 ^ 9 :=
  fcons ⟨0, rfl, by decide⟩ (fcons ⟨0, rfl, by decide⟩ (fcons ⟨1, rfl, by decide⟩ (fcons ⟨-2, rfl, by decide⟩ (fcons ⟨_, rfl, by decide⟩ (fun x hx => (by cases hx))))))
/-- what a case is made of -/
structure Cs (n : Nat) (t : Tab) (r s : Int) : Prop where
  t : OkT n t
  r : okR r
  s : okS s
def caseB : FS := (seqS (setS 5 (callE den__law_asked_of (consA (vE 0) nilA)))
  (asgS (opE ixG (lstE .z (consA (opE (addD .z) (vE 1) (opE (mulG .z) (vE 2) (opE ixG (vE 5) (cE (.int 1))))) (consA (cE (.int 0)) (consA (cE (.int 1)) (consA (cE (.int 7)) (consA (unE negI (opE powI (cE (.int 10)) (cE (.int 39)))) nilA)))))) (callE den__law_take (consA (vE 0) (consA (cE (.int 5)) nilA)))) (subG setG (vE 3) (vE 5))))
theorem caseB_ok {cs : List PyData} {C : Cell} {J : List Cell} {n : Nat} {t : Tab} {r s : Int} {o4 o5 : Option D} (hC : bagsOk cs C) (h : Cs n t r s) (hn : n ≤ 500) :
    ∃ C' t' o5', bagsOk cs C' ∧ Cs (n + 1) t' r s ∧ caseB [some (.cell (.g 0)), some (.p (.int r)), some (.p (.int s)), some (.cell (.l 0)), o4, o5] ⟨C :: J, [.dct (pd t)]⟩ = .nx [some (.cell (.g 0)), some (.p (.int r)), some (.p (.int s)), some (.cell (.l 0)), o4, o5'] ⟨C' :: J, [.dct (pd t')]⟩ := by
  obtain ⟨k, C1, hk, b1, e1⟩ := asked_call (J := J) (L := [.dct (pd t)]) (ρ := [some (.cell (.g 0)), some (.p (.int r)), some (.p (.int s)), some (.cell (.l 0)), o4, o5]) (j := 0) hC rfl
  obtain ⟨q, C2, q0, q1, b2, e2⟩ := tkd (J := J) (L := [.dct (pd t)]) (ρ := [some (.cell (.g 0)), some (.p (.int r)), some (.p (.int s)), some (.cell (.l 0)), o4, some (.p (kd k))]) (j := 0) 5 b1 rfl (by decide) (by decide)
  have ls : lstE .z (consA (opE (addD .z) (vE 1) (opE (mulG .z) (vE 2) (opE ixG (vE 5) (cE (.int 1))))) (consA (cE (.int 0)) (consA (cE (.int 1)) (consA (cE (.int 7)) (consA (unE negI (opE powI (cE (.int 10)) (cE (.int 39)))) nilA))))) [some (.cell (.g 0)), some (.p (.int r)), some (.p (.int s)), some (.cell (.l 0)), o4, some (.p (kd k))] ⟨C1 :: J, [.dct (pd t)]⟩ = .ok (.p (.list [.int (r + s * k.2), .int 0, .int 1, .int 7, .int (-(10 ^ 39))])) ⟨C1 :: J, [.dct (pd t)]⟩ := by
    refine lst_ok (ps := [.int (r + s * k.2), .int 0, .int 1, .int 7, .int (-(10 ^ 39))]) (consA_ok (m1 := ⟨C1 :: J, [.dct (pd t)]⟩) ?_ rfl) (by simp)
    simp only [opE_eq, vE_0, vE_s, cE, bind_ok, kd1, lift_some, mul_l (small_s h.s), addD_int]
  obtain ⟨p, p1, p2⟩ := at_of (xs := [PyData.int (r + s * k.2), .int 0, .int 1, .int 7, .int (-(10 ^ 39))]) q0 q1
  obtain ⟨v, rfl, hv⟩ : ∃ v, p = .int v ∧ big v := by
    simp only [List.mem_cons, List.not_mem_nil, or_false] at p2
    rcases p2 with rfl | rfl | rfl | rfl | rfl
    · exact ⟨_, rfl, dflt_big h.r h.s hk⟩
    · exact ⟨_, rfl, by unfold big; decide⟩
    · exact ⟨_, rfl, by unfold big; decide⟩
    · exact ⟨_, rfl, by unfold big; decide⟩
    · exact ⟨_, rfl, by unfold big; decide⟩
  have ix := ix_ok ls e2 q0 p1
  have st := set_dct (i := .l 0) (m := ⟨C2 :: J, [.dct (pd t)]⟩) (k := k) (v := v) h.t (by omega) hk rfl
  refine ⟨C2, put t k v, some (.p (kd k)), b2, ⟨h.t.put hk hv, h.r, h.s⟩, ?_⟩
  unfold caseB
  simp only [seqS, setS, e1, bindS_ok, seq_nx, List.set_cons_zero, List.set_cons_succ, asgS, ix, subG, vE_0, vE_s, st]
  rfl
theorem case_den {cs : List PyData} {C : Cell} {J : List Cell} (hC : bagsOk cs C) : ∃ t r s C', Cs 8 t r s ∧ r.natAbs ≤ 10 ^ 39 ∧ s.natAbs ≤ 10 ^ 9 ∧ bagsOk cs C' ∧ den__law_case [.cell (.g 0)] (C :: J) = .ok (CO t r s) (C' :: J) := by
  obtain ⟨q1, C1, q10, q11, b1, e1⟩ := tkd (J := J) (L := []) (ρ := [some (.cell (.g 0)), none, none, none, none, none]) (j := 0) 5 hC rfl (by decide) (by decide)
  obtain ⟨p1, p11, p12⟩ := at_of (xs := baseL) q10 q11
  obtain ⟨r, rfl, hr⟩ := baseL_ok p1 p12
  obtain ⟨q2, C2, q20, q21, b2, e2⟩ := tkd (J := J) (L := []) (ρ := [some (.cell (.g 0)), some (.p (.int r)), none, none, none, none]) (j := 0) 5 b1 rfl (by decide) (by decide)
  obtain ⟨p2, p21, p22⟩ := at_of (xs := paceL) q20 q21
  obtain ⟨s, rfl, hs⟩ := paceL_ok p2 p22
  obtain ⟨q3, C3, q30, q31, b3, e3⟩ := tkd (J := J) (L := [.dct (pd [])]) (ρ := [some (.cell (.g 0)), some (.p (.int r)), some (.p (.int s)), some (.cell (.l 0)), none, none]) (j := 0) 9 b2 rfl (by decide) (by decide)
  have hR : okR r := by unfold okR; omega
  have hS : okS s := by unfold okS; omega
  have s1 := ix_ok (ps := baseL) (fa := lstE .z (consA (cE (.int 0)) (consA (cE (.int 0)) (consA (cE (.int 5)) (consA (unE negI (cE (.int 3))) (consA (opE powI (cE (.int 10)) (cE (.int 39))) nilA)))))) rfl e1 q10 p11
  have s2 := ix_ok (ps := paceL) (fa := lstE .z (consA (cE (.int 0)) (consA (cE (.int 0)) (consA (cE (.int 1)) (consA (unE negI (cE (.int 2))) (consA (opE powI (cE (.int 10)) (cE (.int 9))) nilA)))))) rfl e2 q20 p21
  have rg := rng_ok (consA_ok (g := nilA) e3 rfl) q30 (by omega)
  obtain ⟨ρ', m', f1, o4, o5, C4, t, rfl, rfl, f2, f3⟩ := forS_cnt (g := nameG 4) (body := caseB) (ds := rngL 0 q3.toNat) (n := 0) (ρ := [some (.cell (.g 0)), some (.p (.int r)), some (.p (.int s)), some (.cell (.l 0)), none, none]) (m := ⟨C3 :: J, [.dct (pd [])]⟩)
    (R := fun n ρ m => ∃ o4 o5 C t, ρ = [some (.cell (.g 0)), some (.p (.int r)), some (.p (.int s)), some (.cell (.l 0)), o4, o5] ∧ m = ⟨C :: J, [.dct (pd t)]⟩ ∧ bagsOk cs C ∧ Cs n t r s)
    ⟨none, none, C3, [], rfl, rfl, b3, OkT.nil 0, hR, hS⟩ (by
      rintro d hd n _ hn ρ m ⟨o4, o5, C, t, rfl, rfl, hC, h⟩
      rw [rng_len] at hn
      obtain ⟨C', t', o5', h1, h2, h3⟩ := caseB_ok (J := J) (o4 := some d) (o5 := o5) hC h (by omega)
      exact ⟨_, _, h3, _, _, C', t', rfl, rfl, h1, h2⟩)
  rw [rng_len] at f3
  refine ⟨t, r, s, C4, ⟨f3.t.le (by omega), hR, hS⟩, hr, hs, f2, ?_⟩
  rw [eq__law_case]
  change fin (seqS (setS 1 (opE ixG (lstE .z (consA (cE (.int 0)) (consA (cE (.int 0)) (consA (cE (.int 5)) (consA (unE negI (cE (.int 3))) (consA (opE powI (cE (.int 10)) (cE (.int 39))) nilA)))))) (callE den__law_take (consA (vE 0) (consA (cE (.int 5)) nilA)))))
    (seqS (parS 2 3 (consA (opE ixG (lstE .z (consA (cE (.int 0)) (consA (cE (.int 0)) (consA (cE (.int 1)) (consA (unE negI (cE (.int 2))) (consA (opE powI (cE (.int 10)) (cE (.int 9))) nilA)))))) (callE den__law_take (consA (vE 0) (consA (cE (.int 5)) nilA)))) (consA (dct0E .l) nilA)))
    (seqS (forE (rng1I (consA (callE den__law_take (consA (vE 0) (consA (cE (.int 9)) nilA))) nilA)) (nameG 4) caseB) (retS (tupE (consA (frzE (vE 3)) (consA (vE 1) (consA (vE 2) nilA))))))) [some (.cell (.g 0)), none, none, none, none, none] ⟨C :: J, []⟩) = _
  have s3 : parS 2 3 (consA (opE ixG (lstE .z (consA (cE (.int 0)) (consA (cE (.int 0)) (consA (cE (.int 1)) (consA (unE negI (cE (.int 2))) (consA (opE powI (cE (.int 10)) (cE (.int 9))) nilA)))))) (callE den__law_take (consA (vE 0) (consA (cE (.int 5)) nilA)))) (consA (dct0E .l) nilA)) [some (.cell (.g 0)), some (.p (.int r)), none, none, none, none] ⟨C1 :: J, []⟩ = .nx [some (.cell (.g 0)), some (.p (.int r)), some (.p (.int s)), some (.cell (.l 0)), none, none] ⟨C2 :: J, [.dct (pd [])]⟩ := by
    simp only [parS, consA_ok s2 (consA_ok (f := dct0E .l) (g := nilA) (a := .cell (.l 0)) (m1 := ⟨C2 :: J, [.dct (pd [])]⟩) rfl rfl), bindS_ok]
    rfl
  simp only [seqS, setS, s1, bindS_ok, seq_nx, List.set_cons_zero, List.set_cons_succ, s3, forE, rg, f1, retS]
  have ff : tupE (consA (frzE (vE 3)) (consA (vE 1) (consA (vE 2) nilA))) [some (.cell (.g 0)), some (.p (.int r)), some (.p (.int s)), some (.cell (.l 0)), o4, o5] ⟨C4 :: J, [.dct (pd t)]⟩ = .ok (CO t r s) ⟨C4 :: J, [.gone]⟩ := by
    refine tup_ok (ps := [td t, .int r, .int s]) (consA_ok (m1 := ⟨C4 :: J, [.gone]⟩) ?_ rfl) (by simp)
    simp only [frzE, vE_0, vE_s, frzR, lat, List.getElem?_cons_zero, frzC, mkDct_pd]
    rfl
  rw [ff]
  rfl
end K22
namespace K22
open PySem PySem.Spec PyProof.Rows L2 L2.Dn
/-! ### Answers of a case, of a dict that is changed then -/
abbrev k99 : Ky := ([9, 9], 9)
theorem key99 : keyK (.p (kd k99)) = some (kn k99) := rfl
theorem set99 {i : Ix} {m : Store} (e : m.at_ i = some (.dct [])) : setG (.cell i) (.p (kd k99)) (.p (.int 99)) m = some (m.set (.dct (pd [(k99, 99)])) i) := by
  have e1 : setItemD (.cell i) (.p (kd k99)) (.p (.int 99)) m = none := by
    unfold setItemD
    split
    · rename_i x j q1 q2
      cases q1
      rw [e]
    · rfl
  have e3 : ([] : List (PyData × D)).length < sizeLine := by rw [sizeLine_eq]; decide
  simp only [setG, e1, setItemDc, e, key99, if_pos (And.intro e3 okIn_p)]
  rfl
theorem tup99 {ρ : Rho} {m : Store} : tupE (consA (tupE (consA (cE (.int 9)) (consA (cE (.int 9)) nilA))) (consA (cE (.int 9)) nilA)) ρ m = .ok (.p (kd k99)) m := rfl
/-- cleared, and another thing put in -/
def spoilS (j : Nat) (k : FS) : FS := seqS (exprS (dmE clearD (vE j) nilA)) (seqS (asgS (cE (.int 99)) (subG setG (vE j) (tupE (consA (tupE (consA (cE (.int 9)) (consA (cE (.int 9)) nilA))) (consA (cE (.int 9)) nilA))))) k)
theorem spoil_ok {j i n : Nat} {t : Tab} {ρ : Rho} {G l : List Cell} {k : FS} (hρ : ρ[j]? = some (some (.cell (.g i)))) (h : OkT n t) (hn : n ≤ 1000) (e : G[i]? = some (.dct (pd t))) : spoilS j k ρ ⟨G, l⟩ = k ρ ⟨G.set i (.dct (pd [(k99, 99)])), l⟩ := by
  have v : ∀ m : Store, vE j ρ m = .ok (.cell (.g i)) m := fun m => by unfold vE; rw [hρ]
  have d1 : dctOf (.cell (.g i)) ⟨G, l⟩ = some (pd t) := by simp only [dctOf, dctZ, gat, e]
  have c1 : clearD (.cell (.g i)) [] ⟨G, l⟩ = some (.p .none, ⟨G.set i (.dct []), l⟩) := by
    simp only [clearD, gat, e, if_pos (pd_small h hn), gset]
  have e2 : (G.set i (.dct []))[i]? = some (.dct []) := by rw [List.getElem?_set_self (List.getElem?_eq_some_iff.mp e).1]
  have s1 := set99 (i := .g i) (m := ⟨G.set i (.dct []), l⟩) e2
  unfold spoilS
  simp only [seqS, exprS, dmE, v, bind_ok, d1, Option.isSome_some, if_true, nilA, c1, lift_some, bindS_ok, seq_nx, asgS, cE, subG, tup99, s1, gset, List.set_set]
theorem same_nil {t : Tab} : same t [] = decide (t = []) := by
  unfold same
  cases t with
  | nil => rfl
  | cons q t => simp
theorem same_self {t : Tab} (hn : (t.map (·.1)).Nodup) : same t t = true := (same_iff hn hn).mpr fun _ => rfl
def madeI : FS := ifS (andT (testE (opE (eqH false []) (slE (slD .z) (vE 1) (someO (cE (.int 1))) noO) (tupE (consA (cE (.int 0)) (consA (cE (.int 0)) nilA))))) (testE (opE (eqH false []) (callE den__law_take (consA (vE 0) (consA (cE (.int 2)) nilA))) (cE (.int 0))))) (setS 3 (makeE "Answers" den_Answers___init__ 1 0 gd_Answers_1_ (consA (vE 2) nilA) nilA)) (ifS (testE (opE (eqH false []) (vE 2) (dct0E .z))) (setS 3 (makeE "Answers" den_Answers___init__ 0 2 gd_Answers_0_rest_step nilA (consA (opE ixG (vE 1) (cE (.int 1))) (consA (opE ixG (vE 1) (cE (.int 2))) nilA)))) (setS 3 (makeE "Answers" den_Answers___init__ 1 2 gd_Answers_1_step_rest (consA (vE 2) nilA) (consA (opE ixG (vE 1) (cE (.int 2))) (consA (opE ixG (vE 1) (cE (.int 1))) nilA)))))
theorem made_second {n : Nat} {t : Tab} {r s : Int} {J : List Cell} {C : Cell} (h : Cs n t r s) (hn : n ≤ 500) :
    ifS (testE (opE (eqH false []) (vE 2) (dct0E .z))) (setS 3 (makeE "Answers" den_Answers___init__ 0 2 gd_Answers_0_rest_step nilA (consA (opE ixG (vE 1) (cE (.int 1))) (consA (opE ixG (vE 1) (cE (.int 2))) nilA)))) (setS 3 (makeE "Answers" den_Answers___init__ 1 2 gd_Answers_1_step_rest (consA (vE 2) nilA) (consA (opE ixG (vE 1) (cE (.int 2))) (consA (opE ixG (vE 1) (cE (.int 1))) nilA)))) [some (.cell (.g 0)), some (CO t r s), some (.cell (.g (J.length + 1))), none] ⟨C :: (J ++ [.dct (pd t)]), []⟩
      = .nx [some (.cell (.g 0)), some (CO t r s), some (.cell (.g (J.length + 1))), some (AO t r s)] ⟨C :: (J ++ [.dct (pd t)]) ++ [.gone], []⟩ := by
  have ha : (C :: (J ++ [.dct (pd t)]))[J.length + 1]? = some (.dct (pd t)) := by simp
  have q1 : eqH false [] (.cell (.g (J.length + 1))) (.p (.dict [])) ⟨C :: (J ++ [.dct (pd t)]), []⟩ = some (.p (.bool (decide (t = []))), ⟨C :: (J ++ [.dct (pd t)]), []⟩) := by
    have z := eqH_cell (neg := false) (l := []) (a := t) (b := []) (i := .g (J.length + 1)) (y := .p (td [])) (m := ⟨C :: (J ++ [Cell.dct (pd t)]), []⟩) ha (dctOf_td [] _)
    rw [same_nil] at z
    exact z
  have d0 : ∀ ρ m, dct0E .z ρ m = .ok (.p (.dict [])) m := fun _ _ => rfl
  simp only [ifS, testE, opE_eq (eqH false []), vE_0, vE_s, bind_ok, d0, q1, lift_some, testR_ok, bindS_ok]
  by_cases ht : t = []
  · subst ht
    have mk := make_ok (d := .p .none) (r := r) (s := s) (G := C :: (J ++ [.dct (pd [])])) (l := []) h.t (by omega) (told_none _)
    have ar : ∀ a : D, gd_Answers_0_rest_step [a] [.p (.int r), .p (.int s)] = [a, .p .none, .p (.int r), .p (.int s)] := fun _ => rfl
    simp only [decide_true, if_true, setS, makeE, nilA, consA, opE_eq, vE_0, vE_s, cE, bind_ok, co1, co2, lift_some, List.length_cons, List.length_nil, and_self, ar, mk, bindS_ok, List.set_cons_zero, List.set_cons_succ]
  · have mk := make_ok (d := .cell (.g (J.length + 1))) (r := r) (s := s) (G := C :: (J ++ [.dct (pd t)])) (l := []) h.t (by omega) (told_cell h.t (by omega) ha)
    have ar : ∀ a : D, gd_Answers_1_step_rest [a, .cell (.g (J.length + 1))] [.p (.int s), .p (.int r)] = [a, .cell (.g (J.length + 1)), .p (.int r), .p (.int s)] := fun _ => rfl
    simp only [decide_eq_false ht, Bool.false_eq_true, if_false, setS, makeE, nilA, consA, opE_eq, vE_0, vE_s, cE, bind_ok, co1, co2, lift_some, List.length_cons, List.length_nil, and_self, if_true, ar, mk, bindS_ok, List.set_cons_zero, List.set_cons_succ]
theorem madeI_ok {cs : List PyData} {n : Nat} {t : Tab} {r s : Int} {J : List Cell} {C : Cell} (hC : bagsOk cs C) (h : Cs n t r s) (hn : n ≤ 500) :
    ∃ C', bagsOk cs C' ∧ madeI [some (.cell (.g 0)), some (CO t r s), some (.cell (.g (J.length + 1))), none] ⟨C :: (J ++ [.dct (pd t)]), []⟩ = .nx [some (.cell (.g 0)), some (CO t r s), some (.cell (.g (J.length + 1))), some (AO t r s)] ⟨C' :: (J ++ [.dct (pd t)]) ++ [.gone], []⟩ := by
  have a1 : testE (opE (eqH false []) (slE (slD .z) (vE 1) (someO (cE (.int 1))) noO) (tupE (consA (cE (.int 0)) (consA (cE (.int 0)) nilA)))) [some (.cell (.g 0)), some (CO t r s), some (.cell (.g (J.length + 1))), none] ⟨C :: (J ++ [.dct (pd t)]), []⟩ = .ok (r == 0 && s == 0) ⟨C :: (J ++ [.dct (pd t)]), []⟩ := by
    have t0 : ∀ ρ m, tupE (consA (cE (.int 0)) (consA (cE (.int 0)) nilA)) ρ m = .ok (.p (.tuple [.int 0, .int 0])) m := fun _ _ => rfl
    simp only [testE, opE_eq, slE, vE_0, vE_s, someO, noO, cE, bind_ok, co_tail, lift_some, t0, eqH_G eqG_two, Bool.false_eq_true, if_false, testR_ok]
  cases e : (r == 0 && s == 0) with
  | false =>
    rw [e] at a1
    refine ⟨C, hC, ?_⟩
    have := made_second (J := J) (C := C) h hn
    unfold madeI
    rw [← this]
    simp only [ifS, andT, a1, bind_ok, Bool.false_eq_true, if_false, bindS_ok]
  | true =>
    rw [e] at a1
    obtain ⟨q, C1, q0, q1, b1, e1⟩ := tkd (J := J ++ [.dct (pd t)]) (L := []) (ρ := [some (.cell (.g 0)), some (CO t r s), some (.cell (.g (J.length + 1))), none]) (j := 0) 2 hC rfl (by decide) (by decide)
    have a2 : testE (opE (eqH false []) (callE den__law_take (consA (vE 0) (consA (cE (.int 2)) nilA))) (cE (.int 0))) [some (.cell (.g 0)), some (CO t r s), some (.cell (.g (J.length + 1))), none] ⟨C :: (J ++ [.dct (pd t)]), []⟩ = .ok (q == 0) ⟨C1 :: (J ++ [.dct (pd t)]), []⟩ := by
      have z : ∀ m : Store, cE (.int 0) [some (.cell (.g 0)), some (CO t r s), some (.cell (.g (J.length + 1))), none] m = .ok (.p (.int 0)) m := fun _ => rfl
      simp only [testE, opE_eq, e1, z, bind_ok, eqH_G (eqG_int ..), Bool.false_eq_true, if_false, lift_some, testR_ok]
    refine ⟨C1, b1, ?_⟩
    cases e2 : (q == 0) with
    | false =>
      rw [e2] at a2
      have := made_second (J := J) (C := C1) h hn
      unfold madeI
      rw [← this]
      simp only [ifS, andT, a1, a2, bind_ok, if_true, Bool.false_eq_true, if_false, bindS_ok]
    | true =>
      rw [e2] at a2
      rw [Bool.and_eq_true, beq_iff_eq, beq_iff_eq] at e
      obtain ⟨rfl, rfl⟩ := e
      have ha : (C1 :: (J ++ [.dct (pd t)]))[J.length + 1]? = some (.dct (pd t)) := by simp
      have mk := make_ok (d := .cell (.g (J.length + 1))) (r := 0) (s := 0) (G := C1 :: (J ++ [.dct (pd t)])) (l := []) h.t (by omega) (told_cell h.t (by omega) ha)
      have ar : ∀ a : D, gd_Answers_1_ [a, .cell (.g (J.length + 1))] [] = [a, .cell (.g (J.length + 1)), .p (.int 0), .p (.int 0)] := fun _ => rfl
      unfold madeI
      simp only [ifS, andT, a1, a2, bind_ok, if_true, bindS_ok, setS, makeE, nilA, consA, vE_0, vE_s, List.length_cons, List.length_nil, and_self, ar, mk, List.set_cons_zero, List.set_cons_succ]
theorem made_den {cs : List PyData} {n : Nat} {t : Tab} {r s : Int} {J : List Cell} {C : Cell} (hC : bagsOk cs C) (h : Cs n t r s) (hn : n ≤ 500) :
    ∃ C' J', bagsOk cs C' ∧ den__law_made [.cell (.g 0), CO t r s] (C :: J) = .ok (AO t r s) (C' :: J') := by
  obtain ⟨C1, b1, e1⟩ := madeI_ok (J := J) hC h hn
  have d1 := dictD_g (G := C :: J) (l := []) h.t (show n ≤ 1000 by omega) (dctOf_td t _)
  have ha : (C1 :: (J ++ [.dct (pd t)]) ++ [.gone])[J.length + 1]? = some (.dct (pd t)) := by simp
  refine ⟨C1, (J ++ [Cell.dct (pd t), Cell.gone]).set J.length (.dct (pd [(k99, 99)])), b1, ?_⟩
  rw [eq__law_made]
  change fin (seqS (setS 2 (calE (dictD .g) (consA (opE ixG (vE 1) (cE (.int 0))) nilA))) (seqS madeI (spoilS 2 (retS (vE 3)))) [some (.cell (.g 0)), some (CO t r s), none, none] ⟨C :: J, []⟩) = _
  have s1 : setS 2 (calE (dictD .g) (consA (opE ixG (vE 1) (cE (.int 0))) nilA)) [some (.cell (.g 0)), some (CO t r s), none, none] ⟨C :: J, []⟩ = .nx [some (.cell (.g 0)), some (CO t r s), some (.cell (.g (J.length + 1))), none] ⟨C :: (J ++ [.dct (pd t)]), []⟩ := by
    simp only [setS, calE, consA, nilA, opE_eq, vE_0, vE_s, cE, bind_ok, co0, lift_some, d1, bindS_ok, List.set_cons_zero, List.set_cons_succ, List.length_cons, List.cons_append]
  simp only [seqS, s1, seq_nx, e1]
  rw [spoil_ok (i := J.length + 1) (t := t) rfl h.t (by omega) ha]
  simp only [retS, vE_0, vE_s, bindS_ok, List.cons_append, List.append_assoc, List.nil_append, List.set_cons_succ]
  rfl
theorem made_call {cs : List PyData} {n : Nat} {t : Tab} {r s : Int} {J L : List Cell} {C : Cell} {ρ : Rho} {f1 f2 : FE} (hC : bagsOk cs C) (h : Cs n t r s) (hn : n ≤ 500) (h1 : f1 ρ ⟨C :: J, L⟩ = .ok (.cell (.g 0)) ⟨C :: J, L⟩) (h2 : f2 ρ ⟨C :: J, L⟩ = .ok (CO t r s) ⟨C :: J, L⟩) :
    ∃ C' J', bagsOk cs C' ∧ callE den__law_made (consA f1 (consA f2 nilA)) ρ ⟨C :: J, L⟩ = .ok (AO t r s) ⟨C' :: J', L⟩ := by
  obtain ⟨C1, J1, b1, e1⟩ := made_den (J := J) hC h hn
  refine ⟨C1, J1, b1, ?_⟩
  simp only [callE, consA, nilA, h1, h2, bind_ok, callR]
  rw [if_pos (by rfl), e1]
  rfl
end K22
namespace K22
open PySem PySem.Spec PyProof.Rows L2 L2.Dn
/-! ### what is shown of two numbers -/
theorem big_log {i : Int} (h : big i) : i.natAbs.log2 < 200 := by
  unfold big at h
  have h2 : i.natAbs < 2 ^ 200 := Nat.lt_of_lt_of_le h (by decide)
  by_cases h0 : i.natAbs = 0
  · rw [h0]; decide
  · exact (Nat.log2_lt h0).mpr h2
theorem listText_le : ∀ ts : List Str, (listText ts).length ≤ 2 + piled ts
  | [] => by decide
  | t :: r => by
    have h := textFrom_length_pos r 1 (("[" : Str) ++ (if (0 : Nat) > 0 then ", " else "" : String) ++ t) (Nat.succ_pos 0)
    have e : (("[" : Str) ++ (if (0 : Nat) > 0 then ", " else "" : String) ++ t).length = 1 + t.length := by
      rw [strLen_append, strLen_append]
      rfl
    have e2 : (listText (t :: r)).length = (textFrom 1 (("[" : Str) ++ (if (0 : Nat) > 0 then ", " else "" : String) ++ t) r).length + 1 := by
      show (textFrom 1 _ r ++ "]").length = _
      rw [strLen_append]
      rfl
    rw [e2, h, e, piled_cons]
    omega
theorem shown_len {i : Int} (h : big i) : (PyData.shown (.int i)).length ≤ 201 := by
  have e := int_text_length_le (k := 200) (by decide) (big_log h)
  show (Str.ofString (toString i)).length ≤ 201
  rw [PySem.ofString_length]
  exact e
theorem fine2 {a b : Int} (ha : big a) (hb : big b) : fine (.list [.int a, .int b]) = true := by
  have h1 : (PyData.list [.int a, .int b]).showable = true := by
    simp only [PyData.showable, PyData.showableAll, Bool.and_true, Bool.and_eq_true, decide_eq_true_eq]
    have := big_log ha; have := big_log hb
    exact ⟨by omega, by omega⟩
  have h2 : (PyData.list [.int a, .int b]).shown.length ≤ sizeLine := by
    have := listText_le [PyData.shown (.int a), PyData.shown (.int b)]
    simp only [piled_cons, piled_nil] at this
    have := shown_len ha; have := shown_len hb
    rw [sizeLine_eq]
    simp only [PyData.shown, PyData.shownAll] at *
    omega
  have h3 : SeqAt.shaped (.list [.int a, .int b]) = true := rfl
  have h4 : (PyData.list [.int a, .int b]).depth ≤ 60 := by simp only [PyData.depth, PyData.depthAll]; decide
  simp only [fine, h1, h3, decide_eq_true h2, decide_eq_true h4, Bool.and_self]
theorem alike_two {a b : Int} (ha : big a) (hb : big b) (g : List Cell) : den__law_alike [.p (.list [.int a, .int b]), .p (.list [.int a, .int b])] g = .ok (.p (.bool true)) g := alike_fine (fine2 ha hb)
theorem shaped_ints (xs : List Int) : SeqAt.shaped (.list (xs.map .int)) = true := by
  have sh : ∀ xs : List Int, PyData.canLayAll0 (xs.map .int) = true := fun xs => by
    induction xs with
    | nil => rfl
    | cons x xs ih => rw [List.map_cons]; simp only [PyData.canLayAll0, PyData.canLay0, ih, Bool.and_self]
  have dp : ∀ xs : List Int, PyData.depthAll (xs.map .int) ≤ 0 := fun xs => by
    induction xs with
    | nil => exact Nat.le_refl _
    | cons x xs ih => rw [List.map_cons]; simp only [PyData.depthAll, PyData.depth]; omega
  have d2 : (PyData.list (xs.map .int)).depth ≤ 64 := by
    have := dp xs
    simp only [PyData.depth]; omega
  simp only [SeqAt.shaped, PyData.canLay0, sh, Bool.true_and]
  exact decide_eq_true d2
theorem ne_fine {p : PyData} {m : Store} (h : SeqAt.shaped p = true) (hs : ∀ x, p ≠ .str x) : eqG true (.p p) (.p p) m = some (.p (.bool false), m) := by
  have e : PyData.eqv p p = true := by
    simp only [SeqAt.shaped, Bool.and_eq_true] at h
    exact SeqAt.eqv_refl p h.1
  have e2 : eqP true (.p p) (.p p) m = some (.p (.bool false), m) := by
    simp only [eqP, whole_p, if_pos (And.intro h h), e]
    rfl
  cases p with
  | str x => exact absurd rfl (hs x)
  | _ => exact e2
/-! ### Answers tell what their case says -/
def askB : FS := (seqS (setS 4 (callE den__law_value (consA (vE 2) (consA (vE 3) nilA))))
  (seqS (setS 5 (calE (listG .z) (consA (opE ixG (vE 3) (cE (.int 0))) nilA)))
  (seqS (setS 6 (lstE .z (consA (callOE [("Answers", den_Answers___call__)] (vE 1) (consA (opE ixG (vE 3) (cE (.int 0))) (consA (opE ixG (vE 3) (cE (.int 1))) nilA))) (consA (callOE [("Answers", den_Answers___call__)] (vE 1) (consA (vE 5) (consA (opE ixG (vE 3) (cE (.int 1))) nilA))) nilA))))
  (ifS (orT (notT (tvE (callE den__law_alike (consA (vE 6) (consA (lstE .z (consA (vE 4) (consA (vE 4) nilA))) nilA))))) (testE (opE (eqH true []) (vE 5) (calE (listG .z) (consA (opE ixG (vE 3) (cE (.int 0))) nilA))))) (retS (cE (.bool false))) nilS))))
abbrev RA (t : Tab) (r s : Int) (o3 o4 o5 o6 : Option D) : Rho := [some (.cell (.g 0)), some (AO t r s), some (CO t r s), o3, o4, o5, o6, none]
theorem callO_ok {t : Tab} {r s : Int} {k : Ky} {d : D} {ρ : Rho} {G l : List Cell} {f1 f2 : FE} (hk : k ∈ allKy) (hs : okS s) (hd : ArgD d k.1) (hρ : ρ[1]? = some (some (AO t r s))) (h1 : f1 ρ ⟨G, l⟩ = .ok d ⟨G, l⟩) (h2 : f2 ρ ⟨G, l⟩ = .ok (.p (.int k.2)) ⟨G, l⟩) :
    callOE [("Answers", den_Answers___call__)] (vE 1) (consA f1 (consA f2 nilA)) ρ ⟨G, l⟩ = .ok (.p (.int (val t r s k))) ⟨G, l⟩ := by
  have v : vE 1 ρ ⟨G, l⟩ = .ok (AO t r s) ⟨G, l⟩ := by unfold vE; rw [hρ]
  have i1 : (insN (AO t r s) ⟨G, l⟩).isSome = true := rfl
  have p1 : proOf [("Answers", den_Answers___call__)] (AO t r s) ⟨G, l⟩ = some den_Answers___call__ := by with_unfolding_all rfl
  have c1 : callR den_Answers___call__ [AO t r s, d, .p (.int k.2)] ⟨G, l⟩ = .ok (.p (.int (val t r s k))) ⟨G, l⟩ := by
    unfold callR
    rw [if_pos (by rcases hd with rfl | rfl <;> rfl), call_ok hk hs hd]
    rfl
  simp only [callOE, v, bind_ok, i1, if_true, consA, nilA, h1, h2, p1, c1]
theorem listG_tup (ds : List PyData) (m : Store) : listG .z [.p (.tuple ds)] m = some (.p (.list ds), m) := by
  have e : listD .z [.p (.tuple ds)] m = some (mkLst (ds.map D.p), m) := rfl
  simp only [listG, e, mkLst_p]
theorem askB_ok {n : Nat} {t : Tab} {r s : Int} {k : Ky} {o4 o5 o6 : Option D} {G : List Cell} (h : Cs n t r s) (hk : k ∈ allKy) :
    ∃ o4' o5' o6', askB (RA t r s (some (.p (kd k))) o4 o5 o6) ⟨G, []⟩ = .nx (RA t r s (some (.p (kd k))) o4' o5' o6') ⟨G, []⟩ := by
  refine ⟨some (.p (.int (val t r s k))), some (.p (.list (k.1.map .int))), some (.p (.list [.int (val t r s k), .int (val t r s k)])), ?_⟩
  have c0 : callE den__law_value (consA (vE 2) (consA (vE 3) nilA)) (RA t r s (some (.p (kd k))) o4 o5 o6) ⟨G, []⟩ = .ok (.p (.int (val t r s k))) ⟨G, []⟩ := by
    have := call2 (l := []) (value_ok (t := t) (r := r) (G := G) hk h.s)
    simp only [callE, consA, nilA, vE_0, vE_s, bind_ok]
    exact this
  have c1 : ∀ o4 o5 o6, calE (listG .z) (consA (opE ixG (vE 3) (cE (.int 0))) nilA) (RA t r s (some (.p (kd k))) o4 o5 o6) ⟨G, []⟩ = .ok (.p (.list (k.1.map .int))) ⟨G, []⟩ := fun o4 o5 o6 => by
    simp only [calE, consA, nilA, opE_eq, vE_0, vE_s, cE, bind_ok, kd0, lift_some, listG_tup]
  have ls : lstE .z (consA (callOE [("Answers", den_Answers___call__)] (vE 1) (consA (opE ixG (vE 3) (cE (.int 0))) (consA (opE ixG (vE 3) (cE (.int 1))) nilA))) (consA (callOE [("Answers", den_Answers___call__)] (vE 1) (consA (vE 5) (consA (opE ixG (vE 3) (cE (.int 1))) nilA))) nilA)) (RA t r s (some (.p (kd k))) (some (.p (.int (val t r s k)))) (some (.p (.list (k.1.map .int)))) o6) ⟨G, []⟩ = .ok (.p (.list [.int (val t r s k), .int (val t r s k)])) ⟨G, []⟩ := by
    refine lst_ok (ps := [.int (val t r s k), .int (val t r s k)]) (consA_ok (callO_ok (k := k) hk h.s (.inl rfl) rfl rfl rfl) (consA_ok (callO_ok (k := k) hk h.s (.inr rfl) rfl rfl rfl) rfl)) (by simp)
  have tt : orT (notT (tvE (callE den__law_alike (consA (vE 6) (consA (lstE .z (consA (vE 4) (consA (vE 4) nilA))) nilA))))) (testE (opE (eqH true []) (vE 5) (calE (listG .z) (consA (opE ixG (vE 3) (cE (.int 0))) nilA)))) (RA t r s (some (.p (kd k))) (some (.p (.int (val t r s k)))) (some (.p (.list (k.1.map .int)))) (some (.p (.list [.int (val t r s k), .int (val t r s k)])))) ⟨G, []⟩ = .ok false ⟨G, []⟩ := by
    have vb := val_big h.t h.r h.s hk
    have l2 : lstE .z (consA (vE 4) (consA (vE 4) nilA)) (RA t r s (some (.p (kd k))) (some (.p (.int (val t r s k)))) (some (.p (.list (k.1.map .int)))) (some (.p (.list [.int (val t r s k), .int (val t r s k)])))) ⟨G, []⟩ = .ok (.p (.list [.int (val t r s k), .int (val t r s k)])) ⟨G, []⟩ := rfl
    have al := call2 (l := []) (alike_two vb vb G)
    have a1 : callE den__law_alike (consA (vE 6) (consA (lstE .z (consA (vE 4) (consA (vE 4) nilA))) nilA)) (RA t r s (some (.p (kd k))) (some (.p (.int (val t r s k)))) (some (.p (.list (k.1.map .int)))) (some (.p (.list [.int (val t r s k), .int (val t r s k)])))) ⟨G, []⟩ = .ok (.p (.bool true)) ⟨G, []⟩ := by
      simp only [callE, consA, nilA, vE_0, vE_s, bind_ok, l2]
      exact al
    have ne := eqH_G (l := []) (ne_fine (m := ⟨G, []⟩) (shaped_ints k.1) (fun x z => by cases z))
    simp only [orT, notT, tvE, a1, bind_ok, tru_b, Bool.not_true, Bool.false_eq_true, if_false, testE, opE_eq (eqH true []), vE_0, vE_s, c1, ne, lift_some, testR_ok]
  unfold askB
  simp only [seqS, setS, c0, bindS_ok, seq_nx, List.set_cons_zero, List.set_cons_succ, c1, ls, ifS, tt, Bool.false_eq_true, if_false, nilS]
end K22
namespace K22
open PySem PySem.Spec PyProof.Rows L2 L2.Dn
theorem keys_of {P : Ky → Prop} : ∀ {ys : List D}, (∀ y ∈ ys, ∃ k : Ky, y = .p (kd k) ∧ P k) → ∃ xs : List Ky, ys = (xs.map kd).map D.p ∧ (∀ x ∈ xs, P x) ∧ xs.length = ys.length
  | [], _ => ⟨[], rfl, by simp, rfl⟩
  | y :: ys, h => by
    obtain ⟨x, e, hx⟩ := h y (List.mem_cons_self ..)
    obtain ⟨xs, k1, k2, k3⟩ := keys_of (ys := ys) fun z hz => h z (List.mem_cons_of_mem _ hz)
    refine ⟨x :: xs, by rw [e, k1]; rfl, ?_, by simp [k3]⟩
    intro z hz
    rcases List.mem_cons.mp hz with q | hz
    · rw [q]; exact hx
    · exact k2 z hz
theorem told_call {n : Nat} {t : Tab} {r s : Int} {ρ : Rho} {G l : List Cell} (h : OkT n t) (hn : n ≤ 1000) (hρ : ρ[1]? = some (some (AO t r s))) : methE [("Answers", den_Answers_told)] "told" (vE 1) nilA ρ ⟨G, l⟩ = .ok (.cell (.g G.length)) ⟨G ++ [.dct (pd t)], l⟩ := by
  have v : vE 1 ρ ⟨G, l⟩ = .ok (AO t r s) ⟨G, l⟩ := by unfold vE; rw [hρ]
  have e1 : metOf [("Answers", den_Answers_told)] "told" (AO t r s) ⟨G, l⟩ = some den_Answers_told := by with_unfolding_all rfl
  have e2 : callR den_Answers_told [AO t r s] ⟨G, l⟩ = .ok (.cell (.g G.length)) ⟨G ++ [.dct (pd t)], l⟩ := by
    unfold callR
    rw [if_pos (by rfl), told_ok h hn]
    rfl
  simp only [methE, v, bind_ok, e1, nilA, e2]
theorem prop_r {t : Tab} {r s : Int} {ρ : Rho} {G l : List Cell} (hρ : ρ[1]? = some (some (AO t r s))) : propE [("Answers", den_Answers_rest)] (vE 1) ρ ⟨G, l⟩ = .ok (.p (.int r)) ⟨G, l⟩ := by
  have v : vE 1 ρ ⟨G, l⟩ = .ok (AO t r s) ⟨G, l⟩ := by unfold vE; rw [hρ]
  have p1 : proOf [("Answers", den_Answers_rest)] (AO t r s) ⟨G, l⟩ = some den_Answers_rest := by with_unfolding_all rfl
  have c1 : callR den_Answers_rest [AO t r s] ⟨G, l⟩ = .ok (.p (.int r)) ⟨G, l⟩ := by
    unfold callR
    rw [if_pos (by rfl), rest_ok]
    rfl
  simp only [propE, v, bind_ok, p1, c1, noX]
theorem prop_s {t : Tab} {r s : Int} {ρ : Rho} {G l : List Cell} (hρ : ρ[1]? = some (some (AO t r s))) : propE [("Answers", den_Answers_step)] (vE 1) ρ ⟨G, l⟩ = .ok (.p (.int s)) ⟨G, l⟩ := by
  have v : vE 1 ρ ⟨G, l⟩ = .ok (AO t r s) ⟨G, l⟩ := by unfold vE; rw [hρ]
  have p1 : proOf [("Answers", den_Answers_step)] (AO t r s) ⟨G, l⟩ = some den_Answers_step := by with_unfolding_all rfl
  have c1 : callR den_Answers_step [AO t r s] ⟨G, l⟩ = .ok (.p (.int s)) ⟨G, l⟩ := by
    unfold callR
    rw [if_pos (by rfl), step_ok]
    rfl
  simp only [propE, v, bind_ok, p1, c1, noX]
def rightI : FI := walkI (opE (addD .z) (calE (listG .z) (consA (opE ixG (vE 2) (cE (.int 0))) nilA)) (lcE .z [7] (rng1I (consA (cE (.int 4)) nilA)) (oneG 7) yesT (callE den__law_asked_of (consA (vE 0) nilA))))
theorem rightI_ok {cs : List PyData} {n : Nat} {t : Tab} {r s : Int} {C : Cell} {J : List Cell} (hC : bagsOk cs C) (h : Cs n t r s) (hn : n ≤ 500) :
    ∃ (C' : Cell) (ks : List Ky), bagsOk cs C' ∧ (∀ k ∈ ks, k ∈ allKy) ∧ rightI (RA t r s none none none none) ⟨C :: J, []⟩ = .ok ((ks.map kd).map D.p) ⟨C' :: J, []⟩ := by
  obtain ⟨ys, m', l1, ⟨C2, rfl, b2⟩, l3, l4⟩ := lcM_inv (g := oneG 7) (t := yesT) (fe := callE den__law_asked_of (consA (vE 0) nilA)) (ρ := RA t r s none none none none) (I := fun m => ∃ C, m = ⟨C :: J, []⟩ ∧ bagsOk cs C) (P := fun y => ∃ k : Ky, y = .p (kd k) ∧ k ∈ allKy)
    (ds := rngL 0 4) (m := ⟨C :: J, []⟩) ⟨C, rfl, hC⟩ (by
      rintro d hd m ⟨C, rfl, hC⟩
      obtain ⟨k, C', hk, b, e⟩ := asked_call (J := J) (L := []) (ρ := [some (.cell (.g 0)), some (AO t r s), some (CO t r s), none, none, none, none, some d]) (j := 0) hC rfl
      exact ⟨_, .p (kd k), _, rfl, rfl, e, ⟨C', rfl, b⟩, k, rfl, hk⟩)
  obtain ⟨ks, a1, a2, a3⟩ := keys_of l3
  rw [rng_len] at l4
  refine ⟨C2, t.map (·.1) ++ ks, b2, fun k hk => ?_, ?_⟩
  · rcases List.mem_append.mp hk with z | z
    · obtain ⟨q, hq, rfl⟩ := List.mem_map.mp z; exact h.t.key q hq
    · exact a2 k z
  · have rg : rng1I (consA (cE (.int 4)) nilA) (RA t r s none none none none) ⟨C :: J, []⟩ = .ok (rngL 0 4) ⟨C :: J, []⟩ := rfl
    have hz : (rngL 0 4).length ≤ sizeLine := by rw [rng_len, sizeLine_eq]; omega
    have lc : lcE .z [7] (rng1I (consA (cE (.int 4)) nilA)) (oneG 7) yesT (callE den__law_asked_of (consA (vE 0) nilA)) (RA t r s none none none none) ⟨C :: J, []⟩ = .ok (.p (.list (ks.map kd))) ⟨C2 :: J, []⟩ := by
      simp only [lcE, rg, bind_ok, if_pos hz, wipeR, List.set_cons_zero, List.set_cons_succ, l1, newL, a1, mkLst_p]
    have a4 : ((t.map (·.1)).map kd).length + (ks.map kd).length ≤ sizeLine := by
      have := h.t.len
      rw [sizeLine_eq]; simp only [List.length_map]; omega
    unfold rightI
    simp only [walkI, opE_eq (addD .z), calE, consA, nilA, opE_eq ixG, vE_0, vE_s, cE, bind_ok, co0, lift_some, listG_td h.t (show n ≤ 1000 by omega), lc, addD_list a4, itemsZ, List.map_append]
def rightT : FS := (seqS (setS 6 (methE [("Answers", den_Answers_told)] "told" (vE 1) nilA))
  (seqS (ifS (orT (testE (opE (eqH true []) (vE 6) (opE ixG (vE 2) (cE (.int 0))))) (notT (tvE (callE den__law_alike (consA (lstE .z (consA (propE [("Answers", den_Answers_rest)] (vE 1)) (consA (propE [("Answers", den_Answers_step)] (vE 1)) nilA))) (consA (lstE .z (consA (opE ixG (vE 2) (cE (.int 1))) (consA (opE ixG (vE 2) (cE (.int 2))) nilA))) nilA)))))) (retS (cE (.bool false))) nilS)
  (spoilS 6 (retS (opE (eqH false []) (methE [("Answers", den_Answers_told)] "told" (vE 1) nilA) (opE ixG (vE 2) (cE (.int 0))))))))
theorem right_body : body__law_right = seqS (forE rightI (nameG 3) askB) rightT := rfl
theorem rightT_ok {n : Nat} {t : Tab} {r s : Int} {C : Cell} {J : List Cell} {o3 o4 o5 o6 : Option D} (h : Cs n t r s) (hn : n ≤ 500) : ∃ J', rightT (RA t r s o3 o4 o5 o6) ⟨C :: J, []⟩ = .rt (.p (.bool true)) ⟨C :: J', []⟩ := by
  have n1 : n ≤ 1000 := by omega
  have s0 := told_call (ρ := RA t r s o3 o4 o5 o6) (G := C :: J) (l := []) h.t n1 rfl
  have ha : (C :: J ++ [.dct (pd t)])[J.length + 1]? = some (.dct (pd t)) := by simp
  have q1 := eqH_cell (neg := true) (l := []) (a := t) (b := t) (i := .g (J.length + 1)) (y := .p (td t)) (m := ⟨C :: J ++ [Cell.dct (pd t)], []⟩) ha (dctOf_td t _)
  rw [same_self h.t.nd] at q1
  have rb : big r := by have := h.r; unfold okR at this; unfold big; omega
  have sb : big s := by have := h.s; unfold okS at this; unfold big; omega
  have l1 : ∀ o6 G, lstE .z (consA (propE [("Answers", den_Answers_rest)] (vE 1)) (consA (propE [("Answers", den_Answers_step)] (vE 1)) nilA)) (RA t r s o3 o4 o5 o6) ⟨G, []⟩ = .ok (.p (.list [.int r, .int s])) ⟨G, []⟩ := fun o6 G => lst_ok (ps := [.int r, .int s]) (consA_ok (prop_r rfl) (consA_ok (prop_s rfl) rfl)) (by simp)
  have l2 : ∀ o6 G, lstE .z (consA (opE ixG (vE 2) (cE (.int 1))) (consA (opE ixG (vE 2) (cE (.int 2))) nilA)) (RA t r s o3 o4 o5 o6) ⟨G, []⟩ = .ok (.p (.list [.int r, .int s])) ⟨G, []⟩ := fun o6 G => rfl
  have al : ∀ o6 G, callE den__law_alike (consA (lstE .z (consA (propE [("Answers", den_Answers_rest)] (vE 1)) (consA (propE [("Answers", den_Answers_step)] (vE 1)) nilA))) (consA (lstE .z (consA (opE ixG (vE 2) (cE (.int 1))) (consA (opE ixG (vE 2) (cE (.int 2))) nilA))) nilA)) (RA t r s o3 o4 o5 o6) ⟨G, []⟩ = .ok (.p (.bool true)) ⟨G, []⟩ := fun o6 G => by
    have := call2 (l := []) (alike_two rb sb G)
    simp only [callE, consA_ok (l1 o6 G) (consA_ok (l2 o6 G) (g := nilA) rfl), bind_ok]
    exact this
  have t0 : ∀ G, told_call (ρ := RA t r s o3 o4 o5 (some (.cell (.g (J.length + 1))))) (G := G) (l := []) h.t n1 rfl = told_call h.t n1 rfl := fun _ => rfl
  have s2 := told_call (ρ := RA t r s o3 o4 o5 (some (.cell (.g (J.length + 1))))) (G := (C :: J ++ [Cell.dct (pd t)]).set (J.length + 1) (.dct (pd [(k99, 99)]))) (l := []) h.t n1 rfl
  have q2 := eqH_cell (neg := false) (l := []) (a := t) (b := t) (i := .g ((C :: J ++ [Cell.dct (pd t)]).set (J.length + 1) (.dct (pd [(k99, 99)]))).length) (y := .p (td t)) (m := ⟨(C :: J ++ [Cell.dct (pd t)]).set (J.length + 1) (.dct (pd [(k99, 99)])) ++ [Cell.dct (pd t)], []⟩) at_last (dctOf_td t _)
  rw [same_self h.t.nd] at q2
  refine ⟨(J ++ [Cell.dct (pd t)]).set J.length (.dct (pd [(k99, 99)])) ++ [Cell.dct (pd t)], ?_⟩
  unfold rightT
  simp only [seqS, setS, s0, bindS_ok, seq_nx, List.set_cons_zero, List.set_cons_succ, List.length_cons]
  have tt : orT (testE (opE (eqH true []) (vE 6) (opE ixG (vE 2) (cE (.int 0))))) (notT (tvE (callE den__law_alike (consA (lstE .z (consA (propE [("Answers", den_Answers_rest)] (vE 1)) (consA (propE [("Answers", den_Answers_step)] (vE 1)) nilA))) (consA (lstE .z (consA (opE ixG (vE 2) (cE (.int 1))) (consA (opE ixG (vE 2) (cE (.int 2))) nilA))) nilA))))) (RA t r s o3 o4 o5 (some (.cell (.g (J.length + 1))))) ⟨C :: J ++ [.dct (pd t)], []⟩ = .ok false ⟨C :: J ++ [.dct (pd t)], []⟩ := by
    simp only [orT, testE, opE_eq, vE_0, vE_s, cE, bind_ok, co0, lift_some, q1, if_true, Bool.not_true, testR_ok, Bool.false_eq_true, if_false, notT, tvE, al, tru_b]
  simp only [ifS, tt, bindS_ok, Bool.false_eq_true, if_false, nilS, seq_nx]
  rw [spoil_ok (i := J.length + 1) (t := t) rfl h.t n1 ha]
  simp only [retS, opE_eq, s2, vE_0, vE_s, cE, bind_ok, co0, lift_some, q2, Bool.false_eq_true, if_false, bindS_ok]
  simp only [List.cons_append, List.set_cons_succ]
theorem right_den {cs : List PyData} {n : Nat} {t : Tab} {r s : Int} {C : Cell} {J : List Cell} (hC : bagsOk cs C) (h : Cs n t r s) (hn : n ≤ 500) :
    ∃ C' J', bagsOk cs C' ∧ den__law_right [.cell (.g 0), AO t r s, CO t r s] (C :: J) = .ok (.p (.bool true)) (C' :: J') := by
  obtain ⟨C1, ks, b1, hk, e1⟩ := rightI_ok (J := J) hC h hn
  obtain ⟨ρ', m', f1, o3, o4, o5, o6, rfl, rfl⟩ := forS_inv (g := nameG 3) (body := askB) (ds := (ks.map kd).map D.p) (ρ := RA t r s none none none none) (m := ⟨C1 :: J, []⟩) (R := fun ρ m => ∃ o3 o4 o5 o6, ρ = RA t r s o3 o4 o5 o6 ∧ m = ⟨C1 :: J, []⟩)
    ⟨none, none, none, none, rfl, rfl⟩ (by
      rintro d hd ρ m ⟨o3, o4, o5, o6, rfl, rfl⟩
      obtain ⟨p, hp, rfl⟩ := List.mem_map.mp hd
      obtain ⟨k, hk', rfl⟩ := List.mem_map.mp hp
      obtain ⟨o4', o5', o6', e⟩ := askB_ok (o4 := o4) (o5 := o5) (o6 := o6) (G := C1 :: J) h (hk k hk')
      exact ⟨_, _, e, _, _, _, _, rfl, rfl⟩)
  obtain ⟨J', e2⟩ := rightT_ok (C := C1) (J := J) (o3 := o3) (o4 := o4) (o5 := o5) (o6 := o6) h hn
  refine ⟨C1, J', b1, ?_⟩
  rw [eq__law_right, right_body]
  have fe : forE rightI (nameG 3) askB (RA t r s none none none none) ⟨C :: J, []⟩ = .nx (RA t r s o3 o4 o5 o6) ⟨C1 :: J, []⟩ := by
    simp only [forE, e1, bindS_ok]
    exact f1
  show fin (seqS (forE rightI (nameG 3) askB) rightT (RA t r s none none none none) ⟨C :: J, []⟩) = _
  simp only [seqS, fe, seq_nx, e2, fin_rt]
end K22
namespace K22
open PySem PySem.Spec PyProof.Rows L2 L2.Dn
/-! ### the law's own lists -/
abbrev Tr := Tab × Int × Int
def CT (x : Tr) : D := CO x.1 x.2.1 x.2.2
def AT (x : Tr) : D := AO x.1 x.2.1 x.2.2
abbrev CX (n : Nat) (x : Tr) : Prop := Cs n x.1 x.2.1 x.2.2
def SL (C : Cell) (J L : List Cell) (xs ys : List D) (T : List Cell) : Store := ⟨C :: J, L ++ Cell.lst xs :: Cell.lst ys :: T⟩
section
variable {C c d : Cell} {J L T : List Cell} {xs ys : List D} {x : D}
theorem sl_a : (SL C J L xs ys T).at_ (.l L.length) = some (.lst xs) := by
  show (L ++ Cell.lst xs :: Cell.lst ys :: T)[L.length]? = _
  simp
theorem sl_b : (SL C J L xs ys T).at_ (.l (L.length + 1)) = some (.lst ys) := by
  show (L ++ Cell.lst xs :: Cell.lst ys :: T)[L.length + 1]? = _
  rw [List.getElem?_append_right (by omega)]
  simp
theorem sl_t : (SL C J L xs ys (T ++ [c])).at_ (.l (L.length + 2 + T.length)) = some c := by
  show (L ++ Cell.lst xs :: Cell.lst ys :: (T ++ [c]))[L.length + 2 + T.length]? = _
  rw [List.getElem?_append_right (by omega), show L.length + 2 + T.length - L.length = T.length + 2 by omega]
  simp
theorem sl_seta {zs : List D} : (SL C J L xs ys T).set (.lst zs) (.l L.length) = SL C J L zs ys T := by
  show (⟨C :: J, (L ++ Cell.lst xs :: Cell.lst ys :: T).set L.length (.lst zs)⟩ : Store) = _
  simp [SL]
theorem sl_setb {zs : List D} : (SL C J L xs ys T).set (.lst zs) (.l (L.length + 1)) = SL C J L xs zs T := by
  show (⟨C :: J, (L ++ Cell.lst xs :: Cell.lst ys :: T).set (L.length + 1) (.lst zs)⟩ : Store) = _
  rw [List.set_append_right _ _ (by omega)]
  simp [SL]
theorem sl_sett : (SL C J L xs ys (T ++ [c])).set d (.l (L.length + 2 + T.length)) = SL C J L xs ys (T ++ [d]) := by
  show (⟨C :: J, (L ++ Cell.lst xs :: Cell.lst ys :: (T ++ [c])).set (L.length + 2 + T.length) d⟩ : Store) = _
  rw [List.set_append_right _ _ (by omega), show L.length + 2 + T.length - L.length = T.length + 2 by omega]
  simp [SL]
theorem ix_a {i : Int} (h : 0 ≤ i) (e : xs[i.toNat]? = some x) : ixG (.cell (.l L.length)) (.p (.int i)) (SL C J L xs ys T) = some (x, SL C J L xs ys T) := alt_some (by rw [ixD_cell sl_a h, e]; rfl)
theorem ix_b {i : Int} (h : 0 ≤ i) (e : ys[i.toNat]? = some x) : ixG (.cell (.l (L.length + 1))) (.p (.int i)) (SL C J L xs ys T) = some (x, SL C J L xs ys T) := alt_some (by rw [ixD_cell sl_b h, e]; rfl)
theorem len_a : lenG [.cell (.l L.length)] (SL C J L xs ys T) = some (.p (.int xs.length), SL C J L xs ys T) := by
  have : lenD [.cell (.l L.length)] (SL C J L xs ys T) = some (.p (.int xs.length), SL C J L xs ys T) := by simp only [lenD, tupOf, lstOf, sl_a]
  simp only [lenG, this]
theorem app_a {f : FI} {ρ : Rho} {m : Store} {J' : List Cell} {T' : List Cell} {C' : Cell} {fo : FE} (ho : fo ρ m = .ok (.cell (.l L.length)) m) (hm : m = SL C J L xs ys T) (hf : f ρ m = .ok [x] (SL C' J' L xs ys T')) (hn : nx x = true) (hl : xs.length < 1000) :
    exprS (metE "list" appendD fo f) ρ m = .nx ρ (SL C' J' L (xs ++ [x]) ys T') := by
  subst hm
  have i1 : isTy "list" (.cell (.l L.length)) (SL C J L xs ys T) = true := by simp only [isTy, lstOf, sl_a]; rfl
  have l1 : xs.length < sizeLine := by rw [sizeLine_eq]; omega
  have a1 : appendD (.cell (.l L.length)) [x] (SL C' J' L xs ys T') = some (.p .none, SL C' J' L (xs ++ [x]) ys T') := by
    simp only [appendD, sl_a, if_pos (And.intro l1 (show okIn x (.l L.length) = true from hn)), sl_seta]
  simp only [exprS, metE, ho, bind_ok, i1, if_true, hf, a1, lift_some, bindS_ok]
theorem app_b {f : FI} {ρ : Rho} {m : Store} {J' : List Cell} {T' : List Cell} {C' : Cell} {fo : FE} (ho : fo ρ m = .ok (.cell (.l (L.length + 1))) m) (hm : m = SL C J L xs ys T) (hf : f ρ m = .ok [x] (SL C' J' L xs ys T')) (hn : nx x = true) (hl : ys.length < 1000) :
    exprS (metE "list" appendD fo f) ρ m = .nx ρ (SL C' J' L xs (ys ++ [x]) T') := by
  subst hm
  have i1 : isTy "list" (.cell (.l (L.length + 1))) (SL C J L xs ys T) = true := by simp only [isTy, lstOf, sl_b]; rfl
  have l1 : ys.length < sizeLine := by rw [sizeLine_eq]; omega
  have a1 : appendD (.cell (.l (L.length + 1))) [x] (SL C' J' L xs ys T') = some (.p .none, SL C' J' L xs (ys ++ [x]) T') := by
    simp only [appendD, sl_b, if_pos (And.intro l1 (show okIn x (.l (L.length + 1)) = true from hn)), sl_setb]
  simp only [exprS, metE, ho, bind_ok, i1, if_true, hf, a1, lift_some, bindS_ok]
end
theorem nx_co {t : Tab} {r s : Int} : nx (CO t r s) = true := rfl
theorem nx_ao {t : Tab} {r s : Int} : nx (AO t r s) = true := rfl
theorem tkf {cs : List PyData} {C : Cell} {J L : List Cell} {ρ : Rho} {f1 f2 : FE} (n : Int) (hC : bagsOk cs C) (h1 : f1 ρ ⟨C :: J, L⟩ = .ok (.cell (.g 0)) ⟨C :: J, L⟩) (h2 : f2 ρ ⟨C :: J, L⟩ = .ok (.p (.int n)) ⟨C :: J, L⟩) (h0 : 0 < n) (h3 : n < 2 ^ 64) :
    ∃ r C', 0 ≤ r ∧ r < n ∧ bagsOk cs C' ∧ callE den__law_take (consA f1 (consA f2 nilA)) ρ ⟨C :: J, L⟩ = .ok (.p (.int r)) ⟨C' :: J, L⟩ := by
  obtain ⟨r, C', k1, k2, k3, k4⟩ := take_ok (g := J) hC h0 h3
  refine ⟨r, C', k1, k2, k3, ?_⟩
  have e : den__law_take [.cell (.g 0), .p (.int n)] (C :: J) = .ok (.p (.int r)) (C' :: J) := k4
  simp only [callE, consA, nilA, h1, h2, bind_ok, callR]
  rw [if_pos (by rfl), e]
  rfl
abbrev RL (sc : D) (a : Nat) (o2 o5 o6 o7 o8 o9 o10 o11 o12 o13 : Option D) : Rho := [some sc, some (.cell (.g 0)), o2, some (.cell (.l a)), some (.cell (.l (a + 1))), o5, o6, o7, o8, o9, o10, o11, o12, o13]
/-! ### one answer more -/
def moreB : FS := (seqS (parS 6 7 (consA (callE den__law_take (consA (vE 1) (consA (calE lenG (consA (vE 3) nilA)) nilA))) (consA (callE den__law_asked_of (consA (vE 1) nilA)) nilA)))
  (seqS (setS 8 (opE ixG (lstE .z (consA (opE (addD .z) (opE ixG (opE ixG (vE 3) (vE 6)) (cE (.int 1))) (opE (mulG .z) (opE ixG (opE ixG (vE 3) (vE 6)) (cE (.int 2))) (opE ixG (vE 7) (cE (.int 1))))) (consA (cE (.int 1)) (consA (callE den__law_take (consA (vE 1) (consA (cE (.int 9)) nilA))) nilA)))) (callE den__law_take (consA (vE 1) (consA (cE (.int 3)) nilA)))))
  (seqS (setS 9 (calE (dictD .l) (consA (opE ixG (opE ixG (vE 3) (vE 6)) (cE (.int 0))) nilA)))
  (seqS (asgS (vE 8) (subG setG (vE 9) (vE 7)))
  (seqS (exprS (metE "list" appendD (vE 3) (consA (tupE (consA (frzE (vE 9)) (consA (opE ixG (opE ixG (vE 3) (vE 6)) (cE (.int 1))) (consA (opE ixG (opE ixG (vE 3) (vE 6)) (cE (.int 2))) nilA)))) nilA)))
  (exprS (metE "list" appendD (vE 4) (consA (methE [("Answers", den_Answers_with_answer)] "with_answer" (opE ixG (vE 4) (vE 6)) (consA (opE ixG (vE 7) (cE (.int 0))) (consA (opE ixG (vE 7) (cE (.int 1))) (consA (vE 8) nilA)))) nilA))))))))
theorem get_map {α β : Type} {f : α → β} {xs : List α} {i : Nat} {x : α} (h : xs[i]? = some x) : (xs.map f)[i]? = some (f x) := by rw [List.getElem?_map, h]; rfl
theorem more_ok {cs : List PyData} {C : Cell} {J L T : List Cell} {sc : D} {o2 o5 o6 o7 o8 o9 o10 o11 o12 o13 : Option D} {ts : List Tr} {n : Nat} (hC : bagsOk cs C) (h : ∀ x ∈ ts, CX n x) (h0 : 0 < ts.length) (hl : ts.length < 500) (hn : n ≤ 400) :
    ∃ C' J' T' x o6' o7' o8' o9', bagsOk cs C' ∧ CX (n + 1) x ∧ moreB (RL sc L.length o2 o5 o6 o7 o8 o9 o10 o11 o12 o13) (SL C J L (ts.map CT) (ts.map AT) T) = .nx (RL sc L.length o2 o5 o6' o7' o8' o9' o10 o11 o12 o13) (SL C' J' L ((ts ++ [x]).map CT) ((ts ++ [x]).map AT) T') := by
  obtain ⟨i, C1, i0, i1, b1, e1⟩ := tkf (J := J) (L := L ++ Cell.lst (ts.map CT) :: Cell.lst (ts.map AT) :: T) (ρ := RL sc L.length o2 o5 o6 o7 o8 o9 o10 o11 o12 o13) (f1 := vE 1) (f2 := calE lenG (consA (vE 3) nilA)) (ts.length : Int) hC rfl (by
    have := len_a (C := C) (J := J) (L := L) (T := T) (xs := ts.map CT) (ys := ts.map AT)
    rw [List.length_map] at this
    show calE lenG (consA (vE 3) nilA) _ (SL C J L (ts.map CT) (ts.map AT) T) = .ok _ (SL C J L (ts.map CT) (ts.map AT) T)
    simp only [calE, consA, nilA, vE_0, vE_s, bind_ok, this, lift_some]) (by omega) (by omega)
  obtain ⟨⟨t, r, s⟩, x1, x2⟩ := at_of (xs := ts) i0 (by omega)
  have hx := h _ x2
  have hx : Cs n t r s := hx
  obtain ⟨k, C2, hk, b2, e2⟩ := asked_call (J := J) (L := L ++ Cell.lst (ts.map CT) :: Cell.lst (ts.map AT) :: T) (ρ := RL sc L.length o2 o5 o6 o7 o8 o9 o10 o11 o12 o13) (j := 1) b1 rfl
  obtain ⟨q9, C3, q90, q91, b3, e3⟩ := tkd (J := J) (L := L ++ Cell.lst (ts.map CT) :: Cell.lst (ts.map AT) :: T) (ρ := RL sc L.length o2 o5 (some (.p (.int i))) (some (.p (kd k))) o8 o9 o10 o11 o12 o13) (j := 1) 9 b2 rfl (by decide) (by decide)
  obtain ⟨q3, C4, q30, q31, b4, e4⟩ := tkd (J := J) (L := L ++ Cell.lst (ts.map CT) :: Cell.lst (ts.map AT) :: T) (ρ := RL sc L.length o2 o5 (some (.p (.int i))) (some (.p (kd k))) o8 o9 o10 o11 o12 o13) (j := 1) 3 b3 rfl (by decide) (by decide)
  have ga : ∀ C J T, ixG (.cell (.l L.length)) (.p (.int i)) (SL C J L (ts.map CT) (ts.map AT) T) = some (CO t r s, SL C J L (ts.map CT) (ts.map AT) T) := fun C J T => ix_a i0 (get_map x1)
  have gb : ∀ C J T zs, ixG (.cell (.l (L.length + 1))) (.p (.int i)) (SL C J L zs (ts.map AT) T) = some (AO t r s, SL C J L zs (ts.map AT) T) := fun C J T zs => ix_b i0 (get_map x1)
  have p1 : parS 6 7 (consA (callE den__law_take (consA (vE 1) (consA (calE lenG (consA (vE 3) nilA)) nilA))) (consA (callE den__law_asked_of (consA (vE 1) nilA)) nilA)) (RL sc L.length o2 o5 o6 o7 o8 o9 o10 o11 o12 o13) (SL C J L (ts.map CT) (ts.map AT) T) = .nx (RL sc L.length o2 o5 (some (.p (.int i))) (some (.p (kd k))) o8 o9 o10 o11 o12 o13) (SL C2 J L (ts.map CT) (ts.map AT) T) := by
    have z := consA_ok (g := consA (callE den__law_asked_of (consA (vE 1) nilA)) nilA) e1 (consA_ok e2 (g := nilA) rfl)
    unfold parS
    rw [show SL C J L (ts.map CT) (ts.map AT) T = ⟨C :: J, L ++ Cell.lst (ts.map CT) :: Cell.lst (ts.map AT) :: T⟩ from rfl, z]
    rfl
  have ls : lstE .z (consA (opE (addD .z) (opE ixG (opE ixG (vE 3) (vE 6)) (cE (.int 1))) (opE (mulG .z) (opE ixG (opE ixG (vE 3) (vE 6)) (cE (.int 2))) (opE ixG (vE 7) (cE (.int 1))))) (consA (cE (.int 1)) (consA (callE den__law_take (consA (vE 1) (consA (cE (.int 9)) nilA))) nilA))) (RL sc L.length o2 o5 (some (.p (.int i))) (some (.p (kd k))) o8 o9 o10 o11 o12 o13) (SL C2 J L (ts.map CT) (ts.map AT) T) = .ok (.p (.list [.int (r + s * k.2), .int 1, .int q9])) (SL C3 J L (ts.map CT) (ts.map AT) T) := by
    refine lst_ok (ps := [.int (r + s * k.2), .int 1, .int q9]) (consA_ok (m1 := SL C2 J L (ts.map CT) (ts.map AT) T) ?_ (consA_ok (m1 := SL C2 J L (ts.map CT) (ts.map AT) T) rfl (consA_ok e3 rfl))) (by simp)
    simp only [opE_eq, vE_0, vE_s, cE, bind_ok, ga, lift_some, co1, co2, kd1, mul_l (small_s hx.s), addD_int]
  obtain ⟨p, pp1, pp2⟩ := at_of (xs := [PyData.int (r + s * k.2), .int 1, .int q9]) q30 q31
  obtain ⟨v, rfl, hv⟩ : ∃ v, p = .int v ∧ big v := by
    simp only [List.mem_cons, List.not_mem_nil, or_false] at pp2
    rcases pp2 with rfl | rfl | rfl
    · exact ⟨_, rfl, dflt_big hx.r hx.s hk⟩
    · exact ⟨_, rfl, by unfold big; decide⟩
    · exact ⟨_, rfl, by unfold big; omega⟩
  have s8 := ix_ok ls e4 q30 pp1
  have d9 := dictD_l (G := C4 :: J) (l := L ++ Cell.lst (ts.map CT) :: Cell.lst (ts.map AT) :: T) hx.t (show n ≤ 1000 by omega) (dctOf_td t _)
  have le : (L ++ Cell.lst (ts.map CT) :: Cell.lst (ts.map AT) :: T).length = L.length + 2 + T.length := by simp; omega
  have s9 : setS 9 (calE (dictD .l) (consA (opE ixG (opE ixG (vE 3) (vE 6)) (cE (.int 0))) nilA)) (RL sc L.length o2 o5 (some (.p (.int i))) (some (.p (kd k))) (some (.p (.int v))) o9 o10 o11 o12 o13) (SL C4 J L (ts.map CT) (ts.map AT) T) = .nx (RL sc L.length o2 o5 (some (.p (.int i))) (some (.p (kd k))) (some (.p (.int v))) (some (.cell (.l (L.length + 2 + T.length)))) o10 o11 o12 o13) (SL C4 J L (ts.map CT) (ts.map AT) (T ++ [.dct (pd t)])) := by
    have d10 : dictD .l [.p (td t)] (SL C4 J L (ts.map CT) (ts.map AT) T) = some (.cell (.l (L.length + 2 + T.length)), SL C4 J L (ts.map CT) (ts.map AT) (T ++ [.dct (pd t)])) := by
      rw [← le]
      have : (⟨C4 :: J, L ++ Cell.lst (ts.map CT) :: Cell.lst (ts.map AT) :: T ++ [.dct (pd t)]⟩ : Store) = SL C4 J L (ts.map CT) (ts.map AT) (T ++ [.dct (pd t)]) := by simp [SL]
      rw [← this]
      exact d9
    simp only [setS, calE, consA, nilA, opE_eq, vE_0, vE_s, cE, bind_ok, ga, lift_some, co0, d10, bindS_ok, List.set_cons_zero, List.set_cons_succ]
  have sd := set_dct (i := .l (L.length + 2 + T.length)) (m := SL C4 J L (ts.map CT) (ts.map AT) (T ++ [.dct (pd t)])) (k := k) (v := v) hx.t (by omega) hk sl_t
  rw [sl_sett] at sd
  have tp : consA (tupE (consA (frzE (vE 9)) (consA (opE ixG (opE ixG (vE 3) (vE 6)) (cE (.int 1))) (consA (opE ixG (opE ixG (vE 3) (vE 6)) (cE (.int 2))) nilA)))) nilA (RL sc L.length o2 o5 (some (.p (.int i))) (some (.p (kd k))) (some (.p (.int v))) (some (.cell (.l (L.length + 2 + T.length)))) o10 o11 o12 o13) (SL C4 J L (ts.map CT) (ts.map AT) (T ++ [.dct (pd (put t k v))])) = .ok [CO (put t k v) r s] (SL C4 J L (ts.map CT) (ts.map AT) (T ++ [.gone])) := by
    refine consA_ok (tup_ok (ps := [td (put t k v), .int r, .int s]) (consA_ok (m1 := SL C4 J L (ts.map CT) (ts.map AT) (T ++ [.gone])) ?_ (consA_ok (m1 := SL C4 J L (ts.map CT) (ts.map AT) (T ++ [.gone])) ?_ (consA_ok (m1 := SL C4 J L (ts.map CT) (ts.map AT) (T ++ [.gone])) ?_ rfl))) (by simp)) rfl
    · simp only [frzE, vE_0, vE_s, frzR, sl_t, frzC, mkDct_pd, sl_sett]
    · simp only [opE_eq, vE_0, vE_s, cE, bind_ok, ga, lift_some, co1]
    · simp only [opE_eq, vE_0, vE_s, cE, bind_ok, ga, lift_some, co2]
  have ap := app_a (fo := vE 3) (by rfl) rfl tp nx_co (by rw [List.length_map]; omega)
  obtain ⟨J2, wt⟩ := with_ok (r := r) (s := s) (G := C4 :: J) hx.t (show n < 1000 by omega) hk hv (.inl rfl : ArgD (.p (.tuple (k.1.map .int))) k.1)
  have ms : consA (methE [("Answers", den_Answers_with_answer)] "with_answer" (opE ixG (vE 4) (vE 6)) (consA (opE ixG (vE 7) (cE (.int 0))) (consA (opE ixG (vE 7) (cE (.int 1))) (consA (vE 8) nilA)))) nilA (RL sc L.length o2 o5 (some (.p (.int i))) (some (.p (kd k))) (some (.p (.int v))) (some (.cell (.l (L.length + 2 + T.length)))) o10 o11 o12 o13) (SL C4 J L (ts.map CT ++ [CO (put t k v) r s]) (ts.map AT) (T ++ [.gone])) = .ok [AO (put t k v) r s] (SL C4 (J ++ J2) L (ts.map CT ++ [CO (put t k v) r s]) (ts.map AT) (T ++ [.gone])) := by
    refine consA_ok (m1 := SL C4 (J ++ J2) L (ts.map CT ++ [CO (put t k v) r s]) (ts.map AT) (T ++ [.gone])) ?_ rfl
    have m1 : metOf [("Answers", den_Answers_with_answer)] "with_answer" (AO t r s) (SL C4 J L (ts.map CT ++ [CO (put t k v) r s]) (ts.map AT) (T ++ [.gone])) = some den_Answers_with_answer := by with_unfolding_all rfl
    have c1 : callR den_Answers_with_answer [AO t r s, .p (.tuple (k.1.map .int)), .p (.int k.2), .p (.int v)] (SL C4 J L (ts.map CT ++ [CO (put t k v) r s]) (ts.map AT) (T ++ [.gone])) = .ok (AO (put t k v) r s) (SL C4 (J ++ J2) L (ts.map CT ++ [CO (put t k v) r s]) (ts.map AT) (T ++ [.gone])) := by
      unfold callR
      rw [if_pos (by rfl), show (SL C4 J L (ts.map CT ++ [CO (put t k v) r s]) (ts.map AT) (T ++ [.gone])).g = C4 :: J from rfl, wt]
      rfl
    simp only [methE, opE_eq, vE_0, vE_s, bind_ok, gb, lift_some, m1, consA, nilA, cE, kd0, kd1, c1]
  have ap2 := app_b (fo := vE 4) (by rfl) rfl ms nx_ao (by rw [List.length_map]; omega)
  refine ⟨C4, J ++ J2, T ++ [.gone], (put t k v, r, s), some (.p (.int i)), some (.p (kd k)), some (.p (.int v)), some (.cell (.l (L.length + 2 + T.length))), b4, ⟨hx.t.put hk hv, hx.r, hx.s⟩, ?_⟩
  have s8' : setS 8 (opE ixG (lstE .z (consA (opE (addD .z) (opE ixG (opE ixG (vE 3) (vE 6)) (cE (.int 1))) (opE (mulG .z) (opE ixG (opE ixG (vE 3) (vE 6)) (cE (.int 2))) (opE ixG (vE 7) (cE (.int 1))))) (consA (cE (.int 1)) (consA (callE den__law_take (consA (vE 1) (consA (cE (.int 9)) nilA))) nilA)))) (callE den__law_take (consA (vE 1) (consA (cE (.int 3)) nilA)))) (RL sc L.length o2 o5 (some (.p (.int i))) (some (.p (kd k))) o8 o9 o10 o11 o12 o13) (SL C2 J L (ts.map CT) (ts.map AT) T) = .nx (RL sc L.length o2 o5 (some (.p (.int i))) (some (.p (kd k))) (some (.p (.int v))) o9 o10 o11 o12 o13) (SL C4 J L (ts.map CT) (ts.map AT) T) := by
    unfold setS
    rw [s8]
    rfl
  have as : asgS (vE 8) (subG setG (vE 9) (vE 7)) (RL sc L.length o2 o5 (some (.p (.int i))) (some (.p (kd k))) (some (.p (.int v))) (some (.cell (.l (L.length + 2 + T.length)))) o10 o11 o12 o13) (SL C4 J L (ts.map CT) (ts.map AT) (T ++ [.dct (pd t)])) = .nx (RL sc L.length o2 o5 (some (.p (.int i))) (some (.p (kd k))) (some (.p (.int v))) (some (.cell (.l (L.length + 2 + T.length)))) o10 o11 o12 o13) (SL C4 J L (ts.map CT) (ts.map AT) (T ++ [.dct (pd (put t k v))])) := by
    simp only [asgS, subG, vE_0, vE_s, bindS_ok, sd]
  unfold moreB
  simp only [seqS, p1, seq_nx, s8', s9, as, ap, ap2]
  simp only [List.map_append, List.map_cons, List.map_nil, CT, AT]
end K22
namespace K22
open PySem PySem.Spec PyProof.Rows L2 L2.Dn
/-! ### a turn's parts -/
theorem nls_bag : nls [.cell (.g 0)] = true := rfl
theorem case_call {cs : List PyData} {C : Cell} {J L : List Cell} {ρ : Rho} {j : Nat} (hC : bagsOk cs C) (hρ : ρ[j]? = some (some (.cell (.g 0)))) : ∃ t r s C', Cs 8 t r s ∧ r.natAbs ≤ 10 ^ 39 ∧ s.natAbs ≤ 10 ^ 9 ∧ bagsOk cs C' ∧ callE den__law_case (consA (vE j) nilA) ρ ⟨C :: J, L⟩ = .ok (CO t r s) ⟨C' :: J, L⟩ := by
  obtain ⟨t, r, s, C', h1, h2, h3, h4, h5⟩ := case_den (J := J) hC
  refine ⟨t, r, s, C', h1, h2, h3, h4, ?_⟩
  simp only [callE, consA, nilA, vE, hρ, bind_ok, callR]
  rw [if_pos nls_bag, h5]
  rfl
theorem made_loop {cs : List PyData} {Lx : List Cell} {sc : D} {a : Nat} {o2 o4 o5 o6 o7 o8 o9 o10 o12 o13 : Option D} : ∀ {ts : List Tr} {n : Nat} {C : Cell} {J : List Cell}, bagsOk cs C → (∀ x ∈ ts, CX n x) → n ≤ 500 →
    ∃ C' J', bagsOk cs C' ∧ lcM (oneG 11) yesT (callE den__law_made (consA (vE 1) (consA (vE 11) nilA))) [some sc, some (.cell (.g 0)), o2, some (.cell (.l a)), o4, o5, o6, o7, o8, o9, o10, none, o12, o13] (ts.map CT) ⟨C :: J, Lx⟩ = .ok (ts.map AT) ⟨C' :: J', Lx⟩
  | [], n, C, J, hC, _, _ => ⟨C, J, hC, rfl⟩
  | x :: ts, n, C, J, hC, h, hn => by
    obtain ⟨C1, J1, b1, e1⟩ := made_call (J := J) (L := Lx) (ρ := [some sc, some (.cell (.g 0)), o2, some (.cell (.l a)), o4, o5, o6, o7, o8, o9, o10, some (CT x), o12, o13]) (f1 := vE 1) (f2 := vE 11) hC (h x (List.mem_cons_self ..)) hn rfl rfl
    obtain ⟨C2, J2, b2, e2⟩ := made_loop (Lx := Lx) (sc := sc) (a := a) (o2 := o2) (o4 := o4) (o5 := o5) (o6 := o6) (o7 := o7) (o8 := o8) (o9 := o9) (o10 := o10) (o12 := o12) (o13 := o13) (ts := ts) (J := J1) b1 (fun y hy => h y (List.mem_cons_of_mem _ hy)) hn
    refine ⟨C2, J2, b2, ?_⟩
    rw [List.map_cons, List.map_cons]
    unfold lcM
    rw [show oneG 11 (CT x) [some sc, some (.cell (.g 0)), o2, some (.cell (.l a)), o4, o5, o6, o7, o8, o9, o10, none, o12, o13] = some [some sc, some (.cell (.g 0)), o2, some (.cell (.l a)), o4, o5, o6, o7, o8, o9, o10, some (CT x), o12, o13] from rfl]
    simp only [yesT, noX, bind_ok, if_true, e1, e2]
    rfl
theorem nxs_at : ∀ ts : List Tr, nxs (ts.map AT) = true
  | [] => rfl
  | x :: ts => by simp only [List.map_cons, nxs, nxs_at ts, Bool.and_true]; rfl
def turn1 : FS := setS 3 (lstE .l (consA (callE den__law_case (consA (vE 1) nilA)) (consA (callE den__law_case (consA (vE 1) nilA)) nilA)))
def turn2 : FS := setS 4 (lcH .walk 3 .l [11] (walkI (vE 3)) (oneG 11) yesT (callE den__law_made (consA (vE 1) (consA (vE 11) nilA))))
theorem turn12 {cs : List PyData} {C : Cell} {J L : List Cell} {sc : D} {o2 o3 o4 o5 o6 o7 o8 o9 o10 o11 o12 o13 : Option D} {k : FS} (hC : bagsOk cs C) :
    ∃ C' J' x y, bagsOk cs C' ∧ CX 8 x ∧ CX 8 y ∧ x.2.1.natAbs ≤ 10 ^ 39 ∧ x.2.2.natAbs ≤ 10 ^ 9 ∧ seqS turn1 (seqS turn2 k) [some sc, some (.cell (.g 0)), o2, o3, o4, o5, o6, o7, o8, o9, o10, o11, o12, o13] ⟨C :: J, L⟩ = k (RL sc L.length o2 o5 o6 o7 o8 o9 o10 o11 o12 o13) (SL C' J' L ([x, y].map CT) ([x, y].map AT) []) := by
  obtain ⟨t, r, s, C1, h1, h2, h3, b1, e1⟩ := case_call (J := J) (L := L) (ρ := [some sc, some (.cell (.g 0)), o2, o3, o4, o5, o6, o7, o8, o9, o10, o11, o12, o13]) (j := 1) hC rfl
  obtain ⟨t', r', s', C2, h1', h2', h3', b2, e2⟩ := case_call (J := J) (L := L) (ρ := [some sc, some (.cell (.g 0)), o2, o3, o4, o5, o6, o7, o8, o9, o10, o11, o12, o13]) (j := 1) b1 rfl
  have s1 : turn1 [some sc, some (.cell (.g 0)), o2, o3, o4, o5, o6, o7, o8, o9, o10, o11, o12, o13] ⟨C :: J, L⟩ = .nx [some sc, some (.cell (.g 0)), o2, some (.cell (.l L.length)), o4, o5, o6, o7, o8, o9, o10, o11, o12, o13] ⟨C2 :: J, L ++ [.lst [CO t r s, CO t' r' s']]⟩ := by
    have z := consA_ok (g := consA (callE den__law_case (consA (vE 1) nilA)) nilA) e1 (consA_ok e2 (g := nilA) rfl)
    have l2 : [CO t r s, CO t' r' s'].length ≤ sizeLine := by rw [sizeLine_eq]; simp
    have n2 : nxs [CO t r s, CO t' r' s'] = true := rfl
    simp only [turn1, setS, lstE, z, bind_ok, if_pos l2, newL, n2, if_true, bindS_ok]
    rfl
  obtain ⟨C3, J3, b3, e3⟩ := made_loop (cs := cs) (Lx := L ++ [.gone]) (sc := sc) (a := L.length) (o2 := o2) (o4 := o4) (o5 := o5) (o6 := o6) (o7 := o7) (o8 := o8) (o9 := o9) (o10 := o10) (o12 := o12) (o13 := o13) (ts := [(t, r, s), (t', r', s')]) (n := 8) (J := J) b2 (fcons h1 (fcons h1' (fun x hx => (by cases hx)))) (by decide)
  have s2 : turn2 [some sc, some (.cell (.g 0)), o2, some (.cell (.l L.length)), o4, o5, o6, o7, o8, o9, o10, o11, o12, o13] ⟨C2 :: J, L ++ [.lst [CO t r s, CO t' r' s']]⟩ = .nx (RL sc L.length o2 o5 o6 o7 o8 o9 o10 o11 o12 o13) (SL C3 J3 L ([(t, r, s), (t', r', s')].map CT) ([(t, r, s), (t', r', s')].map AT) []) := by
    have a1 : (L ++ [Cell.lst [CO t r s, CO t' r' s']])[L.length]? = some (.lst [CO t r s, CO t' r' s']) := by simp
    have hh : heldO .walk 3 [some sc, some (.cell (.g 0)), o2, some (.cell (.l L.length)), o4, o5, o6, o7, o8, o9, o10, o11, o12, o13] ⟨C2 :: J, L ++ [.lst [CO t r s, CO t' r' s']]⟩ = some (.l L.length, .lst [CO t r s, CO t' r' s'], [CO t r s, CO t' r' s']) := by
      simp only [heldO, List.getElem?_cons_zero, List.getElem?_cons_succ, lat, a1, heldL, Option.map_some]
    have st : (⟨C2 :: J, L ++ [.lst [CO t r s, CO t' r' s']]⟩ : Store).set .gone (.l L.length) = ⟨C2 :: J, L ++ [.gone]⟩ := by
      show (⟨C2 :: J, (L ++ [Cell.lst [CO t r s, CO t' r' s']]).set L.length .gone⟩ : Store) = _
      simp
    have l2 : [CO t r s, CO t' r' s'].length ≤ sizeLine := by rw [sizeLine_eq]; simp
    have e3' : lcM (oneG 11) yesT (callE den__law_made (consA (vE 1) (consA (vE 11) nilA))) [some sc, some (.cell (.g 0)), o2, some (.cell (.l L.length)), o4, o5, o6, o7, o8, o9, o10, none, o12, o13] [CO t r s, CO t' r' s'] ⟨C2 :: J, L ++ [.gone]⟩ = .ok [AO t r s, AO t' r' s'] ⟨C3 :: J3, L ++ [.gone]⟩ := e3
    have n2 : nxs [AO t r s, AO t' r' s'] = true := rfl
    have lc : lcE .l [11] (fun _ m => .ok [CO t r s, CO t' r' s'] m) (oneG 11) yesT (callE den__law_made (consA (vE 1) (consA (vE 11) nilA))) [some sc, some (.cell (.g 0)), o2, some (.cell (.l L.length)), o4, o5, o6, o7, o8, o9, o10, o11, o12, o13] ⟨C2 :: J, L ++ [.gone]⟩ = .ok (.cell (.l (L.length + 1))) ⟨C3 :: J3, L ++ [.gone] ++ [.lst [AO t r s, AO t' r' s']]⟩ := by
      simp only [lcE, bind_ok, if_pos l2, wipeR, List.set_cons_zero, List.set_cons_succ, e3', newL, n2, if_true]
      have : (⟨C3 :: J3, L ++ [.gone]⟩ : Store).next true = .l (L.length + 1) := by
        show Ix.l (L ++ [Cell.gone]).length = _
        simp
      rw [this]
      rfl
    have g1 : (⟨C3 :: J3, L ++ [.gone] ++ [.lst [AO t r s, AO t' r' s']]⟩ : Store).at_ (.l L.length) = some .gone := by
      show (L ++ [Cell.gone] ++ [Cell.lst [AO t r s, AO t' r' s']])[L.length]? = _
      simp
    have g2 : (⟨C3 :: J3, L ++ [.gone] ++ [.lst [AO t r s, AO t' r' s']]⟩ : Store).set (.lst [CO t r s, CO t' r' s']) (.l L.length) = SL C3 J3 L [CO t r s, CO t' r' s'] [AO t r s, AO t' r' s'] [] := by
      show (⟨C3 :: J3, (L ++ [Cell.gone] ++ [Cell.lst [AO t r s, AO t' r' s']]).set L.length (.lst [CO t r s, CO t' r' s'])⟩ : Store) = _
      simp [SL]
    simp only [turn2, setS, lcH, hh, st, lc, undoR, g1, g2, bindS_ok, List.set_cons_zero, List.set_cons_succ]
    rfl
  refine ⟨C3, J3, (t, r, s), (t', r', s'), b3, h1, h1', h2, h3, ?_⟩
  simp only [seqS, s1, seq_nx, s2]
/-! ### the loops that make more -/
abbrev RX (sc : D) (a : Nat) (ρ : Rho) : Prop := ∃ o2 o5 o6 o7 o8 o9 o10 o11 o12 o13 : Option D, ρ = RL sc a o2 o5 o6 o7 o8 o9 o10 o11 o12 o13
theorem get_app {α : Type} {xs ys : List α} {i : Nat} {x : α} (h : xs[i]? = some x) : (xs ++ ys)[i]? = some x := by
  rw [List.getElem?_append_left (List.getElem?_eq_some_iff.mp h).1]; exact h
theorem CX.le {n k : Nat} {x : Tr} (h : CX n x) (hn : n ≤ k) : CX k x := ⟨h.t.le hn, h.r, h.s⟩
theorem loop1 {cs : List PyData} {C : Cell} {J L : List Cell} {sc : D} {ρ : Rho} {x y : Tr} (hC : bagsOk cs C) (hx : CX 8 x) (hy : CX 8 y) (hρ : RX sc L.length ρ) :
    ∃ (C' : Cell) (J' T : List Cell) (ts : List Tr) (ρ' : Rho), bagsOk cs C' ∧ (∀ x ∈ ts, CX 13 x) ∧ 0 < ts.length ∧ ts.length ≤ 7 ∧ ts[0]? = some x ∧ RX sc L.length ρ' ∧ forE (rng1I (consA (callE den__law_take (consA (vE 1) (consA (cE (.int 6)) nilA))) nilA)) (nameG 5) moreB ρ (SL C J L ([x, y].map CT) ([x, y].map AT) []) = .nx ρ' (SL C' J' L (ts.map CT) (ts.map AT) T) := by
  obtain ⟨o2, o5, o6, o7, o8, o9, o10, o11, o12, o13, rfl⟩ := hρ
  obtain ⟨q, C1, q0, q1, b1, e1⟩ := tkd (J := J) (L := L ++ Cell.lst ([x, y].map CT) :: Cell.lst ([x, y].map AT) :: []) (ρ := RL sc L.length o2 o5 o6 o7 o8 o9 o10 o11 o12 o13) (j := 1) 6 hC rfl (by decide) (by decide)
  have rg := rng_ok (consA_ok (g := nilA) e1 rfl) q0 (by omega)
  obtain ⟨ρ', m', f1, hρ', C2, J2, T2, ts, rfl, b2, k1, k2, k3⟩ := forS_cnt (g := nameG 5) (body := moreB) (ds := rngL 0 q.toNat) (n := 0) (ρ := RL sc L.length o2 o5 o6 o7 o8 o9 o10 o11 o12 o13) (m := SL C1 J L ([x, y].map CT) ([x, y].map AT) [])
    (R := fun n ρ m => RX sc L.length ρ ∧ ∃ C J T ts, m = SL C J L (ts.map CT) (ts.map AT) T ∧ bagsOk cs C ∧ (∀ x ∈ ts, CX (8 + n) x) ∧ ts.length = 2 + n ∧ ts[0]? = some x)
    ⟨⟨o2, o5, o6, o7, o8, o9, o10, o11, o12, o13, rfl⟩, C1, J, [], [x, y], rfl, b1, fcons hx (fcons hy (fun x hx => (by cases hx))), rfl, rfl⟩ (by
      rintro d hd n _ hn ρ m ⟨⟨o2, o5, o6, o7, o8, o9, o10, o11, o12, o13, rfl⟩, C, J, T, ts, rfl, hC, h, hl, h0⟩
      rw [rng_len] at hn
      obtain ⟨C', J', T', z, o6', o7', o8', o9', b, hz, e⟩ := more_ok (J := J) (L := L) (T := T) (sc := sc) (o2 := o2) (o5 := some d) (o6 := o6) (o7 := o7) (o8 := o8) (o9 := o9) (o10 := o10) (o11 := o11) (o12 := o12) (o13 := o13) hC h (by omega) (by omega) (by omega)
      refine ⟨_, _, e, ⟨_, _, _, _, _, _, _, _, _, _, rfl⟩, C', J', T', ts ++ [z], rfl, b, fun w hw => ?_, (by rw [List.length_append, hl, List.length_singleton]; omega), get_app h0⟩
      rcases List.mem_append.mp hw with z | z
      · exact (h w z).le (by omega)
      · rw [List.mem_singleton.mp z]; exact hz)
  rw [rng_len] at k1 k2
  refine ⟨C2, J2, T2, ts, ρ', b2, fun w hw => (k1 w hw).le (by omega), by omega, by omega, k3, hρ', ?_⟩
  unfold forE
  rw [show SL C J L ([x, y].map CT) ([x, y].map AT) [] = ⟨C :: J, L ++ Cell.lst ([x, y].map CT) :: Cell.lst ([x, y].map AT) :: []⟩ from rfl, rg]
  exact f1
end K22
namespace K22
open PySem PySem.Spec PyProof.Rows L2 L2.Dn
/-! ### with a rest or a step one less -/
def lessB : FS := (seqS (setS 11 (tupE (consA (calE (dictD .z) (consA (opE ixG (opE ixG (vE 3) (cE (.int 0))) (cE (.int 0))) nilA)) (consA (opE subI (opE ixG (opE ixG (vE 3) (cE (.int 0))) (cE (.int 1))) (opE ixG (vE 10) (cE (.int 0)))) (consA (opE subI (opE ixG (opE ixG (vE 3) (cE (.int 0))) (cE (.int 2))) (opE ixG (vE 10) (cE (.int 1)))) nilA)))))
  (seqS (exprS (metE "list" appendD (vE 3) (consA (vE 11) nilA)))
  (exprS (metE "list" appendD (vE 4) (consA (callE den__law_made (consA (vE 1) (consA (vE 11) nilA))) nilA)))))
def lessI : FI := walkI (lstE .z (consA (tupE (consA (cE (.int 0)) (consA (cE (.int 1)) nilA))) (consA (tupE (consA (cE (.int 1)) (consA (cE (.int 0)) nilA))) nilA)))
theorem less_ok {cs : List PyData} {C : Cell} {J L T : List Cell} {sc : D} {o2 o5 o6 o7 o8 o9 o11 o12 o13 : Option D} {ts : List Tr} {x : Tr} {a b : Int} (hC : bagsOk cs C) (hx : CX 13 x) (h0 : ts[0]? = some x) (hr : x.2.1.natAbs ≤ 10 ^ 39) (hs : x.2.2.natAbs ≤ 10 ^ 9) (ha : a.natAbs ≤ 1) (hb : b.natAbs ≤ 1) (hl : ts.length < 500) :
    ∃ C' J' z o11', bagsOk cs C' ∧ CX 13 z ∧ lessB (RL sc L.length o2 o5 o6 o7 o8 o9 (some (.p (.tuple [.int a, .int b]))) o11 o12 o13) (SL C J L (ts.map CT) (ts.map AT) T) = .nx (RL sc L.length o2 o5 o6 o7 o8 o9 (some (.p (.tuple [.int a, .int b]))) o11' o12 o13) (SL C' J' L ((ts ++ [z]).map CT) ((ts ++ [z]).map AT) T) := by
  obtain ⟨t, r, s⟩ := x
  have hx : Cs 13 t r s := hx
  have hr : r.natAbs ≤ 10 ^ 39 := hr
  have hs : s.natAbs ≤ 10 ^ 9 := hs
  have hz : Cs 13 t (r - a) (s - b) := ⟨hx.t, by unfold okR; omega, by unfold okS; omega⟩
  have g0 : ixG (.cell (.l L.length)) (.p (.int 0)) (SL C J L (ts.map CT) (ts.map AT) T) = some (CO t r s, SL C J L (ts.map CT) (ts.map AT) T) := ix_a (by decide) (get_map (f := CT) h0)
  have t0 : ∀ m : Store, ixG (.p (.tuple [.int a, .int b])) (.p (.int 0)) m = some (.p (.int a), m) := fun _ => rfl
  have t1 : ∀ m : Store, ixG (.p (.tuple [.int a, .int b])) (.p (.int 1)) m = some (.p (.int b), m) := fun _ => rfl
  have tp : tupE (consA (calE (dictD .z) (consA (opE ixG (opE ixG (vE 3) (cE (.int 0))) (cE (.int 0))) nilA)) (consA (opE subI (opE ixG (opE ixG (vE 3) (cE (.int 0))) (cE (.int 1))) (opE ixG (vE 10) (cE (.int 0)))) (consA (opE subI (opE ixG (opE ixG (vE 3) (cE (.int 0))) (cE (.int 2))) (opE ixG (vE 10) (cE (.int 1)))) nilA))) (RL sc L.length o2 o5 o6 o7 o8 o9 (some (.p (.tuple [.int a, .int b]))) o11 o12 o13) (SL C J L (ts.map CT) (ts.map AT) T) = .ok (CO t (r - a) (s - b)) (SL C J L (ts.map CT) (ts.map AT) T) := by
    refine tup_ok (ps := [td t, .int (r - a), .int (s - b)]) (consA_ok (m1 := SL C J L (ts.map CT) (ts.map AT) T) ?_ (consA_ok (m1 := SL C J L (ts.map CT) (ts.map AT) T) ?_ (consA_ok (m1 := SL C J L (ts.map CT) (ts.map AT) T) ?_ rfl))) (by simp)
    · simp only [calE, consA, nilA, opE_eq, vE_0, vE_s, cE, bind_ok, g0, lift_some, co0, dictD_z hx.t (by decide) (dctOf_td t _)]
    · simp only [opE_eq, vE_0, vE_s, cE, bind_ok, g0, lift_some, co1, t0, subI_int]
    · simp only [opE_eq, vE_0, vE_s, cE, bind_ok, g0, lift_some, co2, t1, subI_int]
  have ap := app_a (C := C) (J := J) (L := L) (T := T) (xs := ts.map CT) (ys := ts.map AT) (f := consA (vE 11) nilA) (ρ := RL sc L.length o2 o5 o6 o7 o8 o9 (some (.p (.tuple [.int a, .int b]))) (some (CO t (r - a) (s - b))) o12 o13) (fo := vE 3) rfl rfl rfl nx_co (by rw [List.length_map]; omega)
  obtain ⟨C1, J1, b1, e1⟩ := made_call (J := J) (L := L ++ Cell.lst (ts.map CT ++ [CO t (r - a) (s - b)]) :: Cell.lst (ts.map AT) :: T) (ρ := RL sc L.length o2 o5 o6 o7 o8 o9 (some (.p (.tuple [.int a, .int b]))) (some (CO t (r - a) (s - b))) o12 o13) (f1 := vE 1) (f2 := vE 11) hC hz (by decide) rfl rfl
  have ap2 := app_b (C := C) (J := J) (L := L) (T := T) (xs := ts.map CT ++ [CO t (r - a) (s - b)]) (ys := ts.map AT) (J' := J1) (T' := T) (C' := C1) (x := AO t (r - a) (s - b)) (f := consA (callE den__law_made (consA (vE 1) (consA (vE 11) nilA))) nilA) (ρ := RL sc L.length o2 o5 o6 o7 o8 o9 (some (.p (.tuple [.int a, .int b]))) (some (CO t (r - a) (s - b))) o12 o13) (fo := vE 4) rfl rfl (consA_ok e1 rfl) nx_ao (by rw [List.length_map]; omega)
  refine ⟨C1, J1, (t, r - a, s - b), some (CO t (r - a) (s - b)), b1, hz, ?_⟩
  unfold lessB
  simp only [seqS, setS, tp, bindS_ok, seq_nx, List.set_cons_zero, List.set_cons_succ, ap, ap2]
  simp only [List.map_append, List.map_cons, List.map_nil, CT, AT]
theorem loop2 {cs : List PyData} {C : Cell} {J L T : List Cell} {sc : D} {ρ : Rho} {ts : List Tr} {x : Tr} (hC : bagsOk cs C) (h : ∀ x ∈ ts, CX 13 x) (h0 : ts[0]? = some x) (hr : x.2.1.natAbs ≤ 10 ^ 39) (hs : x.2.2.natAbs ≤ 10 ^ 9) (hl : ts.length ≤ 7) (hρ : RX sc L.length ρ) :
    ∃ (C' : Cell) (J' : List Cell) (ts' : List Tr) (ρ' : Rho), bagsOk cs C' ∧ (∀ x ∈ ts', CX 13 x) ∧ ts'.length ≤ 9 ∧ ts'[0]? = some x ∧ RX sc L.length ρ' ∧ forE lessI (nameG 10) lessB ρ (SL C J L (ts.map CT) (ts.map AT) T) = .nx ρ' (SL C' J' L (ts'.map CT) (ts'.map AT) T) := by
  obtain ⟨o2, o5, o6, o7, o8, o9, o10, o11, o12, o13, rfl⟩ := hρ
  have hx := h x (List.mem_of_getElem? h0)
  obtain ⟨C1, J1, z1, p11, b1, k1, e1⟩ := less_ok (J := J) (L := L) (T := T) (sc := sc) (o2 := o2) (o5 := o5) (o6 := o6) (o7 := o7) (o8 := o8) (o9 := o9) (o11 := o11) (o12 := o12) (o13 := o13) (a := 0) (b := 1) hC hx h0 hr hs (by decide) (by decide) (by omega)
  have h1 : ∀ x ∈ ts ++ [z1], CX 13 x := fun w hw => (List.mem_append.mp hw).elim (h w) fun q => by rw [List.mem_singleton.mp q]; exact k1
  obtain ⟨C2, J2, z2, p12, b2, k2, e2⟩ := less_ok (J := J1) (L := L) (T := T) (sc := sc) (o2 := o2) (o5 := o5) (o6 := o6) (o7 := o7) (o8 := o8) (o9 := o9) (o11 := p11) (o12 := o12) (o13 := o13) (a := 1) (b := 0) b1 hx (get_app (ys := [z1]) h0) hr hs (by decide) (by decide) (by rw [List.length_append, List.length_singleton]; omega)
  refine ⟨C2, J2, ts ++ [z1] ++ [z2], _, b2, fun w hw => (List.mem_append.mp hw).elim (h1 w) fun q => (by rw [List.mem_singleton.mp q]; exact k2), (by simp; omega), get_app (get_app h0), ⟨o2, o5, o6, o7, o8, o9, some (.p (.tuple [.int 1, .int 0])), p12, o12, o13, rfl⟩, ?_⟩
  have it : ∀ ρ m, lessI ρ m = .ok [.p (.tuple [.int 0, .int 1]), .p (.tuple [.int 1, .int 0])] m := fun _ _ => rfl
  have n1 : ∀ (d : D) (q : Option D) (m : Store), nameG 10 d (RL sc L.length o2 o5 o6 o7 o8 o9 o10 q o12 o13) m = .nx (RL sc L.length o2 o5 o6 o7 o8 o9 (some d) q o12 o13) m := fun _ _ _ => rfl
  have n2 : ∀ (d d' : D) (q : Option D) (m : Store), nameG 10 d (RL sc L.length o2 o5 o6 o7 o8 o9 (some d') q o12 o13) m = .nx (RL sc L.length o2 o5 o6 o7 o8 o9 (some d) q o12 o13) m := fun _ _ _ _ => rfl
  simp only [forE, it, bindS_ok, forS, n1, seq_nx, e1, n2, e2]
/-! ### always -/
theorem always_ok {v : Int} {G : List Cell} : den_Answers_always [.p (.int v)] G = .ok (AO [] v 0) (G ++ [.gone]) := by
  rw [eq_Answers_always]
  have mk := make_ok (d := .p .none) (r := v) (s := 0) (G := G) (l := []) (OkT.nil 0) (by decide) (told_none _)
  have ar : ∀ a : D, gd_Answers_0_rest [a] [.p (.int v)] = [a, .p .none, .p (.int v), .p (.int 0)] := fun _ => rfl
  unfold body_Answers_always
  simp only [retS, makeE, nilA, consA, vE_0, bind_ok, List.length_cons, List.length_nil, and_self, if_true, ar, mk, bindS_ok]
  rfl
def alwL : List PyData := [.int 0, .int 4, .int (-1), .int (10 ^ 39)]
theorem alwL_ok : ∀ p ∈ alwL, ∃ i : Int, p = .int i ∧ i.natAbs ≤ 10 ^ 39 :=
  fcons ⟨0, rfl, by decide⟩ (fcons ⟨4, rfl, by decide⟩ (fcons ⟨-1, rfl, by decide⟩ (fcons ⟨_, rfl, by decide⟩ (fun x hx => (by cases hx)))))
def alwS (k : FS) : FS := (seqS (setS 8 (opE ixG (lstE .z (consA (cE (.int 0)) (consA (cE (.int 4)) (consA (unE negI (cE (.int 1))) (consA (opE powI (cE (.int 10)) (cE (.int 39))) nilA))))) (callE den__law_take (consA (vE 1) (consA (cE (.int 4)) nilA)))))
  (seqS (exprS (metE "list" appendD (vE 3) (consA (tupE (consA (dct0E .z) (consA (vE 8) (consA (cE (.int 0)) nilA)))) nilA)))
  (seqS (exprS (metE "list" appendD (vE 4) (consA (callE den_Answers_always (consA (vE 8) nilA)) nilA))) k)))
theorem alw_ok {cs : List PyData} {C : Cell} {J L T : List Cell} {sc : D} {ρ : Rho} {ts : List Tr} {k : FS} (hC : bagsOk cs C) (hl : ts.length ≤ 9) (hρ : RX sc L.length ρ) :
    ∃ (C' : Cell) (J' : List Cell) (v : Int) (ρ' : Rho), bagsOk cs C' ∧ CX 13 ([], v, 0) ∧ RX sc L.length ρ' ∧ ρ'[8]? = some (some (.p (.int v))) ∧ alwS k ρ (SL C J L (ts.map CT) (ts.map AT) T) = k ρ' (SL C' J' L ((ts ++ [([], v, 0)]).map CT) ((ts ++ [([], v, 0)]).map AT) T) := by
  obtain ⟨o2, o5, o6, o7, o8, o9, o10, o11, o12, o13, rfl⟩ := hρ
  obtain ⟨q, C1, q0, q1, b1, e1⟩ := tkd (J := J) (L := L ++ Cell.lst (ts.map CT) :: Cell.lst (ts.map AT) :: T) (ρ := RL sc L.length o2 o5 o6 o7 o8 o9 o10 o11 o12 o13) (j := 1) 4 hC rfl (by decide) (by decide)
  obtain ⟨p, p1, p2⟩ := at_of (xs := alwL) q0 q1
  obtain ⟨v, rfl, hv⟩ := alwL_ok p p2
  have ix := ix_ok (ps := alwL) (fa := lstE .z (consA (cE (.int 0)) (consA (cE (.int 4)) (consA (unE negI (cE (.int 1))) (consA (opE powI (cE (.int 10)) (cE (.int 39))) nilA))))) rfl e1 q0 p1
  have s8 : setS 8 (opE ixG (lstE .z (consA (cE (.int 0)) (consA (cE (.int 4)) (consA (unE negI (cE (.int 1))) (consA (opE powI (cE (.int 10)) (cE (.int 39))) nilA))))) (callE den__law_take (consA (vE 1) (consA (cE (.int 4)) nilA)))) (RL sc L.length o2 o5 o6 o7 o8 o9 o10 o11 o12 o13) (SL C J L (ts.map CT) (ts.map AT) T) = .nx (RL sc L.length o2 o5 o6 o7 (some (.p (.int v))) o9 o10 o11 o12 o13) (SL C1 J L (ts.map CT) (ts.map AT) T) := by
    unfold setS
    rw [show SL C J L (ts.map CT) (ts.map AT) T = ⟨C :: J, L ++ Cell.lst (ts.map CT) :: Cell.lst (ts.map AT) :: T⟩ from rfl, ix]
    rfl
  have ap := app_a (C := C1) (J := J) (L := L) (T := T) (xs := ts.map CT) (ys := ts.map AT) (C' := C1) (J' := J) (T' := T) (x := CO [] v 0) (f := consA (tupE (consA (dct0E .z) (consA (vE 8) (consA (cE (.int 0)) nilA)))) nilA) (ρ := RL sc L.length o2 o5 o6 o7 (some (.p (.int v))) o9 o10 o11 o12 o13) (fo := vE 3) rfl rfl rfl nx_co (by rw [List.length_map]; omega)
  have al : callE den_Answers_always (consA (vE 8) nilA) (RL sc L.length o2 o5 o6 o7 (some (.p (.int v))) o9 o10 o11 o12 o13) (SL C1 J L (ts.map CT ++ [CO [] v 0]) (ts.map AT) T) = .ok (AO [] v 0) (SL C1 (J ++ [.gone]) L (ts.map CT ++ [CO [] v 0]) (ts.map AT) T) := by
    simp only [callE, consA, nilA, vE_0, vE_s, bind_ok]
    unfold callR
    rw [if_pos (by rfl), show (SL C1 J L (ts.map CT ++ [CO [] v 0]) (ts.map AT) T).g = C1 :: J from rfl, always_ok]
    rfl
  have ap2 := app_b (C := C1) (J := J) (L := L) (T := T) (xs := ts.map CT ++ [CO [] v 0]) (ys := ts.map AT) (J' := J ++ [.gone]) (T' := T) (C' := C1) (x := AO [] v 0) (f := consA (callE den_Answers_always (consA (vE 8) nilA)) nilA) (ρ := RL sc L.length o2 o5 o6 o7 (some (.p (.int v))) o9 o10 o11 o12 o13) (fo := vE 4) rfl rfl (consA_ok al rfl) nx_ao (by rw [List.length_map]; omega)
  refine ⟨C1, J ++ [.gone], v, _, b1, ⟨OkT.nil 13, (by show v.natAbs ≤ 2 * 10 ^ 39; omega), (by show (0 : Int).natAbs ≤ 2 * 10 ^ 9; decide)⟩, ⟨o2, o5, o6, o7, some (.p (.int v)), o9, o10, o11, o12, o13, rfl⟩, rfl, ?_⟩
  unfold alwS
  simp only [seqS, s8, seq_nx, ap, ap2]
  simp only [List.map_append, List.map_cons, List.map_nil, CT, AT]
end K22
namespace K22
open PySem PySem.Spec PyProof.Rows L2 L2.Dn
/-! ### each is right, each two are equal just if they are the same -/
def pairB : FS := (seqS (setS 13 (callE den__law_are_same (consA (opE ixG (vE 3) (vE 5)) (consA (opE ixG (vE 3) (vE 12)) nilA))))
  (ifS (notT (tvE (callE den__law_alike (consA (lstE .z (consA (opE (eqH false [("Answers", den_Answers___eq__)]) (opE ixG (vE 4) (vE 5)) (opE ixG (vE 4) (vE 12))) (consA (opE (eqH true [("Answers", den_Answers___eq__)]) (opE ixG (vE 4) (vE 5)) (opE ixG (vE 4) (vE 12))) nilA))) (consA (lstE .z (consA (vE 13) (consA (notE (vE 13)) nilA))) nilA))))) (retS (cE (.bool false))) nilS))
theorem fine_bb (b : Bool) : fine (.list [.bool b, .bool (!b)]) = true := by cases b <;> decide +kernel
theorem pair_ok {C : Cell} {J L T : List Cell} {sc : D} {o2 o6 o7 o8 o9 o10 o11 o13 : Option D} {ts : List Tr} {i j : Int} (h : ∀ x ∈ ts, CX 13 x) (i0 : 0 ≤ i) (i1 : i < ts.length) (j0 : 0 ≤ j) (j1 : j < ts.length) :
    ∃ o13', pairB (RL sc L.length o2 (some (.p (.int i))) o6 o7 o8 o9 o10 o11 (some (.p (.int j))) o13) (SL C J L (ts.map CT) (ts.map AT) T) = .nx (RL sc L.length o2 (some (.p (.int i))) o6 o7 o8 o9 o10 o11 (some (.p (.int j))) o13') (SL C J L (ts.map CT) (ts.map AT) T) := by
  obtain ⟨⟨t, r, s⟩, x1, x2⟩ := at_of (xs := ts) i0 i1
  obtain ⟨⟨t', r', s'⟩, y1, y2⟩ := at_of (xs := ts) j0 j1
  have hx : Cs 13 t r s := h _ x2
  have hy : Cs 13 t' r' s' := h _ y2
  have ai : ixG (.cell (.l L.length)) (.p (.int i)) (SL C J L (ts.map CT) (ts.map AT) T) = some (CO t r s, SL C J L (ts.map CT) (ts.map AT) T) := ix_a i0 (get_map (f := CT) x1)
  have aj : ixG (.cell (.l L.length)) (.p (.int j)) (SL C J L (ts.map CT) (ts.map AT) T) = some (CO t' r' s', SL C J L (ts.map CT) (ts.map AT) T) := ix_a j0 (get_map (f := CT) y1)
  have bi : ixG (.cell (.l (L.length + 1))) (.p (.int i)) (SL C J L (ts.map CT) (ts.map AT) T) = some (AO t r s, SL C J L (ts.map CT) (ts.map AT) T) := ix_b i0 (get_map (f := AT) x1)
  have bj : ixG (.cell (.l (L.length + 1))) (.p (.int j)) (SL C J L (ts.map CT) (ts.map AT) T) = some (AO t' r' s', SL C J L (ts.map CT) (ts.map AT) T) := ix_b j0 (get_map (f := AT) y1)
  have ca : callR den__law_are_same [CO t r s, CO t' r' s'] (SL C J L (ts.map CT) (ts.map AT) T) = .ok (.p (.bool (sameC t r s t' r' s'))) (SL C J L (ts.map CT) (ts.map AT) T) := call2 (are_ok (G := C :: J) hx.t hy.t (by decide) hx.s hy.s)
  have s13 : setS 13 (callE den__law_are_same (consA (opE ixG (vE 3) (vE 5)) (consA (opE ixG (vE 3) (vE 12)) nilA))) (RL sc L.length o2 (some (.p (.int i))) o6 o7 o8 o9 o10 o11 (some (.p (.int j))) o13) (SL C J L (ts.map CT) (ts.map AT) T) = .nx (RL sc L.length o2 (some (.p (.int i))) o6 o7 o8 o9 o10 o11 (some (.p (.int j))) (some (.p (.bool (sameC t r s t' r' s'))))) (SL C J L (ts.map CT) (ts.map AT) T) := by
    simp only [setS, callE, consA, nilA, opE_eq, vE_0, vE_s, bind_ok, ai, aj, lift_some, ca, bindS_ok, List.set_cons_zero, List.set_cons_succ]
  have eq_ : ∀ neg : Bool, eqH neg [("Answers", den_Answers___eq__)] (AO t r s) (AO t' r' s') (SL C J L (ts.map CT) (ts.map AT) T) = some (.p (.bool (if neg then !sameC t r s t' r' s' else sameC t r s t' r' s')), SL C J L (ts.map CT) (ts.map AT) T) := fun neg => by
    have := eqH_ao (neg := neg) (G := C :: J) (l := L ++ Cell.lst (ts.map CT) :: Cell.lst (ts.map AT) :: T) hx.t hy.t (r := r) (r' := r') (by decide) hx.s hy.s
    rw [eqA_same hx.t hy.t] at this
    exact this
  have l1 : lstE .z (consA (opE (eqH false [("Answers", den_Answers___eq__)]) (opE ixG (vE 4) (vE 5)) (opE ixG (vE 4) (vE 12))) (consA (opE (eqH true [("Answers", den_Answers___eq__)]) (opE ixG (vE 4) (vE 5)) (opE ixG (vE 4) (vE 12))) nilA)) (RL sc L.length o2 (some (.p (.int i))) o6 o7 o8 o9 o10 o11 (some (.p (.int j))) (some (.p (.bool (sameC t r s t' r' s'))))) (SL C J L (ts.map CT) (ts.map AT) T) = .ok (.p (.list [.bool (sameC t r s t' r' s'), .bool (!sameC t r s t' r' s')])) (SL C J L (ts.map CT) (ts.map AT) T) := by
    refine lst_ok (ps := [.bool (sameC t r s t' r' s'), .bool (!sameC t r s t' r' s')]) (consA_ok (m1 := SL C J L (ts.map CT) (ts.map AT) T) ?_ (consA_ok (m1 := SL C J L (ts.map CT) (ts.map AT) T) ?_ rfl)) (by simp)
    · simp only [opE_eq, vE_0, vE_s, bind_ok, bi, bj, lift_some, eq_, Bool.false_eq_true, if_false]
    · simp only [opE_eq, vE_0, vE_s, bind_ok, bi, bj, lift_some, eq_, if_true]
  have l2 : lstE .z (consA (vE 13) (consA (notE (vE 13)) nilA)) (RL sc L.length o2 (some (.p (.int i))) o6 o7 o8 o9 o10 o11 (some (.p (.int j))) (some (.p (.bool (sameC t r s t' r' s'))))) (SL C J L (ts.map CT) (ts.map AT) T) = .ok (.p (.list [.bool (sameC t r s t' r' s'), .bool (!sameC t r s t' r' s')])) (SL C J L (ts.map CT) (ts.map AT) T) :=
    lst_ok (ps := [.bool (sameC t r s t' r' s'), .bool (!sameC t r s t' r' s')]) rfl (by simp)
  have al : callR den__law_alike [.p (.list [.bool (sameC t r s t' r' s'), .bool (!sameC t r s t' r' s')]), .p (.list [.bool (sameC t r s t' r' s'), .bool (!sameC t r s t' r' s')])] (SL C J L (ts.map CT) (ts.map AT) T) = .ok (.p (.bool true)) (SL C J L (ts.map CT) (ts.map AT) T) := call2 (alike_fine (g := C :: J) (fine_bb _))
  have tt : notT (tvE (callE den__law_alike (consA (lstE .z (consA (opE (eqH false [("Answers", den_Answers___eq__)]) (opE ixG (vE 4) (vE 5)) (opE ixG (vE 4) (vE 12))) (consA (opE (eqH true [("Answers", den_Answers___eq__)]) (opE ixG (vE 4) (vE 5)) (opE ixG (vE 4) (vE 12))) nilA))) (consA (lstE .z (consA (vE 13) (consA (notE (vE 13)) nilA))) nilA)))) (RL sc L.length o2 (some (.p (.int i))) o6 o7 o8 o9 o10 o11 (some (.p (.int j))) (some (.p (.bool (sameC t r s t' r' s'))))) (SL C J L (ts.map CT) (ts.map AT) T) = .ok false (SL C J L (ts.map CT) (ts.map AT) T) := by
    simp only [notT, tvE, callE, consA_ok l1 (consA_ok l2 (g := nilA) rfl), bind_ok, al, tru_b, Bool.not_true]
  refine ⟨some (.p (.bool (sameC t r s t' r' s'))), ?_⟩
  unfold pairB
  simp only [seqS, s13, seq_nx, ifS, tt, bindS_ok, Bool.false_eq_true, if_false, nilS]
theorem rng_mem {n : Nat} {d : D} (h : d ∈ rngL 0 n) : ∃ k : Int, d = .p (.int k) ∧ 0 ≤ k ∧ k < n := by
  simp only [rngL, List.mem_map, List.mem_range] at h
  obtain ⟨k, hk, rfl⟩ := h
  exact ⟨_, rfl, by omega, by omega⟩
def lenI : FI := rng1I (consA (calE lenG (consA (vE 3) nilA)) nilA)
theorem lenI_ok {C : Cell} {J L T : List Cell} {xs ys : List D} {ρ : Rho} (hρ : ρ[3]? = some (some (.cell (.l L.length)))) (hl : xs.length < 1000) : lenI ρ (SL C J L xs ys T) = .ok (rngL 0 xs.length) (SL C J L xs ys T) := by
  have v : ∀ m : Store, vE 3 ρ m = .ok (.cell (.l L.length)) m := fun m => by unfold vE; rw [hρ]
  have := rng_ok (fl := consA (calE lenG (consA (vE 3) nilA)) nilA) (ρ := ρ) (m := SL C J L xs ys T) (m1 := SL C J L xs ys T) (r := xs.length) (by simp only [consA, nilA, calE, v, bind_ok, len_a, lift_some]) (by omega) (by omega)
  rw [Int.toNat_natCast] at this
  exact this
def chkB : FS := (seqS (ifS (notT (tvE (callE den__law_right (consA (vE 1) (consA (opE ixG (vE 4) (vE 5)) (consA (opE ixG (vE 3) (vE 5)) nilA)))))) (retS (cE (.bool false))) nilS) (forE lenI (nameG 12) pairB))
theorem chk_ok {cs : List PyData} {C : Cell} {J L T : List Cell} {sc : D} {o2 o6 o7 o8 o9 o10 o11 o12 o13 : Option D} {ts : List Tr} {i : Int} (hC : bagsOk cs C) (h : ∀ x ∈ ts, CX 13 x) (i0 : 0 ≤ i) (i1 : i < ts.length) (hl : ts.length ≤ 10) :
    ∃ C' J' o12' o13', bagsOk cs C' ∧ chkB (RL sc L.length o2 (some (.p (.int i))) o6 o7 o8 o9 o10 o11 o12 o13) (SL C J L (ts.map CT) (ts.map AT) T) = .nx (RL sc L.length o2 (some (.p (.int i))) o6 o7 o8 o9 o10 o11 o12' o13') (SL C' J' L (ts.map CT) (ts.map AT) T) := by
  obtain ⟨⟨t, r, s⟩, x1, x2⟩ := at_of (xs := ts) i0 i1
  have hx : Cs 13 t r s := h _ x2
  have ai : ixG (.cell (.l L.length)) (.p (.int i)) (SL C J L (ts.map CT) (ts.map AT) T) = some (CO t r s, SL C J L (ts.map CT) (ts.map AT) T) := ix_a i0 (get_map (f := CT) x1)
  have bi : ixG (.cell (.l (L.length + 1))) (.p (.int i)) (SL C J L (ts.map CT) (ts.map AT) T) = some (AO t r s, SL C J L (ts.map CT) (ts.map AT) T) := ix_b i0 (get_map (f := AT) x1)
  obtain ⟨C1, J1, b1, e1⟩ := right_den (J := J) hC hx (by decide)
  have cr : callR den__law_right [.cell (.g 0), AO t r s, CO t r s] (SL C J L (ts.map CT) (ts.map AT) T) = .ok (.p (.bool true)) (SL C1 J1 L (ts.map CT) (ts.map AT) T) := by
    unfold callR
    rw [if_pos (by rfl), show (SL C J L (ts.map CT) (ts.map AT) T).g = C :: J from rfl, e1]
    rfl
  have tt : notT (tvE (callE den__law_right (consA (vE 1) (consA (opE ixG (vE 4) (vE 5)) (consA (opE ixG (vE 3) (vE 5)) nilA))))) (RL sc L.length o2 (some (.p (.int i))) o6 o7 o8 o9 o10 o11 o12 o13) (SL C J L (ts.map CT) (ts.map AT) T) = .ok false (SL C1 J1 L (ts.map CT) (ts.map AT) T) := by
    simp only [notT, tvE, callE, consA, nilA, opE_eq, vE_0, vE_s, bind_ok, ai, bi, lift_some, cr, tru_b, Bool.not_true]
  have rg := lenI_ok (C := C1) (J := J1) (L := L) (T := T) (xs := ts.map CT) (ys := ts.map AT) (ρ := RL sc L.length o2 (some (.p (.int i))) o6 o7 o8 o9 o10 o11 o12 o13) rfl (by rw [List.length_map]; omega)
  rw [List.length_map] at rg
  obtain ⟨ρ', m', f1, p12, p13, rfl, rfl⟩ := forS_inv (g := nameG 12) (body := pairB) (ds := rngL 0 ts.length) (ρ := RL sc L.length o2 (some (.p (.int i))) o6 o7 o8 o9 o10 o11 o12 o13) (m := SL C1 J1 L (ts.map CT) (ts.map AT) T) (R := fun ρ m => ∃ p12 p13, ρ = RL sc L.length o2 (some (.p (.int i))) o6 o7 o8 o9 o10 o11 p12 p13 ∧ m = SL C1 J1 L (ts.map CT) (ts.map AT) T)
    ⟨o12, o13, rfl, rfl⟩ (by
      rintro d hd ρ m ⟨p12, p13, rfl, rfl⟩
      obtain ⟨j, rfl, j0, j1⟩ := rng_mem hd
      obtain ⟨q13, e⟩ := pair_ok (C := C1) (J := J1) (L := L) (T := T) (sc := sc) (o2 := o2) (o6 := o6) (o7 := o7) (o8 := o8) (o9 := o9) (o10 := o10) (o11 := o11) (o13 := p13) h i0 i1 j0 j1
      exact ⟨_, _, e, _, _, rfl, rfl⟩)
  refine ⟨C1, J1, p12, p13, b1, ?_⟩
  unfold chkB
  simp only [seqS, ifS, tt, bindS_ok, Bool.false_eq_true, if_false, nilS, seq_nx, forE, rg]
  exact f1
theorem loop3 {cs : List PyData} {C : Cell} {J L T : List Cell} {sc : D} {ρ : Rho} {ts : List Tr} {v : Int} (hC : bagsOk cs C) (h : ∀ x ∈ ts, CX 13 x) (hl : ts.length ≤ 10) (hρ : RX sc L.length ρ) (h8 : ρ[8]? = some (some (.p (.int v)))) :
    ∃ (C' : Cell) (J' : List Cell) (ρ' : Rho), bagsOk cs C' ∧ RX sc L.length ρ' ∧ ρ'[8]? = some (some (.p (.int v))) ∧ forE lenI (nameG 5) chkB ρ (SL C J L (ts.map CT) (ts.map AT) T) = .nx ρ' (SL C' J' L (ts.map CT) (ts.map AT) T) := by
  obtain ⟨o2, o5, o6, o7, o8, o9, o10, o11, o12, o13, rfl⟩ := hρ
  have e8 : o8 = some (.p (.int v)) := Option.some.inj h8
  subst e8
  have rg := lenI_ok (C := C) (J := J) (L := L) (T := T) (xs := ts.map CT) (ys := ts.map AT) (ρ := RL sc L.length o2 o5 o6 o7 (some (.p (.int v))) o9 o10 o11 o12 o13) rfl (by rw [List.length_map]; omega)
  rw [List.length_map] at rg
  obtain ⟨ρ', m', f1, p5, p12, p13, C1, J1, rfl, rfl, b1⟩ := forS_inv (g := nameG 5) (body := chkB) (ds := rngL 0 ts.length) (ρ := RL sc L.length o2 o5 o6 o7 (some (.p (.int v))) o9 o10 o11 o12 o13) (m := SL C J L (ts.map CT) (ts.map AT) T) (R := fun ρ m => ∃ p5 p12 p13 C J, ρ = RL sc L.length o2 p5 o6 o7 (some (.p (.int v))) o9 o10 o11 p12 p13 ∧ m = SL C J L (ts.map CT) (ts.map AT) T ∧ bagsOk cs C)
    ⟨o5, o12, o13, C, J, rfl, rfl, hC⟩ (by
      rintro d hd ρ m ⟨p5, p12, p13, C, J, rfl, rfl, hC⟩
      obtain ⟨i, rfl, i0, i1⟩ := rng_mem hd
      obtain ⟨C', J', q12, q13, b, e⟩ := chk_ok (J := J) (L := L) (T := T) (sc := sc) (o2 := o2) (o6 := o6) (o7 := o7) (o8 := some (.p (.int v))) (o9 := o9) (o10 := o10) (o11 := o11) (o12 := p12) (o13 := p13) hC h i0 i1 hl
      exact ⟨_, _, e, _, _, _, C', J', rfl, rfl, b⟩)
  refine ⟨C1, J1, RL sc L.length o2 p5 o6 o7 (some (.p (.int v))) o9 o10 o11 p12 p13, b1, ⟨o2, p5, o6, o7, some (.p (.int v)), o9, o10, o11, p12, p13, rfl⟩, rfl, ?_⟩
  simp only [forE, rg, bindS_ok]
  exact f1
end K22
namespace K22
open PySem PySem.Spec PyProof.Rows L2 L2.Dn
def endS : FS := (ifS (orT (testE (opE (eqH false [("Answers", den_Answers___eq__)]) (opE ixG (vE 4) (cE (.int 0))) (opE ixG (opE ixG (vE 3) (cE (.int 0))) (cE (.int 0))))) (orT (testE (opE (eqH false [("Answers", den_Answers___eq__)]) (opE ixG (vE 4) (cE (.int 0))) (cE .none))) (testE (opE (eqH false [("Answers", den_Answers___eq__)]) (opE ixG (vE 4) (unE negI (cE (.int 1)))) (vE 8))))) (retS (cE (.bool false))) nilS)
theorem ix_last {C : Cell} {J L T : List Cell} {xs ys : List D} {y : D} : ixG (.cell (.l (L.length + 1))) (.p (.int (-1))) (SL C J L xs (ys ++ [y]) T) = some (y, SL C J L xs (ys ++ [y]) T) := by
  have e : L2.atI (ys ++ [y]) (-1) = some y := by
    unfold L2.atI L2.ixN
    rw [if_neg (by decide), if_pos (by rw [List.length_append, List.length_singleton]; omega)]
    have : ((-1 : Int) + ((ys ++ [y]).length : Nat)).toNat = ys.length := by rw [List.length_append, List.length_singleton]; omega
    show (ys ++ [y])[_]? = _
    rw [this]
    simp
  refine alt_some ?_
  simp only [ixD, tupOf, lstOf, sl_b, e]
  rfl
theorem end_ok {C : Cell} {J L T : List Cell} {sc : D} {ρ : Rho} {ts : List Tr} {x : Tr} {v : Int} (h0 : ts[0]? = some x) (hρ : RX sc L.length ρ) (h8 : ρ[8]? = some (some (.p (.int v)))) :
    endS ρ (SL C J L ((ts ++ [([], v, 0)]).map CT) ((ts ++ [([], v, 0)]).map AT) T) = .nx ρ (SL C J L ((ts ++ [([], v, 0)]).map CT) ((ts ++ [([], v, 0)]).map AT) T) := by
  obtain ⟨o2, o5, o6, o7, o8, o9, o10, o11, o12, o13, rfl⟩ := hρ
  have e8 : o8 = some (.p (.int v)) := Option.some.inj h8
  subst e8
  obtain ⟨t, r, s⟩ := x
  have h1 := get_app (ys := [(([], v, 0) : Tr)]) h0
  have a0 : ixG (.cell (.l L.length)) (.p (.int 0)) (SL C J L ((ts ++ [([], v, 0)]).map CT) ((ts ++ [([], v, 0)]).map AT) T) = some (CO t r s, SL C J L ((ts ++ [([], v, 0)]).map CT) ((ts ++ [([], v, 0)]).map AT) T) := ix_a (by decide) (get_map (f := CT) h1)
  have b0 : ixG (.cell (.l (L.length + 1))) (.p (.int 0)) (SL C J L ((ts ++ [([], v, 0)]).map CT) ((ts ++ [([], v, 0)]).map AT) T) = some (AO t r s, SL C J L ((ts ++ [([], v, 0)]).map CT) ((ts ++ [([], v, 0)]).map AT) T) := ix_b (by decide) (get_map (f := AT) h1)
  have b9 : ixG (.cell (.l (L.length + 1))) (.p (.int (-1))) (SL C J L ((ts ++ [([], v, 0)]).map CT) ((ts ++ [([], v, 0)]).map AT) T) = some (AO [] v 0, SL C J L ((ts ++ [([], v, 0)]).map CT) ((ts ++ [([], v, 0)]).map AT) T) := by
    rw [List.map_append (f := AT)]
    exact ix_last
  have q : ∀ (t : Tab) (r s : Int) (p : PyData), (∃ ty, ∀ m, tyN (.p p) m = some ty) → eqH false [("Answers", den_Answers___eq__)] (AO t r s) (.p p) (SL C J L ((ts ++ [([], v, 0)]).map CT) ((ts ++ [([], v, 0)]).map AT) T) = some (.p (.bool false), SL C J L ((ts ++ [([], v, 0)]).map CT) ((ts ++ [([], v, 0)]).map AT) T) := fun t r s p hp => eqH_aop hp
  have q1 := q t r s (td t) ⟨"dict", fun _ => rfl⟩
  have q2 := q t r s .none ⟨"NoneType", fun _ => rfl⟩
  have q3 := q [] v 0 (.int v) ⟨"int", fun _ => rfl⟩
  unfold endS
  simp only [ifS, orT, testE, opE_eq, vE_0, vE_s, cE, bind_ok, a0, b0, lift_some, co0, q1, testR_ok, Bool.false_eq_true, if_false, q2, unE, negI_int, b9, q3, bindS_ok, nilS]
def turnB : FS := seqS turn1 (seqS turn2 (seqS (forE (rng1I (consA (callE den__law_take (consA (vE 1) (consA (cE (.int 6)) nilA))) nilA)) (nameG 5) moreB) (seqS (forE lessI (nameG 10) lessB) (alwS (seqS (forE lenI (nameG 5) chkB) endS)))))
theorem turn_ok {cs : List PyData} {C : Cell} {J L : List Cell} {sc : D} {o2 o3 o4 o5 o6 o7 o8 o9 o10 o11 o12 o13 : Option D} (hC : bagsOk cs C) :
    ∃ (C' : Cell) (J' L' : List Cell) (a : Nat) (ρ' : Rho), bagsOk cs C' ∧ RX sc a ρ' ∧ turnB [some sc, some (.cell (.g 0)), o2, o3, o4, o5, o6, o7, o8, o9, o10, o11, o12, o13] ⟨C :: J, L⟩ = .nx ρ' ⟨C' :: J', L'⟩ := by
  obtain ⟨C1, J1, x, y, b1, hx, hy, hr, hs, e1⟩ := turn12 (J := J) (L := L) (sc := sc) (o2 := o2) (o3 := o3) (o4 := o4) (o5 := o5) (o6 := o6) (o7 := o7) (o8 := o8) (o9 := o9) (o10 := o10) (o11 := o11) (o12 := o12) (o13 := o13) (k := seqS (forE (rng1I (consA (callE den__law_take (consA (vE 1) (consA (cE (.int 6)) nilA))) nilA)) (nameG 5) moreB) (seqS (forE lessI (nameG 10) lessB) (alwS (seqS (forE lenI (nameG 5) chkB) endS)))) hC
  obtain ⟨C2, J2, T, ts, ρ2, b2, h2, l2, l2', x2, r2, e2⟩ := loop1 (J := J1) (L := L) b1 hx hy ⟨o2, o5, o6, o7, o8, o9, o10, o11, o12, o13, rfl⟩
  obtain ⟨C3, J3, ts3, ρ3, b3, h3, l3, x3, r3, e3⟩ := loop2 (J := J2) (L := L) (T := T) b2 h2 x2 hr hs l2' r2
  obtain ⟨C4, J4, v, ρ4, b4, hv, r4, k8, e4⟩ := alw_ok (J := J3) (L := L) (T := T) (k := seqS (forE lenI (nameG 5) chkB) endS) b3 l3 r3
  obtain ⟨C5, J5, ρ5, b5, r5, k5, e5⟩ := loop3 (J := J4) (L := L) (T := T) (ts := ts3 ++ [([], v, 0)]) b4 (fun w hw => (List.mem_append.mp hw).elim (h3 w) fun q => by rw [List.mem_singleton.mp q]; exact hv) (by rw [List.length_append, List.length_singleton]; omega) r4 k8
  have e6 := end_ok (C := C5) (J := J5) (T := T) x3 r5 k5
  refine ⟨C5, J5, L ++ Cell.lst ((ts3 ++ [([], v, 0)]).map CT) :: Cell.lst ((ts3 ++ [([], v, 0)]).map AT) :: T, L.length, ρ5, b5, r5, ?_⟩
  unfold turnB
  rw [e1]
  simp only [seqS, e2, seq_nx, e3, e4, e5, e6]
  rfl
def lastE : FE := (andG (opE (eqH false [("Answers", den_Answers___eq__)]) (makeE "Answers" den_Answers___init__ 0 0 gd_Answers_0_ nilA nilA) (makeE "Answers" den_Answers___init__ 1 0 gd_Answers_1_ (consA (dct0E .z) nilA) nilA)) (opE (eqH false [("Answers", den_Answers___eq__)]) (callOE [("Answers", den_Answers___call__)] (makeE "Answers" den_Answers___init__ 0 0 gd_Answers_0_ nilA nilA) (consA (tupE nilA) (consA (cE (.int 5)) nilA))) (cE (.int 0))))
theorem body_eq : body_law = seqS (setS 1 (callE den__law_bag (consA (vE 0) nilA))) (seqS (forE (rng1I (consA (cE (.int 3)) nilA)) (nameG 2) turnB) (retS lastE)) := rfl
theorem make0 {ρ : Rho} {G l : List Cell} : makeE "Answers" den_Answers___init__ 0 0 gd_Answers_0_ nilA nilA ρ ⟨G, l⟩ = .ok (AO [] 0 0) ⟨G ++ [.gone], l⟩ := by
  have mk := make_ok (d := .p .none) (r := 0) (s := 0) (G := G) (l := l) (OkT.nil 0) (by decide) (told_none _)
  have ar : ∀ a : D, gd_Answers_0_ [a] [] = [a, .p .none, .p (.int 0), .p (.int 0)] := fun _ => rfl
  simp only [makeE, nilA, bind_ok, List.length_nil, and_self, if_true, ar, mk]
theorem make1 {ρ : Rho} {G l : List Cell} : makeE "Answers" den_Answers___init__ 1 0 gd_Answers_1_ (consA (dct0E .z) nilA) nilA ρ ⟨G, l⟩ = .ok (AO [] 0 0) ⟨G ++ [.gone], l⟩ := by
  have mk := make_ok (d := .p (.dict [])) (r := 0) (s := 0) (G := G) (l := l) (OkT.nil 0) (by decide) (told_nil _)
  have ar : ∀ a : D, gd_Answers_1_ [a, .p (.dict [])] [] = [a, .p (.dict []), .p (.int 0), .p (.int 0)] := fun _ => rfl
  have d0 : ∀ ρ m, dct0E .z ρ m = .ok (.p (.dict [])) m := fun _ _ => rfl
  simp only [makeE, consA, nilA, d0, bind_ok, List.length_cons, List.length_nil, and_self, if_true, ar, mk]
theorem call5 (G : List Cell) : den_Answers___call__ [AO [] 0 0, .p (.tuple []), .p (.int 5)] G = .ok (.p (.int 0)) G := by with_unfolding_all rfl
theorem last_ok {ρ : Rho} {G l : List Cell} : ∃ G', lastE ρ ⟨G, l⟩ = .ok (.p (.bool true)) ⟨G', l⟩ := by
  have e1 := eqH_ao (neg := false) (t := []) (t' := []) (r := 0) (s := 0) (r' := 0) (s' := 0) (G := G ++ [Cell.gone] ++ [Cell.gone]) (l := l) (OkT.nil 0) (OkT.nil 0) (by decide) (by unfold okS; decide) (by unfold okS; decide)
  have e2 : eqA [] 0 0 [] 0 0 = true := by decide
  rw [e2] at e1
  have i1 : ∀ m : Store, (insN (AO [] 0 0) m).isSome = true := fun _ => rfl
  have p1 : ∀ m : Store, proOf [("Answers", den_Answers___call__)] (AO [] 0 0) m = some den_Answers___call__ := fun _ => by with_unfolding_all rfl
  have c1 : ∀ G l, callR den_Answers___call__ [AO [] 0 0, .p (.tuple []), .p (.int 5)] ⟨G, l⟩ = .ok (.p (.int 0)) ⟨G, l⟩ := fun G l => by
    unfold callR
    rw [if_pos (by rfl), call5]
    rfl
  have t0 : ∀ ρ m, tupE nilA ρ m = .ok (.p (.tuple [])) m := fun _ _ => rfl
  refine ⟨G ++ [Cell.gone] ++ [Cell.gone] ++ [Cell.gone], ?_⟩
  unfold lastE
  simp only [andG, opE_eq, make0, make1, bind_ok, e1, Bool.false_eq_true, if_false, lift_some, tru_b, callOE, i1, if_true, consA, nilA, t0, cE, p1, c1, eqH_G (eqG_int ..), beq_self_eq_true]
theorem den_law_true (ns : List Int) (h : ns.length ≤ 63) : ∃ g, den_law [nums ns] [] = .ok (.p (.bool true)) g := by
  obtain ⟨cs, C, hC, e⟩ := bag_ok ns h
  have e1 : den__law_bag [nums ns] [] = .ok (.cell (.g 0)) [C] := e
  have s1 : setS 1 (callE den__law_bag (consA (vE 0) nilA)) [some (nums ns), none, none, none, none, none, none, none, none, none, none, none, none, none] ⟨[], []⟩ = .nx [some (nums ns), some (.cell (.g 0)), none, none, none, none, none, none, none, none, none, none, none, none] ⟨[C], []⟩ := by
    simp only [setS, callE, consA, nilA, vE_0, bind_ok, callR]
    rw [if_pos (by rfl), e1]
    rfl
  obtain ⟨ρ', m', f1, C', J', L', o2, o3, o4, o5, o6, o7, o8, o9, o10, o11, o12, o13, rfl, rfl, _⟩ := forS_inv (g := nameG 2) (body := turnB) (ds := rngL 0 3) (ρ := [some (nums ns), some (.cell (.g 0)), none, none, none, none, none, none, none, none, none, none, none, none]) (m := ⟨[C], []⟩) (R := fun ρ m => ∃ C J L o2 o3 o4 o5 o6 o7 o8 o9 o10 o11 o12 o13, ρ = [some (nums ns), some (.cell (.g 0)), o2, o3, o4, o5, o6, o7, o8, o9, o10, o11, o12, o13] ∧ m = ⟨C :: J, L⟩ ∧ bagsOk cs C)
    ⟨C, [], [], none, none, none, none, none, none, none, none, none, none, none, none, rfl, rfl, hC⟩ (by
      rintro d _ ρ m ⟨C, J, L, o2, o3, o4, o5, o6, o7, o8, o9, o10, o11, o12, o13, rfl, rfl, hC⟩
      obtain ⟨C', J', L', a, ρ', b, ⟨p2, p5, p6, p7, p8, p9, p10, p11, p12, p13, rfl⟩, e⟩ := turn_ok (J := J) (L := L) (sc := nums ns) (o2 := some d) (o3 := o3) (o4 := o4) (o5 := o5) (o6 := o6) (o7 := o7) (o8 := o8) (o9 := o9) (o10 := o10) (o11 := o11) (o12 := o12) (o13 := o13) hC
      exact ⟨_, _, e, C', J', L', _, _, _, _, _, _, _, _, _, _, _, _, rfl, rfl, b⟩)
  have s2 : forE (rng1I (consA (cE (.int 3)) nilA)) (nameG 2) turnB [some (nums ns), some (.cell (.g 0)), none, none, none, none, none, none, none, none, none, none, none, none] ⟨[C], []⟩ = forS (nameG 2) turnB (rngL 0 3) [some (nums ns), some (.cell (.g 0)), none, none, none, none, none, none, none, none, none, none, none, none] ⟨[C], []⟩ := rfl
  obtain ⟨G', e2⟩ := last_ok (ρ := [some (nums ns), some (.cell (.g 0)), o2, o3, o4, o5, o6, o7, o8, o9, o10, o11, o12, o13]) (G := C' :: J') (l := L')
  refine ⟨G', ?_⟩
  rw [eq_law, body_eq]
  simp only [seqS, s1, seq_nx]
  rw [s2, f1]
  simp only [seq_nx, retS, e2, bindS_ok, fin_rt]
end K22
open PySem PySem.W PyProof.Rows
set_option maxHeartbeats 0 in
theorem PySem.Challenge.cw_plancalls_k22_answers_told_holds : PySem.Challenge.rw_plancalls_k22_answers_told.Holds := by
  w_on; o_law; k_head; (case hw => w_witness2)
  k_fill
  refine L2.Dn.walk_den (l := PySem.Challenge.rw_plancalls_k22_answers_told) (n := 63) (k := 7) (x := "_law_script") (den := K22.den_law) rfl (by decide) rfl ⟨rfl, by decide, by decide⟩ (fun w h Y => PySem.W.kIn_of Y) ?F (fun ns hl => K22.den_law_true ns hl)
  case F =>
    intro w mg fa h KX G hmg
    refine' K22.all_mk KX G hmg ?p1_is_integer ?p2_is_integer ?p3_is_integer ?p4_is_integer ?p1_is_asked ?p2_is_asked ?p3_is_asked ?p4_is_asked ?p1_is_answer_table ?p2_is_answer_table ?p3_is_answer_table ?p4_is_answer_table ?p1_Answers___init__ ?p2_Answers___init__ ?p3_Answers___init__ ?p4_Answers___init__ ?d1_Answers___init__ ?d2_Answers___init__ ?k1_Answers___init___rest ?k2_Answers___init___rest ?k1_Answers___init___step ?k2_Answers___init___step ?p1_Answers___call__ ?mi_Answers___call__ ?mc_Answers___call__ ?p2_Answers___call__ ?p3_Answers___call__ ?p4_Answers___call__ ?p1_Answers_always ?r1_Answers_always ?r2_Answers_always ?r3_Answers_always ?p2_Answers_always ?p3_Answers_always ?p4_Answers_always ?p1_Answers_told ?mi_Answers_told ?p2_Answers_told ?p3_Answers_told ?p4_Answers_told ?p1_Answers_rest ?r1_Answers_rest ?r2_Answers_rest ?r3_Answers_rest ?p2_Answers_rest ?p3_Answers_rest ?p4_Answers_rest ?p1_Answers_step ?r1_Answers_step ?r2_Answers_step ?r3_Answers_step ?p2_Answers_step ?p3_Answers_step ?p4_Answers_step ?p1_Answers_with_answer ?mi_Answers_with_answer ?p2_Answers_with_answer ?p3_Answers_with_answer ?p4_Answers_with_answer ?p1_Answers_lasting ?mi_Answers_lasting ?p2_Answers_lasting ?p3_Answers_lasting ?p4_Answers_lasting ?p1_Answers___eq__ ?mi_Answers___eq__ ?p2_Answers___eq__ ?p3_Answers___eq__ ?p4_Answers___eq__ ?p1__law_bag ?p2__law_bag ?p3__law_bag ?p4__law_bag ?p1__law_take ?p2__law_take ?p3__law_take ?p4__law_take ?p1__law_alike ?p2__law_alike ?p3__law_alike ?p4__law_alike ?p1__law_asked_of ?p2__law_asked_of ?p3__law_asked_of ?p4__law_asked_of ?p1__law_case ?p2__law_case ?p3__law_case ?p4__law_case ?p1__law_made ?p2__law_made ?p3__law_made ?p4__law_made ?p1__law_value ?p2__law_value ?p3__law_value ?p4__law_value ?p1__law_are_same ?p2__law_are_same ?p3__law_are_same ?p4__law_are_same ?p1__law_right ?p2__law_right ?p3__law_right ?p4__law_right ?p1_law ?p2_law ?p3_law ?p4_law ?a_PlanError ?a_Wrong ?a_Answers ?xl_Wrong ?xr_Wrong ?xsa_Wrong ?xex_Wrong ?xty_Wrong ?xkp_Wrong ?xga_Wrong ?xgg_Wrong ?xhd_Wrong ?xcl_Wrong ?xmr_Wrong ?hn_ ?ht_ ?xi_Wrong ?xt_Wrong ?xp2_Wrong ?xp3_Wrong ?xp4_Wrong ?xn_Wrong_place ?ba_PlanError ?bb_PlanError ?bc_PlanError ?ipg_Answers ?ihd_Answers ?ipo_Answers ?isa_Answers ?icl_Answers ?imr_Answers ?en_Answers ?es_Answers ?et_Answers_NoneType ?et_Answers_bool ?et_Answers_int ?et_Answers_str ?et_Answers_list ?et_Answers_tuple ?et_Answers_dict ?mm_Answers ?mf_Answers ?mp_Answers ?fi_its_rest_Answers ?fi_its_step_Answers ?fi_its_table_Answers ?ix_Answers_Wrong ?ii_Answers_Answers ?nt_Answers_NoneType ?nt_Answers_bool ?nt_Answers_int ?nt_Answers_str ?nt_Answers_list ?nt_Answers_tuple ?nt_Answers_dict ?z_abs ?z_all ?z_bool ?z_dict ?z_int ?z_isinstance ?z_len ?z_list ?z_range ?z_repr ?z_tuple ?q1_MOST_ARGUMENTS
    (case a_PlanError => k_is)
    (case a_Wrong => k_is)
    (case a_Answers => k_is)
    (case p1_is_integer => k_is)
    (case p2_is_integer => k_is)
    (case p3_is_integer => k_is)
    (case p4_is_integer => k_is)
    (case p1_is_asked => k_is)
    (case p2_is_asked => k_is)
    (case p3_is_asked => k_is)
    (case p4_is_asked => k_is)
    (case p1_is_answer_table => k_is)
    (case p2_is_answer_table => k_is)
    (case p3_is_answer_table => k_is)
    (case p4_is_answer_table => k_is)
    (case p1_Answers___init__ => k_is)
    (case p2_Answers___init__ => k_is)
    (case p3_Answers___init__ => k_is)
    (case p4_Answers___init__ => k_is)
    (case d1_Answers___init__ => k_is)
    (case d2_Answers___init__ => (repeat (first | exact PySem.Paired.nil | refine PySem.Paired.cons (by first | rfl | exact ⟨_, rfl⟩) ?_)))
    (case k1_Answers___init___rest => k_is)
    (case k2_Answers___init___rest => first | rfl | exact ⟨_, rfl⟩)
    (case k1_Answers___init___step => k_is)
    (case k2_Answers___init___step => first | rfl | exact ⟨_, rfl⟩)
    (case p1_Answers___call__ => k_is)
    (case mi_Answers___call__ => k_is)
    (case mc_Answers___call__ => k_is)
    (case p2_Answers___call__ => k_is)
    (case p3_Answers___call__ => k_is)
    (case p4_Answers___call__ => k_is)
    (case p1_Answers_always => k_is)
    (case r1_Answers_always => k_is)
    (case r2_Answers_always => k_is)
    (case r3_Answers_always => k_is)
    (case p2_Answers_always => k_is)
    (case p3_Answers_always => k_is)
    (case p4_Answers_always => k_is)
    (case p1_Answers_told => k_is)
    (case mi_Answers_told => k_is)
    (case p2_Answers_told => k_is)
    (case p3_Answers_told => k_is)
    (case p4_Answers_told => k_is)
    (case p1_Answers_rest => k_is)
    (case r1_Answers_rest => k_is)
    (case r2_Answers_rest => k_is)
    (case r3_Answers_rest => k_is)
    (case p2_Answers_rest => k_is)
    (case p3_Answers_rest => k_is)
    (case p4_Answers_rest => k_is)
    (case p1_Answers_step => k_is)
    (case r1_Answers_step => k_is)
    (case r2_Answers_step => k_is)
    (case r3_Answers_step => k_is)
    (case p2_Answers_step => k_is)
    (case p3_Answers_step => k_is)
    (case p4_Answers_step => k_is)
    (case p1_Answers_with_answer => k_is)
    (case mi_Answers_with_answer => k_is)
    (case p2_Answers_with_answer => k_is)
    (case p3_Answers_with_answer => k_is)
    (case p4_Answers_with_answer => k_is)
    (case p1_Answers_lasting => k_is)
    (case mi_Answers_lasting => k_is)
    (case p2_Answers_lasting => k_is)
    (case p3_Answers_lasting => k_is)
    (case p4_Answers_lasting => k_is)
    (case p1_Answers___eq__ => k_is)
    (case mi_Answers___eq__ => k_is)
    (case p2_Answers___eq__ => k_is)
    (case p3_Answers___eq__ => k_is)
    (case p4_Answers___eq__ => k_is)
    (case p1__law_bag => k_is)
    (case p2__law_bag => k_is)
    (case p3__law_bag => k_is)
    (case p4__law_bag => k_is)
    (case p1__law_take => k_is)
    (case p2__law_take => k_is)
    (case p3__law_take => k_is)
    (case p4__law_take => k_is)
    (case p1__law_alike => k_is)
    (case p2__law_alike => k_is)
    (case p3__law_alike => k_is)
    (case p4__law_alike => k_is)
    (case p1__law_asked_of => k_is)
    (case p2__law_asked_of => k_is)
    (case p3__law_asked_of => k_is)
    (case p4__law_asked_of => k_is)
    (case p1__law_case => k_is)
    (case p2__law_case => k_is)
    (case p3__law_case => k_is)
    (case p4__law_case => k_is)
    (case p1__law_made => k_is)
    (case p2__law_made => k_is)
    (case p3__law_made => k_is)
    (case p4__law_made => k_is)
    (case p1__law_value => k_is)
    (case p2__law_value => k_is)
    (case p3__law_value => k_is)
    (case p4__law_value => k_is)
    (case p1__law_are_same => k_is)
    (case p2__law_are_same => k_is)
    (case p3__law_are_same => k_is)
    (case p4__law_are_same => k_is)
    (case p1__law_right => k_is)
    (case p2__law_right => k_is)
    (case p3__law_right => k_is)
    (case p4__law_right => k_is)
    (case p1_law => k_is)
    (case p2_law => k_is)
    (case p3_law => k_is)
    (case p4_law => k_is)
    (case xl_Wrong => k_is)
    (case xr_Wrong => decide +kernel)
    (case xsa_Wrong => k_is)
    (case xex_Wrong => k_is)
    (case xty_Wrong => k_is)
    (case xkp_Wrong => k_is)
    (case xga_Wrong => k_is)
    (case xgg_Wrong => k_is)
    (case xhd_Wrong => k_is)
    (case xcl_Wrong => k_is)
    (case xmr_Wrong => k_is)
    (case hn_ => k_is)
    (case ht_ => k_is)
    (case xi_Wrong => k_is)
    (case xt_Wrong => k_is)
    (case xp2_Wrong => k_is)
    (case xp3_Wrong => k_is)
    (case xp4_Wrong => k_is)
    (case xn_Wrong_place => k_is)
    (case ba_PlanError => k_is)
    (case bb_PlanError => k_is)
    (case bc_PlanError => k_is)
    (case ipg_Answers => k_is)
    (case ihd_Answers => k_is)
    (case ipo_Answers => k_is)
    (case isa_Answers => k_is)
    (case icl_Answers => k_is)
    (case imr_Answers => k_is)
    (case en_Answers => k_is)
    (case es_Answers => k_is)
    (case et_Answers_NoneType => first | k_is | rfl | decide +kernel)
    (case et_Answers_bool => first | k_is | rfl | decide +kernel)
    (case et_Answers_int => first | k_is | rfl | decide +kernel)
    (case et_Answers_str => first | k_is | rfl | decide +kernel)
    (case et_Answers_list => first | k_is | rfl | decide +kernel)
    (case et_Answers_tuple => first | k_is | rfl | decide +kernel)
    (case et_Answers_dict => first | k_is | rfl | decide +kernel)
    (case mm_Answers => k_is)
    (case mf_Answers => k_is)
    (case mp_Answers => k_is)
    (case fi_its_rest_Answers => k_is)
    (case fi_its_step_Answers => k_is)
    (case fi_its_table_Answers => k_is)
    (case ix_Answers_Wrong => first | k_is | rfl)
    (case ii_Answers_Answers => first | k_is | rfl)
    (case nt_Answers_NoneType => first | k_is | rfl | decide +kernel | (show PySem.W.kitCls _ _ _ = _; k_is))
    (case nt_Answers_bool => first | k_is | rfl | decide +kernel | (show PySem.W.kitCls _ _ _ = _; k_is))
    (case nt_Answers_int => first | k_is | rfl | decide +kernel | (show PySem.W.kitCls _ _ _ = _; k_is))
    (case nt_Answers_str => first | k_is | rfl | decide +kernel | (show PySem.W.kitCls _ _ _ = _; k_is))
    (case nt_Answers_list => first | k_is | rfl | decide +kernel | (show PySem.W.kitCls _ _ _ = _; k_is))
    (case nt_Answers_tuple => first | k_is | rfl | decide +kernel | (show PySem.W.kitCls _ _ _ = _; k_is))
    (case nt_Answers_dict => first | k_is | rfl | decide +kernel | (show PySem.W.kitCls _ _ _ = _; k_is))
    (case z_abs => k_is)
    (case z_all => k_is)
    (case z_bool => k_is)
    (case z_dict => k_is)
    (case z_int => k_is)
    (case z_isinstance => k_is)
    (case z_len => k_is)
    (case z_list => k_is)
    (case z_range => k_is)
    (case z_repr => k_is)
    (case z_tuple => k_is)
    (case q1_MOST_ARGUMENTS => k_is)
    (all_goals exact .none)
