import PyProof.Rows.All
import HandS.ForMost
import HandS.Exc
import HandS.TryOnly
import HandS.WordsExc
import HandS.Flow
import HandS.IsInst
import HandS.Wide
import HandS.Deep
import HandS.TupAny
import PyProof.ReprRoads
import HandS.CallSlots
import HandS.Style
import HandS.Strs
import PySem.Challenge.RW_plancalls_k11_kinds_known
set_option Elab.async false
set_option linter.all false
set_option maxRecDepth 100000
set_option maxHeartbeats 4000000
/-! Dn: denotations of Python code as plain functions over data and a store of mutable cells, over the layer HandS. -/
namespace L2.Dn
open PySem PySem.Spec PyProof.Rows L2
/-! ### data, cells, the store -/
/-- where a cell lies: in the global store, or in the def's own -/
inductive Ix where
  | g (i : Nat)
  | l (i : Nat)
  deriving DecidableEq
inductive D where
  | p (d : PyData)
  | cell (i : Ix)
  | tup (xs : List D)
  | lst (xs : List D)
  | ty (n : String)
inductive Cell where
  | lst (xs : List D)
  | gone
structure Two (α : Type) where
  g : List α
  l : List α
def Two.at_ {α : Type} (t : Two α) : Ix → Option α
  | .g i => t.g[i]?
  | .l i => t.l[i]?
def Two.set {α : Type} (t : Two α) (x : α) : Ix → Two α
  | .g i => ⟨t.g.set i x, t.l⟩
  | .l i => ⟨t.g, t.l.set i x⟩
/-- one more at the end of one of both -/
def Two.push {α : Type} (t : Two α) (x : α) (loc : Bool) : Two α := if loc then ⟨t.g, t.l ++ [x]⟩ else ⟨t.g ++ [x], t.l⟩
def Two.next {α : Type} (t : Two α) (loc : Bool) : Ix := if loc then .l t.l.length else .g t.g.length
abbrev Store := Two Cell
abbrev Anc := Two Addr
structure Exn where
  cls : Str
  fs : List (Str × D)
inductive Res (α : Type) where
  | ok (a : α) (m : Store)
  | exc (x : Exn) (m : Store)
  | stuck
def Res.bind {α β : Type} : Res α → (α → Store → Res β) → Res β
  | .ok a m, k => k a m
  | .exc x m, _ => .exc x m
  | .stuck, _ => .stuck
abbrev Rho := List (Option D)
abbrev FE := Rho → Store → Res D
/-! ### the relation to the layer's heap -/
/-- a list that is never changed any more -/
def FzL (K : PySem.W.Frag) (H : Hp) (a : Addr) (xs : List V) : Prop := (∃ o, H a = some (.frz o (.lst xs))) ∨
  ∃ (its : Array Value) (n : Nat), K.lookup a = some { cls := .type "list", data := .seq its n } ∧ its.size ≤ sizeLine ∧ Vals xs its.toList
/-- a list that may be read -/
def RdL (K : PySem.W.Frag) (H : Hp) (a : Addr) (xs : List V) : Prop := H a = some (.lst xs) ∨ FzL K H a xs
theorem FzL.rd {K : PySem.W.Frag} {H : Hp} {a : Addr} {xs : List V} (h : FzL K H a xs) : RdL K H a xs := .inr h
theorem FzL.sq {K : PySem.W.Frag} {H : Hp} {a : Addr} {xs : List V} (h : FzL K H a xs) : SqL K H a xs := by
  rcases h with h | ⟨its, n, hk, hz, hv⟩
  · exact .inl (.inr h)
  · exact .inr ⟨_, its, n, hk, rfl, rfl, rfl, hz, hv⟩
theorem RdL.sq {K : PySem.W.Frag} {H : Hp} {a : Addr} {xs : List V} (h : RdL K H a xs) : SqL K H a xs := h.elim (fun h => .inl (.inl h)) FzL.sq
theorem RdL.obj {X : Cx} {pins : List (Addr × Obj)} {σ : St} {H : Hp} {s : Shared} {a : Addr} {xs : List V} (I : Inv X pins σ H s) (h : RdL X.K H a xs) :
    xs.length ≤ sizeLine ∧ ∃ (its : List Value) (n : Nat), Vals xs its ∧ s.heap.get? a = some { cls := .type "list", data := .seq its.toArray n } := by
  rcases h with h | ⟨o, h⟩ | ⟨its, n, hk, hz, hv⟩
  · exact I.hok a _ h
  · exact (I.hok a _ h).2
  · refine ⟨by rw [hv.length]; simpa using hz, its.toList, n, hv, ?_⟩
    rw [I.kIn a _ hk]
/-- what stays: tuples and what is frozen -/
def Ext (H H' : Hp) : Prop := (∀ b xs, H b = some (.tup xs) → H' b = some (.tup xs)) ∧ ∀ b o u, H b = some (.frz o u) → H' b = some (.frz o u)
theorem Ext.refl (H : Hp) : Ext H H := ⟨fun _ _ h => h, fun _ _ _ h => h⟩
theorem Ext.trans {H H1 H2 : Hp} (a : Ext H H1) (b : Ext H1 H2) : Ext H H2 := ⟨fun _ _ h => b.1 _ _ (a.1 _ _ h), fun _ _ _ h => b.2 _ _ _ (a.2 _ _ _ h)⟩
theorem Ext.new {H : Hp} {a : Addr} {o : HO} (h : H a = none) : Ext H (upd H a o) :=
  ⟨fun b xs e => by rw [upd_ne (ne_of_none e h)]; exact e, fun b u x e => by rw [upd_ne (ne_of_none e h)]; exact e⟩
theorem Ext.put {H : Hp} {a : Addr} {o : HO} {xs : List V} (h : H a = some (.lst xs)) : Ext H (upd H a o) :=
  ⟨fun b ys e => by rw [upd_ne (ne_of e h (by intro z; cases z))]; exact e, fun b u x e => by rw [upd_ne (ne_of e h (by intro z; cases z))]; exact e⟩
theorem FzL.ext {K : PySem.W.Frag} {H H' : Hp} {a : Addr} {xs : List V} (h : FzL K H a xs) (e : Ext H H') : FzL K H' a xs := by
  rcases h with ⟨o, h⟩ | h
  · exact .inl ⟨o, e.2 _ _ _ h⟩
  · exact .inr h
theorem SqT.ext {K : PySem.W.Frag} {H H' : Hp} {a : Addr} {xs : List V} (h : SqT K H a xs) (e : Ext H H') : SqT K H' a xs := by
  rcases h with (h | ⟨o, h⟩) | h
  · exact .inl (.inl (e.1 _ _ h))
  · exact .inl (.inr ⟨o, e.2 _ _ _ h⟩)
  · exact .inr h
def keyP : Key → PyData
  | .inl i => .int i
  | .inr x => .str x
mutual
/-- frozen data -/
inductive DpZ (K : PySem.W.Frag) (H : Hp) : V → PyData → Prop
  | non : DpZ K H .non .none
  | bl (b : Bool) : DpZ K H (.bl b) (.bool b)
  | int (i : Int) : DpZ K H (.int i) (.int i)
  | str (x : Str) : DpZ K H (.str x) (.str x)
  | lst {a : Addr} {xs : List V} {ds : List PyData} : FzL K H a xs → DpZs K H xs ds → DpZ K H (.ref a) (.list ds)
  | tup {a : Addr} {xs : List V} {ds : List PyData} : SqT K H a xs → DpZs K H xs ds → DpZ K H (.ref a) (.tuple ds)
  | dK {a : Addr} {o : Obj} {kvs : List (Key × V)} {ds : List (PyData × PyData)} : H a = some (.frz o (.dK kvs)) → ds.map (·.1) = kvs.map (fun q => keyP q.1) → DpZs K H (kvs.map (·.2)) (ds.map (·.2)) → DpZ K H (.ref a) (.dict ds)
inductive DpZs (K : PySem.W.Frag) (H : Hp) : List V → List PyData → Prop
  | nil : DpZs K H [] []
  | cons {v : V} {vs : List V} {d : PyData} {ds : List PyData} : DpZ K H v d → DpZs K H vs ds → DpZs K H (v :: vs) (d :: ds)
end
mutual
theorem DpZ.ext {K : PySem.W.Frag} {H H' : Hp} (e : Ext H H') : ∀ {v : V} {d : PyData}, DpZ K H v d → DpZ K H' v d
  | _, _, .non => .non
  | _, _, .bl b => .bl b
  | _, _, .int i => .int i
  | _, _, .str x => .str x
  | _, _, .lst h r => .lst (h.ext e) (DpZs.ext e r)
  | _, _, .tup h r => .tup (SqT.ext h e) (DpZs.ext e r)
  | _, _, .dK h q r => .dK (e.2 _ _ _ h) q (DpZs.ext e r)
theorem DpZs.ext {K : PySem.W.Frag} {H H' : Hp} (e : Ext H H') : ∀ {vs : List V} {ds : List PyData}, DpZs K H vs ds → DpZs K H' vs ds
  | _, _, .nil => .nil
  | _, _, .cons h r => .cons (DpZ.ext e h) (DpZs.ext e r)
end
mutual
def VD (K : PySem.W.Frag) (H : Hp) (c : Anc) (v : V) : D → Prop
  | .p d => DpZ K H v d
  | .cell i => ∃ a, c.at_ i = some a ∧ v = .ref a
  | .tup xs => ∃ a vs, v = .ref a ∧ SqT K H a vs ∧ VDs K H c vs xs
  | .lst xs => ∃ a vs, v = .ref a ∧ FzL K H a vs ∧ VDs K H c vs xs
  | .ty n => v = .ty n
def VDs (K : PySem.W.Frag) (H : Hp) (c : Anc) (vs : List V) : List D → Prop
  | [] => vs = []
  | d :: ds => ∃ v r, vs = v :: r ∧ VD K H c v d ∧ VDs K H c r ds
end
/-- the one goes on from the other -/
def Pre (c c' : Anc) : Prop := c.g <+: c'.g ∧ c.l <+: c'.l
theorem Pre.refl (c : Anc) : Pre c c := ⟨List.prefix_refl _, List.prefix_refl _⟩
theorem Pre.trans {a b c : Anc} (h : Pre a b) (q : Pre b c) : Pre a c := ⟨h.1.trans q.1, h.2.trans q.2⟩
theorem pre_get1 {c c' : List Addr} (h : c <+: c') {i : Nat} {a : Addr} (e : c[i]? = some a) : c'[i]? = some a := by
  obtain ⟨t, rfl⟩ := h
  rw [List.getElem?_append_left (List.getElem?_eq_some_iff.mp e).1]
  exact e
theorem pre_get {c c' : Anc} (h : Pre c c') : ∀ {i : Ix} {a : Addr}, c.at_ i = some a → c'.at_ i = some a
  | .g i, a, e => pre_get1 h.1 e
  | .l i, a, e => pre_get1 h.2 e
mutual
theorem VD.mono {K : PySem.W.Frag} {H H' : Hp} {c c' : Anc} (e : Ext H H') (h : Pre c c') : ∀ {v : V} (d : D), VD K H c v d → VD K H' c' v d
  | v, .p d, r => by unfold VD at r ⊢; exact DpZ.ext e r
  | v, .cell i, r => by
    unfold VD at r ⊢
    obtain ⟨a, h1, h2⟩ := r
    exact ⟨a, pre_get h h1, h2⟩
  | v, .tup xs, r => by
    unfold VD at r ⊢
    obtain ⟨a, vs, h1, h2, h3⟩ := r
    exact ⟨a, vs, h1, SqT.ext h2 e, VDs.mono e h xs h3⟩
  | v, .lst xs, r => by
    unfold VD at r ⊢
    obtain ⟨a, vs, h1, h2, h3⟩ := r
    exact ⟨a, vs, h1, h2.ext e, VDs.mono e h xs h3⟩
  | v, .ty n, r => by unfold VD at r ⊢; exact r
theorem VDs.mono {K : PySem.W.Frag} {H H' : Hp} {c c' : Anc} (e : Ext H H') (h : Pre c c') : ∀ {vs : List V} (ds : List D), VDs K H c vs ds → VDs K H' c' vs ds
  | vs, [], r => by unfold VDs at r ⊢; exact r
  | vs, d :: ds, r => by
    unfold VDs at r ⊢
    obtain ⟨v, q, h1, h2, h3⟩ := r
    exact ⟨v, q, h1, VD.mono e h d h2, VDs.mono e h ds h3⟩
end
theorem VDs.length {K : PySem.W.Frag} {H : Hp} {c : Anc} : ∀ {vs : List V} {ds : List D}, VDs K H c vs ds → vs.length = ds.length
  | _, [], r => by unfold VDs at r; subst r; rfl
  | _, d :: ds, r => by
    unfold VDs at r
    obtain ⟨v, q, h1, _, h3⟩ := r
    subst h1
    simp [VDs.length h3]
theorem VDs.get {K : PySem.W.Frag} {H : Hp} {c : Anc} : ∀ {vs : List V} {ds : List D} {i : Nat} {d : D}, VDs K H c vs ds → ds[i]? = some d → ∃ v, vs[i]? = some v ∧ VD K H c v d
  | _, [], _, _, _, e => by simp at e
  | _, d :: ds, 0, d', r, e => by
    unfold VDs at r
    obtain ⟨v, q, h1, h2, h3⟩ := r
    simp at e
    subst e h1
    exact ⟨v, rfl, h2⟩
  | _, d :: ds, i + 1, d', r, e => by
    unfold VDs at r
    obtain ⟨v, q, h1, h2, h3⟩ := r
    subst h1
    simp at e
    obtain ⟨w, h4, h5⟩ := VDs.get h3 e
    exact ⟨w, by simpa using h4, h5⟩
theorem VDs.append {K : PySem.W.Frag} {H : Hp} {c : Anc} : ∀ {vs ws : List V} {ds es : List D}, VDs K H c vs ds → VDs K H c ws es → VDs K H c (vs ++ ws) (ds ++ es)
  | _, _, [], _, r, q => by unfold VDs at r; subst r; exact q
  | _, _, d :: ds, _, r, q => by
    unfold VDs at r
    obtain ⟨v, t, h1, h2, h3⟩ := r
    subst h1
    show VDs K H c (v :: (t ++ _)) (d :: (ds ++ _))
    unfold VDs
    exact ⟨v, _, rfl, h2, VDs.append h3 q⟩
theorem VDs.set {K : PySem.W.Frag} {H : Hp} {c : Anc} {v : V} {d : D} (h : VD K H c v d) : ∀ {vs : List V} {ds : List D} (i : Nat), VDs K H c vs ds → VDs K H c (vs.set i v) (ds.set i d)
  | _, [], _, r => by
    unfold VDs at r
    subst r
    simp [VDs]
  | _, e :: ds, 0, r => by
    unfold VDs at r
    obtain ⟨w, t, h1, h2, h3⟩ := r
    subst h1
    show VDs K H c (v :: t) (d :: ds)
    unfold VDs
    exact ⟨v, t, rfl, h, h3⟩
  | _, e :: ds, i + 1, r => by
    unfold VDs at r
    obtain ⟨w, t, h1, h2, h3⟩ := r
    subst h1
    show VDs K H c (w :: t.set i v) (e :: ds.set i d)
    unfold VDs
    exact ⟨w, _, rfl, h2, VDs.set h i h3⟩
theorem VDs.drop {K : PySem.W.Frag} {H : Hp} {c : Anc} : ∀ {vs : List V} {ds : List D} (n : Nat), VDs K H c vs ds → VDs K H c (vs.drop n) (ds.drop n)
  | _, _, 0, r => r
  | _, [], n + 1, r => by unfold VDs at r; subst r; simp [VDs]
  | _, e :: ds, n + 1, r => by
    unfold VDs at r
    obtain ⟨w, t, h1, h2, h3⟩ := r
    subst h1
    exact VDs.drop n h3
theorem VDs.take {K : PySem.W.Frag} {H : Hp} {c : Anc} : ∀ {vs : List V} {ds : List D} (n : Nat), VDs K H c vs ds → VDs K H c (vs.take n) (ds.take n)
  | _, _, 0, r => by simp [VDs]
  | _, [], n + 1, r => by unfold VDs at r; subst r; simp [VDs]
  | _, e :: ds, n + 1, r => by
    unfold VDs at r
    obtain ⟨w, t, h1, h2, h3⟩ := r
    subst h1
    show VDs K H c (w :: t.take n) (e :: ds.take n)
    unfold VDs
    exact ⟨w, _, rfl, h2, VDs.take n h3⟩
theorem VDs.one {K : PySem.W.Frag} {H : Hp} {c : Anc} {v : V} {d : D} (h : VD K H c v d) : VDs K H c [v] [d] := by
  unfold VDs
  exact ⟨v, [], rfl, h, by unfold VDs; rfl⟩
theorem VDs.ofp {K : PySem.W.Frag} {H : Hp} {c : Anc} : ∀ {vs : List V} {ds : List PyData}, DpZs K H vs ds → VDs K H c vs (ds.map D.p)
  | _, _, .nil => by simp [VDs]
  | _, _, .cons h r => by
    show VDs K H c _ (D.p _ :: _)
    unfold VDs
    exact ⟨_, _, rfl, by unfold VD; exact h, VDs.ofp r⟩
theorem VDs.top {K : PySem.W.Frag} {H : Hp} {c : Anc} : ∀ {vs : List V} {ds : List PyData}, VDs K H c vs (ds.map D.p) → DpZs K H vs ds
  | _, [], r => by
    simp [VDs] at r
    subst r
    exact .nil
  | _, d :: ds, r => by
    simp only [List.map_cons] at r
    unfold VDs at r
    obtain ⟨w, t, h1, h2, h3⟩ := r
    subst h1
    unfold VD at h2
    exact .cons h2 (VDs.top h3)
def CellR (K : PySem.W.Frag) (H : Hp) (c : Anc) (a : Addr) : Cell → Prop
  | .lst ds => ∃ xs, H a = some (.lst xs) ∧ VDs K H c xs ds
  | .gone => ∃ o u, H a = some (.frz o u)
/-- what the contents of a cell may name: a global cell no cell of the def's own -/
def glob {α : Type} (c : Two α) : Two α := ⟨c.g, []⟩
def forI (c : Anc) : Ix → Anc
  | .g _ => glob c
  | .l _ => c
theorem glob_pre (c : Anc) : Pre (glob c) c := ⟨List.prefix_refl _, List.nil_prefix⟩
theorem forI_pre {c c' : Anc} (p : Pre c c') : ∀ i, Pre (forI c i) (forI c' i)
  | .g _ => ⟨p.1, List.prefix_refl _⟩
  | .l _ => p
theorem forI_le (c : Anc) : ∀ i, Pre (forI c i) c
  | .g _ => glob_pre c
  | .l _ => Pre.refl c
mutual
/-- names no cell of the def's own -/
def nl : D → Bool
  | .p _ => true
  | .cell (.g _) => true
  | .cell (.l _) => false
  | .tup xs => nls xs
  | .lst xs => nls xs
  | .ty _ => true
def nls : List D → Bool
  | [] => true
  | d :: ds => nl d && nls ds
end
mutual
theorem VD.nl {K : PySem.W.Frag} {H : Hp} {c : Anc} : ∀ {v : V} (d : D), VD K H c v d → nl d = true → VD K H (glob c) v d
  | v, .p d, r, _ => by unfold VD at r ⊢; exact r
  | v, .cell (.g i), r, _ => by unfold VD at r ⊢; exact r
  | v, .cell (.l i), r, e => by simp [Dn.nl] at e
  | v, .tup xs, r, e => by
    unfold VD at r ⊢
    obtain ⟨a, vs, h1, h2, h3⟩ := r
    exact ⟨a, vs, h1, h2, VDs.nl xs h3 (by simpa [Dn.nl] using e)⟩
  | v, .lst xs, r, e => by
    unfold VD at r ⊢
    obtain ⟨a, vs, h1, h2, h3⟩ := r
    exact ⟨a, vs, h1, h2, VDs.nl xs h3 (by simpa [Dn.nl] using e)⟩
  | v, .ty n, r, _ => by unfold VD at r ⊢; exact r
theorem VDs.nl {K : PySem.W.Frag} {H : Hp} {c : Anc} : ∀ {vs : List V} (ds : List D), VDs K H c vs ds → nls ds = true → VDs K H (glob c) vs ds
  | vs, [], r, _ => by unfold VDs at r ⊢; exact r
  | vs, d :: ds, r, e => by
    unfold VDs at r ⊢
    obtain ⟨v, q, h1, h2, h3⟩ := r
    simp only [nls, Bool.and_eq_true] at e
    exact ⟨v, q, h1, VD.nl d h2 e.1, VDs.nl ds h3 e.2⟩
end
def Has (c : Anc) (a : Addr) : Prop := ∃ i, c.at_ i = some a
structure RelS (K : PySem.W.Frag) (c : Anc) (m : Store) (H : Hp) : Prop where
  len : c.g.length = m.g.length ∧ c.l.length = m.l.length
  inj : ∀ (i j : Ix) (a : Addr) (x y : Cell), c.at_ i = some a → c.at_ j = some a → m.at_ i = some x → m.at_ j = some y → x ≠ Cell.gone → y ≠ Cell.gone → i = j
  at_ : ∀ (i : Ix) (a : Addr) (x : Cell), c.at_ i = some a → m.at_ i = some x → CellR K H (forI c i) a x
structure Gd (K : PySem.W.Frag) (c c' : Anc) (m' : Store) (H H' : Hp) : Prop where
  pre : Pre c c'
  ext : Ext H H'
  new : ∀ a, Has c' a → Has c a ∨ H a = none
  frame : ∀ b o, ¬ Has c b → H b = some o → H' b = some o
  rel : RelS K c' m' H'
theorem Has.pre {c c' : Anc} {a : Addr} (h : Has c a) (p : Pre c c') : Has c' a := let ⟨i, e⟩ := h; ⟨i, pre_get p e⟩
theorem Gd.refl {K : PySem.W.Frag} {c : Anc} {m : Store} {H : Hp} (r : RelS K c m H) : Gd K c c m H H := ⟨Pre.refl _, Ext.refl _, fun _ h => .inl h, fun _ _ _ h => h, r⟩
theorem Gd.trans {K : PySem.W.Frag} {c c1 c2 : Anc} {m1 m2 : Store} {H H1 H2 : Hp} (a : Gd K c c1 m1 H H1) (b : Gd K c1 c2 m2 H1 H2) : Gd K c c2 m2 H H2 := by
  refine ⟨a.pre.trans b.pre, a.ext.trans b.ext, fun p hp => ?_, fun p o hn ho => ?_, b.rel⟩
  · rcases b.new p hp with h | h
    · exact a.new p h
    · by_cases hc : Has c p
      · exact .inl hc
      · right
        cases e : H p with
        | none => rfl
        | some o => rw [a.frame p o hc e] at h; cases h
  · have h1 := a.frame p o hn ho
    refine b.frame p o (fun z => ?_) h1
    rcases a.new p z with q | q
    · exact hn q
    · rw [ho] at q; cases q
theorem Gd.vd {K : PySem.W.Frag} {c c' : Anc} {m' : Store} {H H' : Hp} (g : Gd K c c' m' H H') {v : V} {d : D} (h : VD K H c v d) : VD K H' c' v d := VD.mono g.ext g.pre d h
theorem Gd.vds {K : PySem.W.Frag} {c c' : Anc} {m' : Store} {H H' : Hp} (g : Gd K c c' m' H H') {vs : List V} {ds : List D} (h : VDs K H c vs ds) : VDs K H' c' vs ds := VDs.mono g.ext g.pre ds h
structure Slo (K : PySem.W.Frag) (H : Hp) (c : Anc) (ρ : Rho) (σ : St) : Prop where
  len : ρ.length = σ.length
  at_ : ∀ (i : Nat) (d : D), ρ[i]? = some (some d) → ∃ v, σ[i]? = some (some v) ∧ VD K H c v d
theorem Gd.slots {K : PySem.W.Frag} {c c' : Anc} {m' : Store} {H H' : Hp} {ρ : Rho} {σ : St} (g : Gd K c c' m' H H') (s : Slo K H c ρ σ) : Slo K H' c' ρ σ :=
  ⟨s.len, fun i d e => let ⟨v, h1, h2⟩ := s.at_ i d e; ⟨v, h1, g.vd h2⟩⟩
theorem Slo.set {K : PySem.W.Frag} {H : Hp} {c : Anc} {ρ : Rho} {σ : St} (s : Slo K H c ρ σ) (i : Nat) {v : V} {d : D} (h : VD K H c v d) : Slo K H c (ρ.set i (some d)) (σ.set i (some v)) := by
  refine ⟨by simp [s.len], fun j d' e => ?_⟩
  by_cases hj : j = i
  · subst hj
    by_cases hl : j < ρ.length
    · rw [List.getElem?_set_self hl] at e
      cases e
      exact ⟨v, List.getElem?_set_self (by rw [← s.len]; exact hl), h⟩
    · rw [List.getElem?_eq_none (by simpa using Nat.le_of_not_lt hl)] at e
      cases e
  · rw [List.getElem?_set_ne (Ne.symm hj)] at e ⊢
    exact s.at_ j d' e
theorem RelS.trk {K : PySem.W.Frag} {c : Anc} {m : Store} {H : Hp} (r : RelS K c m H) {a : Addr} (h : Has c a) : ∃ o, H a = some o := by
  obtain ⟨i, e⟩ := h
  have hm : ∃ x, m.at_ i = some x := by
    cases i with
    | g i =>
      have : i < m.g.length := by rw [← r.len.1]; exact (List.getElem?_eq_some_iff.mp e).1
      exact ⟨_, List.getElem?_eq_getElem this⟩
    | l i =>
      have : i < m.l.length := by rw [← r.len.2]; exact (List.getElem?_eq_some_iff.mp e).1
      exact ⟨_, List.getElem?_eq_getElem this⟩
  obtain ⟨x, hx⟩ := hm
  have q := r.at_ i a x e hx
  cases x with
  | lst ds => obtain ⟨xs, h, _⟩ := q; exact ⟨_, h⟩
  | gone => obtain ⟨o, u, h⟩ := q; exact ⟨_, h⟩
theorem RelS.not {K : PySem.W.Frag} {c : Anc} {m : Store} {H : Hp} (r : RelS K c m H) {a : Addr} (h : H a = none) : ¬ Has c a := fun z => by
  obtain ⟨o, e⟩ := r.trk z
  rw [h] at e; cases e
theorem push_pre (c : Anc) (a : Addr) (loc : Bool) : Pre c (c.push a loc) := by
  cases loc with
  | true => exact ⟨List.prefix_refl _, List.prefix_append _ _⟩
  | false => exact ⟨List.prefix_append _ _, List.prefix_refl _⟩
theorem app_split {α : Type} {l : List α} {x y : α} {i : Nat} (h : (l ++ [x])[i]? = some y) : l[i]? = some y ∨ (i = l.length ∧ y = x) := by
  by_cases hi : i < l.length
  · rw [List.getElem?_append_left hi] at h
    exact .inl h
  · have hl : i < (l ++ [x]).length := (List.getElem?_eq_some_iff.mp h).1
    have e : i = l.length := by simp at hl; omega
    subst e
    rw [List.getElem?_append_right (Nat.le_refl _)] at h
    simp at h
    exact .inr ⟨rfl, h.symm⟩
theorem push_split {α : Type} {t : Two α} {x y : α} {loc : Bool} {i : Ix} (h : (t.push x loc).at_ i = some y) : t.at_ i = some y ∨ (i = t.next loc ∧ y = x) := by
  cases loc with
  | true =>
    cases i with
    | g i => exact .inl h
    | l i =>
      rcases app_split (l := t.l) h with q | ⟨q1, q2⟩
      · exact .inl q
      · exact .inr ⟨by rw [q1]; rfl, q2⟩
  | false =>
    cases i with
    | l i => exact .inl h
    | g i =>
      rcases app_split (l := t.g) h with q | ⟨q1, q2⟩
      · exact .inl q
      · exact .inr ⟨by rw [q1]; rfl, q2⟩
theorem push_next {α : Type} (t : Two α) (x : α) (loc : Bool) : (t.push x loc).at_ (t.next loc) = some x := by
  cases loc with
  | true => show (t.l ++ [x])[t.l.length]? = some x; simp
  | false => show (t.g ++ [x])[t.g.length]? = some x; simp
theorem next_none {α : Type} (t : Two α) (loc : Bool) : t.at_ (t.next loc) = none := by
  cases loc with
  | true => show t.l[t.l.length]? = none; simp
  | false => show t.g[t.g.length]? = none; simp
theorem next_eq {K : PySem.W.Frag} {c : Anc} {m : Store} {H : Hp} (r : RelS K c m H) (loc : Bool) : c.next loc = m.next loc := by
  cases loc with
  | true => show Ix.l _ = Ix.l _; rw [r.len.2]
  | false => show Ix.g _ = Ix.g _; rw [r.len.1]
theorem set_split {t : Store} {x y : Cell} {i j : Ix} (h : (t.set x i).at_ j = some y) : (j = i ∧ y = x) ∨ (j ≠ i ∧ t.at_ j = some y) := by
  cases i with
  | g i =>
    cases j with
    | l j => exact .inr ⟨(by intro z; cases z), h⟩
    | g j =>
      by_cases hj : j = i
      · subst hj
        have h' : (t.g.set j x)[j]? = some y := h
        have hl : j < (t.g.set j x).length := (List.getElem?_eq_some_iff.mp h').1
        rw [List.getElem?_set_self (by simpa using hl)] at h'
        exact .inl ⟨rfl, (Option.some.inj h').symm⟩
      · have h' : (t.g.set i x)[j]? = some y := h
        rw [List.getElem?_set_ne (Ne.symm hj)] at h'
        exact .inr ⟨(by intro z; cases z; exact hj rfl), h'⟩
  | l i =>
    cases j with
    | g j => exact .inr ⟨(by intro z; cases z), h⟩
    | l j =>
      by_cases hj : j = i
      · subst hj
        have h' : (t.l.set j x)[j]? = some y := h
        have hl : j < (t.l.set j x).length := (List.getElem?_eq_some_iff.mp h').1
        rw [List.getElem?_set_self (by simpa using hl)] at h'
        exact .inl ⟨rfl, (Option.some.inj h').symm⟩
      · have h' : (t.l.set i x)[j]? = some y := h
        rw [List.getElem?_set_ne (Ne.symm hj)] at h'
        exact .inr ⟨(by intro z; cases z; exact hj rfl), h'⟩
theorem set_len (t : Store) (x : Cell) (i : Ix) : (t.set x i).g.length = t.g.length ∧ (t.set x i).l.length = t.l.length := by
  cases i with
  | g i => exact ⟨List.length_set .., rfl⟩
  | l i => exact ⟨rfl, List.length_set ..⟩
theorem CellR.mono {K : PySem.W.Frag} {H H' : Hp} {c c' : Anc} {a : Addr} {x : Cell} (h : CellR K H c a x) (ex : Ext H H') (p : Pre c c') (k : ∀ xs, H a = some (.lst xs) → H' a = some (.lst xs)) : CellR K H' c' a x := by
  cases x with
  | lst ds => obtain ⟨xs, e, hv⟩ := h; exact ⟨xs, k xs e, VDs.mono ex p _ hv⟩
  | gone => obtain ⟨o, u, e⟩ := h; exact ⟨o, u, ex.2 _ _ _ e⟩
/-- a tracked list becomes a cell -/
theorem RelS.adopt {K : PySem.W.Frag} {c : Anc} {m : Store} {H : Hp} (r : RelS K c m H) (loc : Bool) {a : Addr} {xs : List V} {ds : List D} (hn : ¬ Has c a) (ha : H a = some (.lst xs)) (h : VDs K H (forI c (c.next loc)) xs ds) : RelS K (c.push a loc) (m.push (.lst ds) loc) H := by
  have pr := push_pre c a loc
  refine ⟨?_, fun i j b x y h1 h2 k1 k2 n1 n2 => ?_, fun i b x h1 h2 => ?_⟩
  · cases loc with
    | true => exact ⟨r.len.1, by show (c.l ++ [a]).length = (m.l ++ [_]).length; simp [r.len.2]⟩
    | false => exact ⟨by show (c.g ++ [a]).length = (m.g ++ [_]).length; simp [r.len.1], r.len.2⟩
  · rcases push_split h1 with p1 | ⟨p1, p2⟩
    · rcases push_split h2 with q1 | ⟨q1, q2⟩
      · have k1' : m.at_ i = some x := by
          rcases push_split k1 with z | ⟨z, _⟩
          · exact z
          · rw [z, ← next_eq r, next_none] at p1; cases p1
        have k2' : m.at_ j = some y := by
          rcases push_split k2 with z | ⟨z, _⟩
          · exact z
          · rw [z, ← next_eq r, next_none] at q1; cases q1
        exact r.inj i j b x y p1 q1 k1' k2' n1 n2
      · subst q2; exact absurd ⟨i, p1⟩ hn
    · rcases push_split h2 with q1 | ⟨q1, q2⟩
      · subst p2; exact absurd ⟨j, q1⟩ hn
      · rw [p1, q1]
  · rcases push_split h2 with q1 | ⟨q1, q2⟩
    · rcases push_split h1 with p1 | ⟨p1, p2⟩
      · exact (r.at_ i b x p1 q1).mono (Ext.refl _) (forI_pre pr i) fun _ e => e
      · rw [p1, next_eq r, next_none] at q1; cases q1
    · rcases push_split h1 with p1 | ⟨p1, p2⟩
      · rw [q1, ← next_eq r, next_none] at p1; cases p1
      · subst p2 q2 p1
        exact ⟨xs, ha, VDs.mono (Ext.refl _) (forI_pre pr _) _ h⟩
theorem has_push {c : Anc} {a b : Addr} {loc : Bool} (h : Has (c.push a loc) b) : Has c b ∨ b = a := by
  obtain ⟨i, e⟩ := h
  rcases push_split e with q | ⟨_, q⟩
  · exact .inl ⟨i, q⟩
  · exact .inr q
/-- a new object that is no cell -/
theorem RelS.lay {K : PySem.W.Frag} {c : Anc} {m : Store} {H : Hp} (r : RelS K c m H) {a : Addr} {o : HO} (hn : H a = none) : Gd K c c m H (upd H a o) := by
  have ex : Ext H (upd H a o) := Ext.new hn
  exact ⟨Pre.refl _, ex, fun _ h => .inl h, fun b u _ e => by rw [upd_ne (ne_of_none e hn)]; exact e, r.len, r.inj, fun i b x h1 h2 => (r.at_ i b x h1 h2).mono ex (Pre.refl _) fun xs e => by rw [upd_ne (ne_of_none e hn)]; exact e⟩
/-- a cell is new -/
theorem RelS.new {K : PySem.W.Frag} {c : Anc} {m : Store} {H : Hp} (r : RelS K c m H) (loc : Bool) {a : Addr} {xs : List V} {ds : List D} (hn : H a = none) (h : VDs K H (forI c (c.next loc)) xs ds) : Gd K c (c.push a loc) (m.push (.lst ds) loc) H (upd H a (.lst xs)) := by
  have g : Gd K c c m H (upd H a (.lst xs)) := r.lay hn
  have r2 := g.rel.adopt loc (r.not hn) upd_same (VDs.mono g.ext (Pre.refl _) _ h)
  exact ⟨push_pre _ _ _, g.ext, fun b hb => (has_push hb).elim .inl fun e => .inr (by rw [e]; exact hn), g.frame, r2⟩
theorem RelS.other {K : PySem.W.Frag} {c : Anc} {m : Store} {H : Hp} (r : RelS K c m H) {i j : Ix} {a b : Addr} {x y : Cell} {ys : List V} {o : HO} (hi : c.at_ i = some a) (hx : m.at_ i = some x) (lx : x ≠ .gone) (ha : H a = some (.lst ys)) (hj : c.at_ j = some b) (hy : m.at_ j = some y) (h : j ≠ i) :
    ∀ zs, H b = some (.lst zs) → (upd H a o) b = some (.lst zs) := fun zs e => by
  have ne : b ≠ a := fun z => by
    have ly : y ≠ .gone := fun q => by
      subst q
      obtain ⟨o, u, e'⟩ := r.at_ j b _ hj hy
      rw [e] at e'; cases e'
    exact h (r.inj j i b y x hj (z ▸ hi) hy hx ly lx)
  rw [upd_ne ne]
  exact e
/-- a cell is written -/
theorem RelS.put {K : PySem.W.Frag} {c : Anc} {m : Store} {H : Hp} (r : RelS K c m H) {i : Ix} {a : Addr} {ys xs : List V} {ds es : List D} (hi : c.at_ i = some a) (hm : m.at_ i = some (.lst es)) (ha : H a = some (.lst ys)) (h : VDs K H (forI c i) xs ds) :
    Gd K c c (m.set (.lst ds) i) H (upd H a (.lst xs)) := by
  have ex : Ext H (upd H a (.lst xs)) := Ext.put ha
  have lx : Cell.lst es ≠ .gone := by intro z; cases z
  refine ⟨Pre.refl _, ex, fun _ h => .inl h, fun b u hb e => ?_, ?_, fun j k b x y h1 h2 k1 k2 n1 n2 => ?_, fun j b x h1 h2 => ?_⟩
  · rw [upd_ne (fun z => hb ⟨i, by rw [z]; exact hi⟩)]; exact e
  · rw [(set_len m (.lst ds) i).1, (set_len m (.lst ds) i).2]; exact r.len
  · rcases set_split k1 with ⟨p1, p2⟩ | ⟨p1, p2⟩
    · rcases set_split k2 with ⟨q1, q2⟩ | ⟨q1, q2⟩
      · rw [p1, q1]
      · subst p1
        exact r.inj j k b (.lst es) y h1 h2 hm q2 lx n2
    · rcases set_split k2 with ⟨q1, q2⟩ | ⟨q1, q2⟩
      · subst q1
        exact r.inj j k b x (.lst es) h1 h2 p2 hm n1 lx
      · exact r.inj j k b x y h1 h2 p2 q2 n1 n2
  · rcases set_split h2 with ⟨p1, p2⟩ | ⟨p1, p2⟩
    · subst p1 p2
      rw [hi] at h1
      cases h1
      exact ⟨xs, upd_same, VDs.mono ex (Pre.refl _) _ h⟩
    · exact (r.at_ j b x h1 p2).mono ex (Pre.refl _) (r.other hi hm lx ha h1 p2 p1)
/-- a cell is frozen -/
theorem RelS.freeze {K : PySem.W.Frag} {c : Anc} {m : Store} {H : Hp} (r : RelS K c m H) {i : Ix} {a : Addr} {ys : List V} {es : List D} {o : Obj} (hi : c.at_ i = some a) (hm : m.at_ i = some (.lst es)) (ha : H a = some (.lst ys)) :
    Gd K c c (m.set .gone i) H (upd H a (.frz o (.lst ys))) := by
  have ex : Ext H (upd H a (.frz o (.lst ys))) := Ext.put ha
  have lx : Cell.lst es ≠ .gone := by intro z; cases z
  refine ⟨Pre.refl _, ex, fun _ h => .inl h, fun b u hb e => ?_, ?_, fun j k b x y h1 h2 k1 k2 n1 n2 => ?_, fun j b x h1 h2 => ?_⟩
  · rw [upd_ne (fun z => hb ⟨i, by rw [z]; exact hi⟩)]; exact e
  · rw [(set_len m .gone i).1, (set_len m .gone i).2]; exact r.len
  · rcases set_split k1 with ⟨p1, p2⟩ | ⟨p1, p2⟩
    · exact absurd p2 n1
    · rcases set_split k2 with ⟨q1, q2⟩ | ⟨q1, q2⟩
      · exact absurd q2 n2
      · exact r.inj j k b x y h1 h2 p2 q2 n1 n2
  · rcases set_split h2 with ⟨p1, p2⟩ | ⟨p1, p2⟩
    · subst p1 p2
      rw [hi] at h1
      cases h1
      exact ⟨o, _, upd_same⟩
    · exact (r.at_ j b x h1 p2).mono ex (Pre.refl _) (r.other hi hm lx ha h1 p2 p1)
end L2.Dn
namespace L2.Dn
open PySem PySem.Spec PyProof.Rows L2
/-! ### access -/
def lstOf : D → Store → Option (List D)
  | .p (.list ds), _ => some (ds.map D.p)
  | .lst xs, _ => some xs
  | .cell i, m => match m.at_ i with
    | some (.lst xs) => some xs
    | _ => none
  | _, _ => none
def tupOf : D → Option (List D)
  | .p (.tuple ds) => some (ds.map D.p)
  | .tup xs => some xs
  | _ => none
section
variable {K : PySem.W.Frag} {H : Hp} {c : Anc} {m : Store} {v : V} {d : D} {ds : List D}
theorem VD.int {i : Int} : VD K H c v (.p (.int i)) ↔ v = .int i := by
  unfold VD
  exact ⟨fun h => by cases h; rfl, fun h => by subst h; exact .int i⟩
theorem VD.str {x : Str} : VD K H c v (.p (.str x)) ↔ v = .str x := by
  unfold VD
  exact ⟨fun h => by cases h; rfl, fun h => by subst h; exact .str x⟩
theorem VD.bl {b : Bool} : VD K H c v (.p (.bool b)) ↔ v = .bl b := by
  unfold VD
  exact ⟨fun h => by cases h; rfl, fun h => by subst h; exact .bl b⟩
theorem VD.non : VD K H c v (.p .none) ↔ v = .non := by
  unfold VD
  exact ⟨fun h => by cases h; rfl, fun h => by subst h; exact .non⟩
theorem lstOf_ok (r : RelS K c m H) (h : VD K H c v d) (e : lstOf d m = some ds) : ∃ a vs, v = .ref a ∧ RdL K H a vs ∧ VDs K H c vs ds := by
  unfold lstOf at e
  split at e
  · cases e
    unfold VD at h
    cases h with
    | lst f q => exact ⟨_, _, rfl, f.rd, VDs.ofp q⟩
  · cases e
    unfold VD at h
    obtain ⟨a, vs, h1, h2, h3⟩ := h
    exact ⟨a, vs, h1, h2.rd, h3⟩
  · unfold VD at h
    obtain ⟨a, h1, h2⟩ := h
    split at e
    · rename_i h3
      cases e
      obtain ⟨xs, h4, h5⟩ := r.at_ _ _ _ h1 h3
      exact ⟨a, xs, h2, .inl h4, VDs.mono (Ext.refl _) (forI_le _ _) _ h5⟩
    · cases e
  · cases e
theorem tupOf_ok (h : VD K H c v d) (e : tupOf d = some ds) : ∃ a vs, v = .ref a ∧ SqT K H a vs ∧ VDs K H c vs ds := by
  unfold tupOf at e
  split at e
  · cases e
    unfold VD at h
    cases h with
    | tup f q => exact ⟨_, _, rfl, f, VDs.ofp q⟩
  · cases e
    unfold VD at h
    obtain ⟨a, vs, h1, h2, h3⟩ := h
    exact ⟨a, vs, h1, h2, h3⟩
  · cases e
end
/-! ### making -/
def pures : List D → Option (List PyData)
  | [] => some []
  | .p d :: r => match pures r with
    | some ds => some (d :: ds)
    | none => none
  | _ :: _ => none
theorem pures_map : ∀ ds : List PyData, pures (ds.map D.p) = some ds
  | [] => rfl
  | d :: ds => by simp [pures, pures_map ds]
theorem of_pures : ∀ {xs : List D} {ds : List PyData}, pures xs = some ds → xs = ds.map D.p
  | [], ds, e => by simp [pures] at e; subst e; rfl
  | .p d :: r, ds, e => by
    unfold pures at e
    split at e
    · rename_i es h
      cases e
      rw [of_pures h]
      rfl
    · cases e
  | .cell _ :: _, _, e => by simp [pures] at e
  | .tup _ :: _, _, e => by simp [pures] at e
  | .lst _ :: _, _, e => by simp [pures] at e
  | .ty _ :: _, _, e => by simp [pures] at e
def mkLst (xs : List D) : D := match pures xs with
  | some ds => .p (.list ds)
  | none => .lst xs
def mkTup (xs : List D) : D := match pures xs with
  | some ds => .p (.tuple ds)
  | none => .tup xs
theorem mkLst_p (ds : List PyData) : mkLst (ds.map D.p) = .p (.list ds) := by unfold mkLst; rw [pures_map]
theorem mkTup_p (ds : List PyData) : mkTup (ds.map D.p) = .p (.tuple ds) := by unfold mkTup; rw [pures_map]
theorem mkLst_ok {K : PySem.W.Frag} {H : Hp} {c : Anc} {a : Addr} {vs : List V} {xs : List D} (h : VDs K H c vs xs) (f : FzL K H a vs) : VD K H c (.ref a) (mkLst xs) := by
  unfold mkLst
  split
  · rename_i ds e
    have := of_pures e
    subst this
    unfold VD
    exact .lst f (VDs.top h)
  · unfold VD
    exact ⟨a, vs, rfl, f, h⟩
theorem mkTup_ok {K : PySem.W.Frag} {H : Hp} {c : Anc} {a : Addr} {vs : List V} {xs : List D} (h : VDs K H c vs xs) (f : SqT K H a vs) : VD K H c (.ref a) (mkTup xs) := by
  unfold mkTup
  split
  · rename_i ds e
    have := of_pures e
    subst this
    unfold VD
    exact .tup f (VDs.top h)
  · unfold VD
    exact ⟨a, vs, rfl, f, h⟩
/-- how a new list is kept: frozen at once, a cell of the def, a global cell -/
inductive Md where
  | z | l | g
def newL : Md → List D → Store → Res D
  | .z, xs, m => .ok (mkLst xs) m
  | .l, xs, m => .ok (.cell (m.next true)) (m.push (.lst xs) true)
  | .g, xs, m => if nls xs then .ok (.cell (m.next false)) (m.push (.lst xs) false) else .stuck
/-! ### the ghost step -/
section
variable {X : Cx} {pins : List (Addr × Obj)} {σ : St} {H : Hp} {s : Shared}
theorem Inv.frzL (I : Inv X pins σ H s) {a : Addr} {xs : List V} (h : H a = some (.lst xs)) : ∃ o, Inv X pins σ (upd H a (.frz o (.lst xs))) s := by
  obtain ⟨z, its, n, r, e⟩ := I.hok a _ h
  refine ⟨_, I.un (h' := s.heap) (t' := s.toks) (H' := upd H a (.frz { cls := .type "list", data := .seq its.toArray n } (.lst xs))) ⟨fun b o q _ _ _ => q, fun b o q _ _ _ => ⟨o.slots, q⟩, fun b o q n _ => ?_, fun b o q _ => ⟨o, q⟩, fun b ys q => ?_, fun b o u q => ?_, fun b ps q => ⟨#[], ?_⟩⟩ ?_⟩
  · rw [upd_ne (fun z => by rw [z, h] at n; cases n)]
    exact n
  · rw [upd_ne (ne_of q h (by intro z; cases z))]
    exact q
  · rw [upd_ne (ne_of q h (by intro z; cases z))]
    exact q
  · rw [upd_ne (ne_of q h (by intro z; cases z)), q]
    simp
  · intro b o q
    by_cases hb : b = a
    · subst hb
      rw [upd_same] at q
      cases q
      exact ⟨e, z, its, n, r, e⟩
    · rw [upd_ne hb] at q
      refine (I.hok b o q).stay (fun c u _ q => q) (fun c q => ?_) fun c ys q => ?_
      · rw [upd_ne (ne_of q h (by intro z; cases z))]
        exact q
      · rw [upd_ne (ne_of q h (by intro z; cases z))]
        exact q
/-- Q, or Q behind the freezing of the value -/
def QF (Q : VK) : VK := fun v H => Q v H ∨ ∃ a xs, v = .ref a ∧ H a = some (.lst xs) ∧ ∀ o, Q v (upd H a (.frz o (.lst xs)))
theorem EP.frz {Q : VK} {u : Value} (h : EP X pins σ (QF Q) u s) : EP X pins σ Q u s := by
  obtain ⟨v, H', I, r, q | ⟨a, xs, e, h1, q⟩⟩ := h
  · exact ⟨v, H', I, r, q⟩
  · obtain ⟨o, I'⟩ := Inv.frzL I h1
    exact ⟨v, _, I', r, q o⟩
end
/-! ### what is wanted -/
def ExcV (mg : Str → Option Value) (K : PySem.W.Frag) (H : Hp) (c : Anc) (x : Exn) (cls : Value) (dd : Option Addr) : Prop :=
  ∃ C, mg x.cls = some (.ref C) ∧ cls = .ref C ∧ ((x.fs = [] ∧ dd = none) ∨ ∃ dx vs, dd = some dx ∧ H dx = some (.xd vs) ∧ vs.map (·.1) = x.fs.map (·.1) ∧ VDs K H c (vs.map (·.2)) (x.fs.map (·.2)))
/-- what is wanted behind r -/
def Want (X : Cx) (W : WX) (c : Anc) (H : Hp) (σ : St) (r : Res D) (Q : VK) : Prop := match r with
  | .ok d m' => ∀ c' v H', Gd X.K c c' m' H H' → VD X.K H' c' v d → Q v H'
  | .exc x m' => ∀ c' cls dd H', Gd X.K c c' m' H H' → ExcV X.mg X.K H' c' x cls dd → W cls dd σ H'
  | .stuck => False
def WantL (X : Cx) (W : WX) (c : Anc) (H : Hp) (σ : St) (r : Res (List D)) (Q : List V → Hp → Prop) : Prop := match r with
  | .ok ds m' => ∀ c' vs H', Gd X.K c c' m' H H' → VDs X.K H' c' vs ds → Q vs H'
  | .exc x m' => ∀ c' cls dd H', Gd X.K c c' m' H H' → ExcV X.mg X.K H' c' x cls dd → W cls dd σ H'
  | .stuck => False
def WantB (X : Cx) (W : WX) (c : Anc) (H : Hp) (σ : St) (r : Res Bool) (Q : Bool → Hp → Prop) : Prop := match r with
  | .ok b m' => ∀ c' H', Gd X.K c c' m' H H' → Q b H'
  | .exc x m' => ∀ c' cls dd H', Gd X.K c c' m' H H' → ExcV X.mg X.K H' c' x cls dd → W cls dd σ H'
  | .stuck => False
section
variable {X : Cx} {W : WX} {c c' : Anc} {H H' : Hp} {σ : St} {m m' : Store}
theorem Want.shift {r : Res D} {Q : VK} (g : Gd X.K c c' m' H H') (h : Want X W c H σ r Q) : Want X W c' H' σ r Q := by
  cases r with
  | ok d m1 => exact fun c1 v H1 g1 hv => h c1 v H1 (g.trans g1) hv
  | exc x m1 => exact fun c1 cls dd H1 g1 hv => h c1 cls dd H1 (g.trans g1) hv
  | stuck => exact h
theorem WantL.shift {r : Res (List D)} {Q : List V → Hp → Prop} (g : Gd X.K c c' m' H H') (h : WantL X W c H σ r Q) : WantL X W c' H' σ r Q := by
  cases r with
  | ok d m1 => exact fun c1 v H1 g1 hv => h c1 v H1 (g.trans g1) hv
  | exc x m1 => exact fun c1 cls dd H1 g1 hv => h c1 cls dd H1 (g.trans g1) hv
  | stuck => exact h
theorem WantB.shift {r : Res Bool} {Q : Bool → Hp → Prop} (g : Gd X.K c c' m' H H') (h : WantB X W c H σ r Q) : WantB X W c' H' σ r Q := by
  cases r with
  | ok d m1 => exact fun c1 H1 g1 => h c1 H1 (g.trans g1)
  | exc x m1 => exact fun c1 cls dd H1 g1 hv => h c1 cls dd H1 (g.trans g1) hv
  | stuck => exact h
/-- at once -/
theorem Want.now {Q : VK} {v : V} {d : D} (r : RelS X.K c m H) (h : Want X W c H σ (.ok d m) Q) (hv : VD X.K H c v d) : Q v H := h c v H (Gd.refl r) hv
theorem newL_ok {z : Md} {ds : List D} {xs : List V} {Q : VK} (r : RelS X.K c m H) (hv : VDs X.K H c xs ds) (h : Want X W c H σ (newL z ds m) Q) : ∀ p, H p = none → QF Q (.ref p) (upd H p (.lst xs)) := by
  intro p hp
  cases z with
  | z =>
    right
    refine ⟨p, xs, rfl, upd_same, fun o => ?_⟩
    rw [upd_upd]
    have g : Gd X.K c c m H (upd H p (.frz o (.lst xs))) := r.lay hp
    exact h c _ _ g (mkLst_ok (g.vds hv) (.inl ⟨o, upd_same⟩))
  | l =>
    left
    have g := r.new true (ds := ds) hp hv
    refine h _ _ _ g ?_
    unfold VD
    exact ⟨p, by rw [← next_eq r]; exact push_next _ _ _, rfl⟩
  | g =>
    left
    cases hn : nls ds with
    | false => rw [newL, hn] at h; exact h.elim
    | true =>
      rw [newL, hn] at h
      have g := r.new false (ds := ds) hp (VDs.nl ds hv hn)
      refine h _ _ _ g ?_
      unfold VD
      exact ⟨p, by rw [← next_eq r]; exact push_next _ _ _, rfl⟩
theorem newT_ok {ds : List D} {xs : List V} {Q : VK} (r : RelS X.K c m H) (hv : VDs X.K H c xs ds) (h : Want X W c H σ (.ok (mkTup ds) m) Q) : ∀ p, H p = none → Q (.ref p) (upd H p (.tup xs)) := by
  intro p hp
  have g : Gd X.K c c m H (upd H p (.tup xs)) := r.lay hp
  exact h c _ _ g (mkTup_ok (g.vds hv) (SqT.of upd_same))
end
/-! ### the judgements -/
def WE (X : Cx) (e : Expr) (σ : St) (H : Hp) (Q : VK) : Prop := ∀ (pins : List (Addr × Obj)) (s : Shared), Inv X pins σ H s → wpAny (model X.prog X.w) X.A (eval e X.env) (EP X pins σ Q) X.xe s
def WT (X : Cx) (e : Expr) (σ : St) (H : Hp) (Q : Bool → Hp → Prop) : Prop := ∀ (pins : List (Addr × Obj)) (s : Shared), Inv X pins σ H s → wpAny (model X.prog X.w) X.A (isTrue e X.env (eval e X.env)) (TP X pins σ Q) X.xe s
def WW (X : Cx) (e : Expr) (σ : St) (H : Hp) (Q : Bool → Hp → Prop) : Prop := ∀ (whole : Sem Value) (pins : List (Addr × Obj)) (s : Shared), Inv X pins σ H s → wpAny (model X.prog X.w) X.A (isTrue e X.env whole) (TP X pins σ Q) X.xe s
def WA (X : Cx) (es : List Expr) (σ : St) (H : Hp) (Q : List V → Hp → Prop) : Prop := ∀ (pos : Pos) (pins : List (Addr × Obj)) (s : Shared), Inv X pins σ H s → wpAny (model X.prog X.w) X.A (spliced (backTo pos (starEach es X.env))) (AP X pins σ Q) X.xe s
def WSt (X : Cx) (st : Stmt) (D : Ends) (σ : St) (H : Hp) : Prop := ∀ (pins : List (Addr × Obj)) (s : Shared), Inv X pins σ H s → wpAny (model X.prog X.w) X.A (exec st X.env) (SP X pins D) X.xe s
def WSs (X : Cx) (st : List Stmt) (D : Ends) (σ : St) (H : Hp) : Prop := ∀ (pins : List (Addr × Obj)) (s : Shared), Inv X pins σ H s → wpAny (model X.prog X.w) X.A (execs st X.env) (SP X pins D) X.xe s
section
variable {X : Cx} {e : Expr} {es : List Expr} {st : Stmt} {sts : List Stmt} {σ : St} {H : Hp}
theorem pe_w : PE X e (WE X e) := ⟨fun pins s σ H Q I h => h pins s I⟩
theorem pt_w : PT X e (WT X e) := ⟨fun pins s σ H Q I h => h pins s I⟩
theorem pw_w : PW X e (WW X e) := ⟨fun w pins s σ H Q I h => h w pins s I⟩
theorem pa_w : PA X es (WA X es) := ⟨fun pos pins s σ H Q I h => h pos pins s I⟩
theorem ps_w : PS X st (WSt X st) := ⟨fun pins s σ H D I h => h pins s I⟩
theorem pss_w : PSs X sts (WSs X sts) := ⟨fun pins s σ H D I h => h pins s I⟩
theorem we_of {t : TE} (h : PE X e t) {Q : VK} (q : t σ H Q) : WE X e σ H Q := fun pins s I => h.run pins s σ H Q I q
theorem wt_of {t : TT} (h : PT X e t) {Q : Bool → Hp → Prop} (q : t σ H Q) : WT X e σ H Q := fun pins s I => h.run pins s σ H Q I q
theorem ww_of {t : TT} (h : PW X e t) {Q : Bool → Hp → Prop} (q : t σ H Q) : WW X e σ H Q := fun w pins s I => h.run w pins s σ H Q I q
theorem wa_of {t : TA} (h : PA X es t) {Q : List V → Hp → Prop} (q : t σ H Q) : WA X es σ H Q := fun pos pins s I => h.run pos pins s σ H Q I q
theorem wst_of {t : TS} (h : PS X st t) {D : Ends} (q : t D σ H) : WSt X st D σ H := fun pins s I => h.run pins s σ H D I q
theorem wss_of {t : TS} (h : PSs X sts t) {D : Ends} (q : t D σ H) : WSs X sts D σ H := fun pins s I => h.run pins s σ H D I q
theorem WE.mono {Q Q' : VK} (h : WE X e σ H Q) (hq : ∀ v H', Q v H' → Q' v H') : WE X e σ H Q' := fun pins s I => thn (h pins s I) fun u s' ⟨v, H', I', r, q⟩ => ⟨v, H', I', r, hq v H' q⟩
theorem WE.frz {Q : VK} (h : WE X e σ H (QF Q)) : WE X e σ H Q := fun pins s I => thn (h pins s I) fun u s' q => EP.frz q
theorem WA.mono {Q Q' : List V → Hp → Prop} (h : WA X es σ H Q) (hq : ∀ v H', Q v H' → Q' v H') : WA X es σ H Q' := fun pos pins s I => thn (h pos pins s I) fun u s' ⟨v, H', I', r, q⟩ => ⟨v, H', I', r, hq v H' q⟩
theorem WT.mono {Q Q' : Bool → Hp → Prop} (h : WT X e σ H Q) (hq : ∀ v H', Q v H' → Q' v H') : WT X e σ H Q' := fun pins s I => thn (h pins s I) fun u s' ⟨H', I', q⟩ => ⟨H', I', hq u H' q⟩
end
def DE (X : Cx) (W : WX) (e : Expr) (f : FE) : Prop := ∀ (c : Anc) (ρ : Rho) (m : Store) (σ : St) (H : Hp) (Q : VK), RelS X.K c m H → Slo X.K H c ρ σ → Want X W c H σ (f ρ m) Q → WE X e σ H Q
def DT (X : Cx) (W : WX) (e : Expr) (f : Rho → Store → Res Bool) : Prop := ∀ (c : Anc) (ρ : Rho) (m : Store) (σ : St) (H : Hp) (Q : Bool → Hp → Prop), RelS X.K c m H → Slo X.K H c ρ σ → WantB X W c H σ (f ρ m) Q → WT X e σ H Q
def DW (X : Cx) (W : WX) (e : Expr) (f : Rho → Store → Res Bool) : Prop := ∀ (c : Anc) (ρ : Rho) (m : Store) (σ : St) (H : Hp) (Q : Bool → Hp → Prop), RelS X.K c m H → Slo X.K H c ρ σ → WantB X W c H σ (f ρ m) Q → WW X e σ H Q
def DA (X : Cx) (W : WX) (es : List Expr) (f : Rho → Store → Res (List D)) : Prop := ∀ (c : Anc) (ρ : Rho) (m : Store) (σ : St) (H : Hp) (Q : List V → Hp → Prop), RelS X.K c m H → Slo X.K H c ρ σ → WantL X W c H σ (f ρ m) Q → WA X es σ H Q
section
variable {X : Cx} {W : WX} {a b e : Expr} {es : List Expr} {fa fb f : FE} {pos : Pos} {c : Anc} {ρ : Rho} {m : Store} {σ : St} {H : Hp}
/-- first a, then on -/
theorem DE.then_ {β : Type} {k : D → Store → Res β} {WB : Anc → Hp → Res β → Prop} {Q : VK} (h : DE X W a fa) (r : RelS X.K c m H) (s : Slo X.K H c ρ σ) (hb : WB c H ((fa ρ m).bind k))
    (hs : ∀ c H, WB c H .stuck → False) (he : ∀ c H x m1, WB c H (.exc x m1) → ∀ c' cls dd H', Gd X.K c c' m1 H H' → ExcV X.mg X.K H' c' x cls dd → W cls dd σ H') (hsh : ∀ {c c' : Anc} {H H' : Hp} {m' : Store} {r : Res β}, Gd X.K c c' m' H H' → WB c H r → WB c' H' r)
    (q : ∀ d m1 c1 v H1, RelS X.K c1 m1 H1 → Slo X.K H1 c1 ρ σ → Gd X.K c c1 m1 H H1 → VD X.K H1 c1 v d → WB c1 H1 (k d m1) → Q v H1) : WE X a σ H Q := by
  refine h c ρ m σ H Q r s ?_
  cases e : fa ρ m with
  | ok d m1 =>
    rw [e] at hb
    exact fun c1 v H1 g hv => q d m1 c1 v H1 g.rel (g.slots s) g hv (hsh g hb)
  | exc x m1 =>
    rw [e] at hb
    exact he c H x m1 hb
  | stuck =>
    rw [e] at hb
    exact hs c H hb
theorem DE.thenE {k : D → Store → Res D} {Q Q' : VK} (h : DE X W a fa) (r : RelS X.K c m H) (s : Slo X.K H c ρ σ) (hb : Want X W c H σ ((fa ρ m).bind k) Q')
    (q : ∀ d m1 c1 v H1, RelS X.K c1 m1 H1 → Slo X.K H1 c1 ρ σ → Gd X.K c c1 m1 H H1 → VD X.K H1 c1 v d → Want X W c1 H1 σ (k d m1) Q' → Q v H1) : WE X a σ H Q :=
  h.then_ (WB := fun c H r => Want X W c H σ r Q') r s hb (fun _ _ z => z) (fun _ _ _ _ z => z) (fun g z => z.shift g) q
theorem DE.thenL {k : D → Store → Res (List D)} {Q : VK} {Q' : List V → Hp → Prop} (h : DE X W a fa) (r : RelS X.K c m H) (s : Slo X.K H c ρ σ) (hb : WantL X W c H σ ((fa ρ m).bind k) Q')
    (q : ∀ d m1 c1 v H1, RelS X.K c1 m1 H1 → Slo X.K H1 c1 ρ σ → Gd X.K c c1 m1 H H1 → VD X.K H1 c1 v d → WantL X W c1 H1 σ (k d m1) Q' → Q v H1) : WE X a σ H Q :=
  h.then_ (WB := fun c H r => WantL X W c H σ r Q') r s hb (fun _ _ z => z) (fun _ _ _ _ z => z) (fun g z => z.shift g) q
theorem DE.thenB {k : D → Store → Res Bool} {Q : VK} {Q' : Bool → Hp → Prop} (h : DE X W a fa) (r : RelS X.K c m H) (s : Slo X.K H c ρ σ) (hb : WantB X W c H σ ((fa ρ m).bind k) Q')
    (q : ∀ d m1 c1 v H1, RelS X.K c1 m1 H1 → Slo X.K H1 c1 ρ σ → Gd X.K c c1 m1 H H1 → VD X.K H1 c1 v d → WantB X W c1 H1 σ (k d m1) Q' → Q v H1) : WE X a σ H Q :=
  h.then_ (WB := fun c H r => WantB X W c H σ r Q') r s hb (fun _ _ z => z) (fun _ _ _ _ z => z) (fun g z => z.shift g) q
theorem DA.thenE {fl : Rho → Store → Res (List D)} {k : List D → Store → Res D} {Q : List V → Hp → Prop} {Q' : VK} (h : DA X W es fl) (r : RelS X.K c m H) (s : Slo X.K H c ρ σ) (hb : Want X W c H σ ((fl ρ m).bind k) Q')
    (q : ∀ d m1 c1 v H1, RelS X.K c1 m1 H1 → Slo X.K H1 c1 ρ σ → Gd X.K c c1 m1 H H1 → VDs X.K H1 c1 v d → Want X W c1 H1 σ (k d m1) Q' → Q v H1) : WA X es σ H Q := by
  refine h c ρ m σ H Q r s ?_
  cases e : fl ρ m with
  | ok d m1 =>
    rw [e] at hb
    exact fun c1 v H1 g hv => q d m1 c1 v H1 g.rel (g.slots s) g hv (Want.shift g hb)
  | exc x m1 => rw [e] at hb; exact hb
  | stuck => rw [e] at hb; exact hb
theorem DA.thenL {fl : Rho → Store → Res (List D)} {k : List D → Store → Res (List D)} {Q : List V → Hp → Prop} {Q' : List V → Hp → Prop} (h : DA X W es fl) (r : RelS X.K c m H) (s : Slo X.K H c ρ σ) (hb : WantL X W c H σ ((fl ρ m).bind k) Q')
    (q : ∀ d m1 c1 v H1, RelS X.K c1 m1 H1 → Slo X.K H1 c1 ρ σ → Gd X.K c c1 m1 H H1 → VDs X.K H1 c1 v d → WantL X W c1 H1 σ (k d m1) Q' → Q v H1) : WA X es σ H Q := by
  refine h c ρ m σ H Q r s ?_
  cases e : fl ρ m with
  | ok d m1 =>
    rw [e] at hb
    exact fun c1 v H1 g hv => q d m1 c1 v H1 g.rel (g.slots s) g hv (WantL.shift g hb)
  | exc x m1 => rw [e] at hb; exact hb
  | stuck => rw [e] at hb; exact hb
theorem DT.thenE {ft : Rho → Store → Res Bool} {k : Bool → Store → Res D} {Q : Bool → Hp → Prop} {Q' : VK} (h : DT X W a ft) (r : RelS X.K c m H) (s : Slo X.K H c ρ σ) (hb : Want X W c H σ ((ft ρ m).bind k) Q')
    (q : ∀ d m1 c1 H1, RelS X.K c1 m1 H1 → Slo X.K H1 c1 ρ σ → Gd X.K c c1 m1 H H1 → Want X W c1 H1 σ (k d m1) Q' → Q d H1) : WT X a σ H Q := by
  refine h c ρ m σ H Q r s ?_
  cases e : ft ρ m with
  | ok d m1 =>
    rw [e] at hb
    exact fun c1 H1 g => q d m1 c1 H1 g.rel (g.slots s) g (Want.shift g hb)
  | exc x m1 => rw [e] at hb; exact hb
  | stuck => rw [e] at hb; exact hb
theorem DT.thenB {ft : Rho → Store → Res Bool} {k : Bool → Store → Res Bool} {Q Q' : Bool → Hp → Prop} (h : DT X W a ft) (r : RelS X.K c m H) (s : Slo X.K H c ρ σ) (hb : WantB X W c H σ ((ft ρ m).bind k) Q')
    (q : ∀ d m1 c1 H1, RelS X.K c1 m1 H1 → Slo X.K H1 c1 ρ σ → Gd X.K c c1 m1 H H1 → WantB X W c1 H1 σ (k d m1) Q' → Q d H1) : WT X a σ H Q := by
  refine h c ρ m σ H Q r s ?_
  cases e : ft ρ m with
  | ok d m1 =>
    rw [e] at hb
    exact fun c1 H1 g => q d m1 c1 H1 g.rel (g.slots s) g (WantB.shift g hb)
  | exc x m1 => rw [e] at hb; exact hb
  | stuck => rw [e] at hb; exact hb
/-! ### constants, names -/
def cE (d : PyData) : FE := fun _ m => .ok (.p d) m
theorem de_int {i : Int} {j : Nat} : DE X W (.Constant (.int i) j pos) (cE (.int i)) := fun c ρ m σ H Q r s h => we_of pe_int (h.now r (VD.int.mpr rfl))
theorem de_bl {i : Bool} {j : Nat} : DE X W (.Constant (.bool i) j pos) (cE (.bool i)) := fun c ρ m σ H Q r s h => we_of pe_bl (h.now r (VD.bl.mpr rfl))
theorem de_non {j : Nat} : DE X W (.Constant .none j pos) (cE .none) := fun c ρ m σ H Q r s h => we_of pe_non (h.now r (VD.non.mpr rfl))
theorem de_str {x : Str} {j : Nat} : DE X W (.Constant (.str x) j pos) (cE (.str x)) := fun c ρ m σ H Q r s h => we_of pe_str (h.now r (VD.str.mpr rfl))
def vE (i : Nat) : FE := fun ρ m => match ρ[i]? with
  | some (some d) => .ok d m
  | _ => .stuck
theorem de_var (i : Nat) {x : Str} (hN : X.N[i]? = some x := by rfl) (hv : Vis X.env.scope x := by first | exact Or.inl rfl | exact Or.inr (Or.inl rfl) | exact Or.inr (Or.inr rfl)) (hd : (x == ("__debug__" : Str)) = false := by decide)
    (hcd : (x == ("__classdict__" : Str)) = false := by decide) : DE X W (.Name x pos) (vE i) := fun c ρ m σ H Q r s h => by
  unfold vE at h
  cases e : ρ[i]? with
  | none => rw [e] at h; exact h.elim
  | some o =>
    cases o with
    | none => rw [e] at h; exact h.elim
    | some d =>
      rw [e] at h
      obtain ⟨v, h1, h2⟩ := s.at_ i d e
      exact we_of (pe_var hN hv hd hcd) ⟨v, h1, h.now r h2⟩
/-- a name of the module whose value is a datum that stands in the written part -/
theorem de_glob {x : Str} {v : V} {u : Value} {d : PyData} (hg : Gl X x) (hm : X.mg x = some u) (r : RelV v u) (hv : ∀ H, DpZ X.K H v d) (hd : (x == ("__debug__" : Str)) = false := by decide) : DE X W (.Name x pos) (cE d) := fun c ρ m σ H Q rr s h =>
  we_of (pe_glob hg hm r hd) (h.now rr (by unfold VD; exact hv H))
def tyE (n : String) : FE := fun _ m => .ok (.ty n) m
theorem de_ty {x : Str} {n : String} (hg : Gl X x) (hm : X.mg x = none) (hv : bootBuiltins x = some (.type n)) (hn : x ≠ "__name__" := by decide) (hd : (x == ("__debug__" : Str)) = false := by decide) : DE X W (.Name x pos) (tyE n) := fun c ρ m σ H Q rr s h =>
  we_of (pe_bltn hg hm hv (v := .ty n) rfl hn hd) (h.now rr (by unfold VD; rfl))
/-! ### arguments, displays -/
def nilA : Rho → Store → Res (List D) := fun _ m => .ok [] m
def consA (f : FE) (g : Rho → Store → Res (List D)) : Rho → Store → Res (List D) := fun ρ m => (f ρ m).bind fun d m1 => (g ρ m1).bind fun ds m2 => .ok (d :: ds) m2
theorem da_nil : DA X W [] nilA := fun c ρ m σ H Q r s h => wa_of pa_nil (h c [] H (Gd.refl r) (by unfold VDs; rfl))
theorem da_cons {g : Rho → Store → Res (List D)} (ha : DE X W e f) (hr : DA X W es g) (hs : starEach (e :: es) X.env = (false, eval e X.env) :: starEach es X.env := by rfl) : DA X W (e :: es) (consA f g) := fun c ρ m σ H Q r s h =>
  wa_of (pa_cons pe_w pa_w hs) (ha.thenL r s h fun d m1 c1 v H1 r1 s1 g1 h1 w1 => hr.thenL r1 s1 w1 fun ds m2 c2 vs H2 r2 s2 g2 h2 w2 =>
    w2 c2 _ H2 (Gd.refl r2) (by unfold VDs; exact ⟨v, vs, rfl, g2.vd h1, h2⟩))
def tupE (g : Rho → Store → Res (List D)) : FE := fun ρ m => (g ρ m).bind fun ds m1 => if ds.length ≤ sizeLine then .ok (mkTup ds) m1 else .stuck
theorem de_tup {g : Rho → Store → Res (List D)} {x1 : Nat} (h : DA X W es g) : DE X W (.Tuple es x1 pos) (tupE g) := fun c ρ m σ H Q r s w =>
  we_of (pe_tup pa_w) (h.thenE r s w fun ds m1 c1 vs H1 r1 s1 g1 h1 w1 => by
    by_cases hl : ds.length ≤ sizeLine
    · rw [if_pos hl] at w1
      exact ⟨by rw [h1.length]; exact hl, newT_ok r1 h1 w1⟩
    · rw [if_neg hl] at w1
      exact w1.elim)
def lstE (z : Md) (g : Rho → Store → Res (List D)) : FE := fun ρ m => (g ρ m).bind fun ds m1 => if ds.length ≤ sizeLine then newL z ds m1 else .stuck
theorem de_lst (z : Md) {g : Rho → Store → Res (List D)} (h : DA X W es g) : DE X W (.List es pos) (lstE z g) := fun c ρ m σ H Q r s w =>
  WE.frz (we_of (pe_lst pa_w) (h.thenE r s w fun ds m1 c1 vs H1 r1 s1 g1 h1 w1 => by
    by_cases hl : ds.length ≤ sizeLine
    · rw [if_pos hl] at w1
      exact ⟨by rw [h1.length]; exact hl, newL_ok r1 h1 w1⟩
    · rw [if_neg hl] at w1
      exact w1.elim))
end
end L2.Dn
namespace L2.Dn
open PySem PySem.Spec PyProof.Rows L2
abbrev OD := Option (D × Store)
def lift : OD → Res D
  | some (d, m) => .ok d m
  | none => .stuck
/-- d, m is wanted behind c, H -/
def WantO (K : PySem.W.Frag) (c : Anc) (H : Hp) (o : OD) (Q : VK) : Prop := match o with
  | some (d, m') => ∀ c' v H', Gd K c c' m' H H' → VD K H' c' v d → Q v H'
  | none => False
theorem Want.o {X : Cx} {W : WX} {c : Anc} {H : Hp} {σ : St} {o : OD} {Q : VK} (h : Want X W c H σ (lift o) Q) : WantO X.K c H o Q := by
  cases o with
  | none => exact h
  | some p => exact h
theorem WantO.now {K : PySem.W.Frag} {c : Anc} {H : Hp} {m : Store} {Q : VK} {v : V} {d : D} (r : RelS K c m H) (h : WantO K c H (some (d, m)) Q) (hv : VD K H c v d) : Q v H := h c v H (Gd.refl r) hv
def newO : Md → List D → Store → OD
  | .z, xs, m => some (mkLst xs, m)
  | .l, xs, m => some (.cell (m.next true), m.push (.lst xs) true)
  | .g, xs, m => if nls xs then some (.cell (m.next false), m.push (.lst xs) false) else none
theorem newO_ok {K : PySem.W.Frag} {c : Anc} {H : Hp} {m : Store} {z : Md} {ds : List D} {xs : List V} {Q : VK} (r : RelS K c m H) (hv : VDs K H c xs ds) (h : WantO K c H (newO z ds m) Q) : ∀ p, H p = none → QF Q (.ref p) (upd H p (.lst xs)) := by
  intro p hp
  cases z with
  | z =>
    right
    refine ⟨p, xs, rfl, upd_same, fun o => ?_⟩
    rw [upd_upd]
    have g : Gd K c c m H (upd H p (.frz o (.lst xs))) := r.lay hp
    exact h c _ _ g (mkLst_ok (g.vds hv) (.inl ⟨o, upd_same⟩))
  | l =>
    left
    have g := r.new true (ds := ds) hp hv
    refine h _ _ _ g ?_
    unfold VD
    exact ⟨p, by rw [← next_eq r]; exact push_next _ _ _, rfl⟩
  | g =>
    left
    cases hn : nls ds with
    | false => rw [newO, hn] at h; exact h.elim
    | true =>
      rw [newO, hn] at h
      have g := r.new false (ds := ds) hp (VDs.nl ds hv hn)
      refine h _ _ _ g ?_
      unfold VD
      exact ⟨p, by rw [← next_eq r]; exact push_next _ _ _, rfl⟩
theorem newTO_ok {K : PySem.W.Frag} {c : Anc} {H : Hp} {m : Store} {ds : List D} {xs : List V} {Q : VK} (r : RelS K c m H) (hv : VDs K H c xs ds) (h : WantO K c H (some (mkTup ds, m)) Q) : ∀ p, H p = none → Q (.ref p) (upd H p (.tup xs)) := by
  intro p hp
  have g : Gd K c c m H (upd H p (.tup xs)) := r.lay hp
  exact h c _ _ g (mkTup_ok (g.vds hv) (SqT.of upd_same))
theorem QF.in_ {Q : VK} {v : V} {H : Hp} (h : Q v H) : QF Q v H := .inl h
/-! ### readings from functions over data -/
def rOf (K : PySem.W.Frag) (g : D → D → Store → OD) : R2 := fun x y H Q => ∃ c m dx dy, RelS K c m H ∧ VD K H c x dx ∧ VD K H c y dy ∧ WantO K c H (g dx dy m) Q
def rOf1 (K : PySem.W.Frag) (g : D → Store → OD) : V → Hp → VK → Prop := fun x H Q => ∃ c m dx, RelS K c m H ∧ VD K H c x dx ∧ WantO K c H (g dx m) Q
def rOfL (K : PySem.W.Frag) (g : List D → Store → OD) : List V → Hp → VK → Prop := fun xs H Q => ∃ c m ds, RelS K c m H ∧ VDs K H c xs ds ∧ WantO K c H (g ds m) Q
def rOfM (K : PySem.W.Frag) (g : D → List D → Store → OD) : V → List V → Hp → VK → Prop := fun x xs H Q => ∃ c m dx ds, RelS K c m H ∧ VD K H c x dx ∧ VDs K H c xs ds ∧ WantO K c H (g dx ds m) Q
def rOfS (K : PySem.W.Frag) (g : D → Option Int → Option Int → Store → OD) : V → Option Int → Option Int → Hp → VK → Prop := fun x lo hi H Q => ∃ c m dx, RelS K c m H ∧ VD K H c x dx ∧ WantO K c H (g dx lo hi m) Q
section
variable {X : Cx} {W : WX} {a b e e3 : Expr} {es : List Expr} {fa fb fc f : FE} {pos : Pos} {c : Anc} {ρ : Rho} {m : Store} {σ : St} {H : Hp}
theorem OpR.by_ {fn : Value → Value → Sem Value} {r r' : R2} (ho : OpR X fn r) (h : ∀ x y H Q, r' x y H Q → r x y H (QF Q)) : OpR X fn r' :=
  fun pins s σ H x y v u Q I rx ry w => thn (ho pins s σ H x y v u (QF Q) I rx ry (h x y H Q w)) fun _ _ q => EP.frz q
theorem CallR.by_ {fv : Value} {r r' : List V → Hp → VK → Prop} (ho : CallR X fv r) (h : ∀ x H Q, r' x H Q → r x H (QF Q)) : CallR X fv r' :=
  fun pins s σ H x v Q I rx w => thn (ho pins s σ H x v (QF Q) I rx (h x H Q w)) fun _ _ q => EP.frz q
theorem UnR.by_ {fv : Value → Sem Value} {r r' : V → Hp → VK → Prop} (ho : UnR X fv r) (h : ∀ x H Q, r' x H Q → r x H (QF Q)) : UnR X fv r' :=
  fun pins s σ H x v Q I rx w => thn (ho pins s σ H x v (QF Q) I rx (h x H Q w)) fun _ _ q => EP.frz q
theorem MtR.by_ {id : String} {r r' : V → List V → Hp → VK → Prop} (ho : MtR X id r) (h : ∀ x xs H Q, r' x xs H Q → r x xs H (QF Q)) : MtR X id r' :=
  fun pins s σ H x xs v us Q I rx rs w => thn (ho pins s σ H x xs v us (QF Q) I rx rs (h x xs H Q w)) fun _ _ q => EP.frz q
theorem IxR.by_ {r r' : R2} (ho : IxR X r) (h : ∀ x y H Q, r' x y H Q → r x y H (QF Q)) : IxR X r' :=
  fun value slice pins s σ H x y v u Q I rx ry w hs => thn (ho value slice pins s σ H x y v u (QF Q) I rx ry (h x y H Q w) hs) fun _ _ q => EP.frz q
theorem SlR.by_ {r r' : V → Option Int → Option Int → Hp → VK → Prop} (ho : SlR X r) (h : ∀ x lo hi H Q, r' x lo hi H Q → r x lo hi H (QF Q)) : SlR X r' :=
  fun pins s σ H x v vl vu lo hi sl Q I rx hs pl pu w => by
    obtain ⟨T, id, h1, h2, h3⟩ := ho pins s σ H x v vl vu lo hi sl (QF Q) I rx hs pl pu (h x lo hi H Q w)
    exact ⟨T, id, h1, h2, thn h3 fun _ _ q => EP.frz q⟩
/-! ### two-place operations -/
def opE (g : D → D → Store → OD) (fa fb : FE) : FE := fun ρ m => (fa ρ m).bind fun x m1 => (fb ρ m1).bind fun y m2 => lift (g x y m2)
theorem two {g : D → D → Store → OD} (ha : DE X W a fa) (hb : DE X W b fb) {Q : VK} (r : RelS X.K c m H) (s : Slo X.K H c ρ σ) (w : Want X W c H σ (opE g fa fb ρ m) Q) : tOp (rOf X.K g) (WE X a) (WE X b) σ H Q :=
  ha.thenE r s w fun x m1 c1 vx H1 r1 s1 g1 h1 w1 => hb.thenE r1 s1 w1 fun y m2 c2 vy H2 r2 s2 g2 h2 w2 => ⟨c2, m2, x, y, r2, g2.vd h1, h2, w2.o⟩
theorem de_op {op : Operator} {g : D → D → Store → OD} (ho : OpR X (binaryOp op) (rOf X.K g)) (ha : DE X W a fa) (hb : DE X W b fb) : DE X W (.BinOp a op b pos) (opE g fa fb) := fun c ρ m σ H Q r s w =>
  we_of (pe_op ho pe_w pe_w) (two ha hb r s w)
theorem de_cmp {op : CmpOp} {g : D → D → Store → OD} (ho : OpR X (compareOp op) (rOf X.K g)) (ha : DE X W a fa) (hb : DE X W b fb) (hm : behindInMarks op b = false := by first | exact nomark _ | rfl) : DE X W (.Compare a [op] [b] pos) (opE g fa fb) := fun c ρ m σ H Q r s w =>
  we_of (pe_cmpR ho pe_w pe_w hm) (two ha hb r s w)
theorem de_ix {g : D → D → Store → OD} (ho : IxR X (rOf X.K g)) (ha : DE X W a fa) (hb : DE X W b fb) (hs : PlainIx b := by exact fun _ _ => rfl) : DE X W (.Subscript a b pos) (opE g fa fb) := fun c ρ m σ H Q r s w =>
  we_of (pe_ix ho pe_w pe_w hs) (two ha hb r s w)
def testR : Res D → Res Bool
  | .ok (.p (.bool b)) m => .ok b m
  | .ok _ _ => .stuck
  | .exc x m => .exc x m
  | .stuck => .stuck
def testE (f : FE) : Rho → Store → Res Bool := fun ρ m => testR (f ρ m)
/-- what is wanted of a test by a value -/
theorem WantB.val {r : Res D} {Q : Bool → Hp → Prop} (h : WantB X W c H σ (testR r) Q) : Want X W c H σ r (fun v H' => ∃ k, v = .bl k ∧ Q k H') := by
  unfold testR at h
  split at h
  · intro c' v H' g hv
    exact ⟨_, VD.bl.mp hv, h c' H' g⟩
  · exact h.elim
  · exact h
  · exact h.elim
theorem dt_cmp {op : CmpOp} {g : D → D → Store → OD} (ho : OpR X (compareOp op) (rOf X.K g)) (ha : DE X W a fa) (hb : DE X W b fb) (hm : behindInMarks op b = false := by first | exact nomark _ | rfl) : DT X W (.Compare a [op] [b] pos) (testE (opE g fa fb)) := fun c ρ m σ H Q r s w =>
  wt_of (pt_cmpR ho pe_w pe_w hm) (two ha hb r s w.val)
def chE (g g' : D → D → Store → OD) (fa fb fc : FE) : FE := fun ρ m => (fa ρ m).bind fun x m1 => (fb ρ m1).bind fun y m2 => (lift (g x y m2)).bind fun t m3 => match t with
  | .p (.bool true) => (fc ρ m3).bind fun z m4 => lift (g' y z m4)
  | .p (.bool false) => .ok (.p (.bool false)) m3
  | _ => .stuck
theorem three {g g' : D → D → Store → OD} (ha : DE X W a fa) (hb : DE X W b fb) (hc : DE X W e3 fc) {Q : VK} (r : RelS X.K c m H) (s : Slo X.K H c ρ σ) (w : Want X W c H σ (chE g g' fa fb fc ρ m) Q) : tChain (rOf X.K g) (rOf X.K g') (WE X a) (WE X b) (WE X e3) σ H Q :=
  ha.thenE r s w fun x m1 c1 vx H1 r1 s1 g1 h1 w1 => hb.thenE r1 s1 w1 fun y m2 c2 vy H2 r2 s2 g2 h2 w2 => by
    cases e : g x y m2 with
    | none => rw [e] at w2; exact w2.elim
    | some p =>
      obtain ⟨t, m3⟩ := p
      rw [e] at w2
      refine ⟨c2, m2, x, y, r2, g2.vd h1, h2, ?_⟩
      rw [e]
      intro c3 v H3 g3 hv
      have w3 := Want.shift g3 w2
      simp only [lift, Res.bind] at w3
      split at w3
      · refine ⟨true, VD.bl.mp hv, ?_⟩
        rw [if_pos rfl]
        exact hc.thenE g3.rel (g3.slots s2) w3 fun z m4 c4 vz H4 r4 s4 g4 h4 w4 => ⟨c4, m4, y, z, r4, g4.vd (g3.vd h2), h4, w4.o⟩
      · refine ⟨false, VD.bl.mp hv, ?_⟩
        rw [if_neg Bool.false_ne_true]
        exact w3.now g3.rel (VD.bl.mpr rfl)
      · exact w3.elim
theorem de_chain {op op' : CmpOp} {g g' : D → D → Store → OD} (ho : OpR X (compareOp op) (rOf X.K g)) (ho' : OpR X (compareOp op') (rOf X.K g')) (ha : DE X W a fa) (hb : DE X W b fb) (hc : DE X W e3 fc)
    (hm : lastMarks [op, op'] [b, e3] = false := by with_unfolding_all rfl) : DE X W (.Compare a [op, op'] [b, e3] pos) (chE g g' fa fb fc) := fun c ρ m σ H Q r s w =>
  we_of (pe_chain ho ho' pe_w pe_w pe_w hm) (three ha hb hc r s w)
theorem dt_chain {op op' : CmpOp} {g g' : D → D → Store → OD} (ho : OpR X (compareOp op) (rOf X.K g)) (ho' : OpR X (compareOp op') (rOf X.K g')) (ha : DE X W a fa) (hb : DE X W b fb) (hc : DE X W e3 fc)
    (hm : lastMarks [op, op'] [b, e3] = false := by with_unfolding_all rfl) : DT X W (.Compare a [op, op'] [b, e3] pos) (testE (chE g g' fa fb fc)) := fun c ρ m σ H Q r s w =>
  wt_of (pt_chain ho ho' pe_w pe_w pe_w hm) (three ha hb hc r s w.val)
def unE (g : D → Store → OD) (fa : FE) : FE := fun ρ m => (fa ρ m).bind fun x m1 => lift (g x m1)
theorem de_un {op : UnaryOp} {g : D → Store → OD} (ho : UnR X (unaryOp op) (rOf1 X.K g)) (ha : DE X W a fa) : DE X W (.UnaryOp op a pos) (unE g fa) := fun c ρ m σ H Q r s w =>
  we_of (pe_un ho pe_w) (ha.thenE r s w fun x m1 c1 vx H1 r1 s1 g1 h1 w1 => ⟨c1, m1, x, r1, h1, w1.o⟩)
/-! ### tests -/
def andT (f g : Rho → Store → Res Bool) : Rho → Store → Res Bool := fun ρ m => (f ρ m).bind fun b m1 => if b then g ρ m1 else .ok false m1
def orT (f g : Rho → Store → Res Bool) : Rho → Store → Res Bool := fun ρ m => (f ρ m).bind fun b m1 => if b then .ok true m1 else g ρ m1
def notT (f : Rho → Store → Res Bool) : Rho → Store → Res Bool := fun ρ m => (f ρ m).bind fun b m1 => .ok (!b) m1
variable {ft gt : Rho → Store → Res Bool} {rest : List Expr}
theorem DW.dt (h : DW X W e ft) : DT X W e ft := fun c ρ m σ H Q r s w pins st I => h c ρ m σ H Q r s w _ pins st I
theorem dw_and1 (h : DT X W a ft) : DW X W (.BoolOp .And [a] pos) ft := fun c ρ m σ H Q r s w => ww_of (pw_and1 pt_w) (h c ρ m σ H Q r s w)
theorem dw_or1 (h : DT X W a ft) : DW X W (.BoolOp .Or [a] pos) ft := fun c ρ m σ H Q r s w => ww_of (pw_or1 pt_w) (h c ρ m σ H Q r s w)
theorem dw_and (h : DT X W a ft) (h2 : DW X W (.BoolOp .And (b :: rest) pos) gt) : DW X W (.BoolOp .And (a :: b :: rest) pos) (andT ft gt) := fun c ρ m σ H Q r s w =>
  ww_of (pw_and pt_w pw_w) (h.thenB r s w fun k m1 c1 H1 r1 s1 g1 w1 => by
    cases k with
    | true => rw [if_pos rfl]; exact h2 c1 ρ m1 σ H1 Q r1 s1 w1
    | false => rw [if_neg Bool.false_ne_true]; exact w1 c1 H1 (Gd.refl r1))
theorem dw_or (h : DT X W a ft) (h2 : DW X W (.BoolOp .Or (b :: rest) pos) gt) : DW X W (.BoolOp .Or (a :: b :: rest) pos) (orT ft gt) := fun c ρ m σ H Q r s w =>
  ww_of (pw_or pt_w pw_w) (h.thenB r s w fun k m1 c1 H1 r1 s1 g1 w1 => by
    cases k with
    | true => rw [if_pos rfl]; exact w1 c1 H1 (Gd.refl r1)
    | false => rw [if_neg Bool.false_ne_true]; exact h2 c1 ρ m1 σ H1 Q r1 s1 w1)
theorem dt_not (h : DT X W a ft) : DT X W (.UnaryOp .Not a pos) (notT ft) := fun c ρ m σ H Q r s w =>
  wt_of (pt_not pt_w) (h.thenB r s w fun k m1 c1 H1 r1 s1 g1 w1 => w1 c1 H1 (Gd.refl r1))
/-- truth of a datum -/
def truD : D → Store → Option Bool
  | .p .none, _ => some false
  | .p (.bool b), _ => some b
  | .p (.int i), _ => some (i != 0)
  | .p (.str x), _ => if x.length ≤ sizeLine then some ((x.length : Int) != 0) else none
  | .p (.tuple ds), _ => some (!ds.isEmpty)
  | .tup ds, _ => some (!ds.isEmpty)
  | d, m => match lstOf d m with
    | some xs => some (!xs.isEmpty)
    | none => none
theorem truD_ok {v : V} {d : D} {k : Bool} (r : RelS X.K c m H) (hv : VD X.K H c v d) (e : truD d m = some k) : TruV X.K v H k := by
  have emp : ∀ {vs : List V} {ds : List D}, VDs X.K H c vs ds → (!ds.isEmpty) = !vs.isEmpty := fun {vs ds} h => by
    have := h.length
    cases vs <;> cases ds <;> simp at this <;> rfl
  unfold truD at e
  split at e
  · cases VD.non.mp hv; cases e; rfl
  · cases VD.bl.mp hv; cases e; rfl
  · cases VD.int.mp hv; cases e; rfl
  · cases VD.str.mp hv
    split at e
    · rename_i h; cases e; exact ⟨h, rfl⟩
    · cases e
  · rename_i ds
    obtain ⟨a, vs, h1, h2, h3⟩ := tupOf_ok (ds := ds.map D.p) hv rfl
    subst h1
    cases e
    refine .inr (.inl ⟨vs, h2, ?_⟩)
    rw [← emp h3]
    cases ds <;> rfl
  · rename_i ds
    obtain ⟨a, vs, h1, h2, h3⟩ := tupOf_ok (ds := ds) hv rfl
    subst h1
    cases e
    exact .inr (.inl ⟨vs, h2, emp h3⟩)
  · split at e
    · rename_i xs h
      obtain ⟨a, vs, h1, h2, h3⟩ := lstOf_ok r hv h
      subst h1
      cases e
      exact .inl ⟨vs, RdL.sq h2, emp h3⟩
    · cases e
def truE (f : FE) : Rho → Store → Res Bool := fun ρ m => (f ρ m).bind fun d m1 => match truD d m1 with
  | some k => .ok k m1
  | none => .stuck
theorem dt_val (h : DE X W e f) (he : ∀ whole, isTrue e X.env whole = (do let v ← whole; standAt e.pos; holding [v] (truthy v)) := by intro _; rfl) : DT X W e (truE f) := fun c ρ m σ H Q r s w =>
  wt_of (pt_truth pe_w he) (h.thenB r s w fun d m1 c1 v H1 r1 s1 g1 h1 w1 => by
    cases q : truD d m1 with
    | none => rw [q] at w1; exact w1.elim
    | some k => rw [q] at w1; exact ⟨k, truD_ok r1 h1 q, w1 c1 H1 (Gd.refl r1)⟩)
/-! ### and, or, not, if as values -/
def oneE (f : FE) : FE := f
def andE (f g : FE) : FE := fun ρ m => (f ρ m).bind fun x m1 => match x with
  | .p (.bool true) => g ρ m1
  | .p (.bool false) => .ok (.p (.bool false)) m1
  | _ => .stuck
def orE (f g : FE) : FE := fun ρ m => (f ρ m).bind fun x m1 => match x with
  | .p (.bool true) => .ok (.p (.bool true)) m1
  | .p (.bool false) => g ρ m1
  | _ => .stuck
def notE (f : FE) : FE := fun ρ m => (f ρ m).bind fun x m1 => match x with
  | .p (.bool b) => .ok (.p (.bool (!b))) m1
  | _ => .stuck
theorem de_one {op : BoolOp} (h : DE X W a fa) : DE X W (.BoolOp op [a] pos) fa := fun c ρ m σ H Q r s w => we_of (pe_one pe_w) (h c ρ m σ H Q r s w)
theorem de_and (h : DE X W a fa) (h2 : DE X W (.BoolOp .And (b :: rest) pos) fb) : DE X W (.BoolOp .And (a :: b :: rest) pos) (andE fa fb) := fun c ρ m σ H Q r s w =>
  we_of (pe_and pe_w pe_w) (h.thenE r s w fun x m1 c1 v H1 r1 s1 g1 h1 w1 => by
    split at w1
    · exact ⟨true, VD.bl.mp h1, by rw [if_pos rfl]; exact h2 c1 ρ m1 σ H1 Q r1 s1 w1⟩
    · exact ⟨false, VD.bl.mp h1, by rw [if_neg Bool.false_ne_true]; exact w1.now r1 (VD.bl.mpr rfl)⟩
    · exact w1.elim)
theorem de_or (h : DE X W a fa) (h2 : DE X W (.BoolOp .Or (b :: rest) pos) fb) : DE X W (.BoolOp .Or (a :: b :: rest) pos) (orE fa fb) := fun c ρ m σ H Q r s w =>
  we_of (pe_or pe_w pe_w) (h.thenE r s w fun x m1 c1 v H1 r1 s1 g1 h1 w1 => by
    split at w1
    · exact ⟨true, VD.bl.mp h1, by rw [if_pos rfl]; exact w1.now r1 (VD.bl.mpr rfl)⟩
    · exact ⟨false, VD.bl.mp h1, by rw [if_neg Bool.false_ne_true]; exact h2 c1 ρ m1 σ H1 Q r1 s1 w1⟩
    · exact w1.elim)
theorem de_not (h : DE X W a fa) : DE X W (.UnaryOp .Not a pos) (notE fa) := fun c ρ m σ H Q r s w =>
  we_of (pe_not pe_w) (h.thenE r s w fun x m1 c1 v H1 r1 s1 g1 h1 w1 => by
    split at w1
    · exact ⟨_, VD.bl.mp h1, w1.now r1 (VD.bl.mpr rfl)⟩
    · exact w1.elim)
def ifE (t : Rho → Store → Res Bool) (fa fb : FE) : FE := fun ρ m => (t ρ m).bind fun k m1 => if k then fa ρ m1 else fb ρ m1
theorem de_if (h : DT X W e ft) (ha : DE X W a fa) (hb : DE X W b fb) : DE X W (.IfExp e a b pos) (ifE ft fa fb) := fun c ρ m σ H Q r s w =>
  we_of (pe_ifExp pt_w pe_w pe_w) (h.thenE r s w fun k m1 c1 H1 r1 s1 g1 w1 => by
    cases k with
    | true => rw [if_pos rfl]; exact ha c1 ρ m1 σ H1 Q r1 s1 w1
    | false => rw [if_neg Bool.false_ne_true]; exact hb c1 ρ m1 σ H1 Q r1 s1 w1)
/-! ### built-in functions, types, methods -/
def calE (g : List D → Store → OD) (fl : Rho → Store → Res (List D)) : FE := fun ρ m => (fl ρ m).bind fun ds m1 => lift (g ds m1)
variable {fl : Rho → Store → Res (List D)} {x : Str} {p : Pos}
theorem de_callB {id : String} {g : List D → Store → OD} (hc : CallR X (.builtin id) (rOfL X.K g)) (hg : Gl X x) (hm : X.mg x = none) (hv : bootBuiltins x = some (.builtin id)) (ha : DA X W (e :: es) fl) (hn : x ≠ "__name__" := by decide) (hdb : (x == ("__debug__" : Str)) = false := by decide)
    (he : starEach (e :: es) X.env = (false, eval e X.env) :: starEach es X.env := by rfl) (hpl : (backTo pos (starEach es X.env)).any (·.1) = false := by rfl) : DE X W (.Call (.Name x p) (e :: es) [] pos) (calE g fl) := fun c ρ m σ H Q r s w =>
  we_of (pe_callB hc hg hm hv pa_w hn hdb he hpl) (ha.thenE r s w fun ds m1 c1 vs H1 r1 s1 g1 h1 w1 => ⟨c1, m1, ds, r1, h1, w1.o⟩)
theorem de_callTy {T : String} {g : List D → Store → OD} (hc : CallR X (.type T) (rOfL X.K g)) (hg : Gl X x) (hm : X.mg x = none) (hv : bootBuiltins x = some (.type T)) (ha : DA X W (e :: es) fl) (hn : x ≠ "__name__" := by decide) (hdb : (x == ("__debug__" : Str)) = false := by decide)
    (he : starEach (e :: es) X.env = (false, eval e X.env) :: starEach es X.env := by rfl) (hpl : (backTo pos (starEach es X.env)).any (·.1) = false := by rfl) : DE X W (.Call (.Name x p) (e :: es) [] pos) (calE g fl) := fun c ρ m σ H Q r s w =>
  we_of (pe_callTy hc hg hm hv pa_w hn hdb he hpl) (ha.thenE r s w fun ds m1 c1 vs H1 r1 s1 g1 h1 w1 => ⟨c1, m1, ds, r1, h1, w1.o⟩)
/-- the type that a method is looked up in -/
def isTy (T : String) : D → Store → Bool
  | .p (.str _), _ => T == "str"
  | .p (.int _), _ => T == "int"
  | d, m => T == "list" && (lstOf d m).isSome
theorem isTy_ok {T : String} {d : D} {v : V} (r : RelS X.K c m H) (hv : VD X.K H c v d) (e : isTy T d m = true) : tyV X.K T v H := by
  unfold isTy at e
  split at e
  · cases VD.str.mp hv; exact beq_iff_eq.mp e
  · cases VD.int.mp hv; exact beq_iff_eq.mp e
  · rw [Bool.and_eq_true] at e
    obtain ⟨xs, q⟩ := Option.isSome_iff_exists.mp e.2
    obtain ⟨a, vs, h1, h2, h3⟩ := lstOf_ok r hv q
    subst h1
    exact .inl ⟨beq_iff_eq.mp e.1, vs, RdL.sq h2⟩
def metE (T : String) (g : D → List D → Store → OD) (fo : FE) (fl : Rho → Store → Res (List D)) : FE := fun ρ m => (fo ρ m).bind fun d m1 => if isTy T d m1 then (fl ρ m1).bind fun ds m2 => lift (g d ds m2) else .stuck
variable {o : Expr} {fo : FE} {name : Str} {apos cpos : Pos}
theorem de_bm {T id : String} {g : D → List D → Store → OD} (pa : PlainAttrs T) (slot : Slot T name id) (hty : typeOf (.builtin id) = pure (.type "method_descriptor")) (hm : MtR X id (rOfM X.K g)) (ho : DE X W o fo) (ha : DA X W (e :: es) fl)
    (hbase : attributeBase o name X.env (eval o X.env) = eval o X.env := by rfl)
    (hfew : ((backTo cpos (starEach (e :: es) X.env)).all (fun x => !x.1) && (backToKw cpos (keywordEach [] X.env)).all (fun x => x.1.isSome)
      && decide ((e :: es).length + ([] : List Keyword).length + (if ([] : List Keyword).isEmpty then 0 else 1) < 30)) = true := by rfl)
    (hline : (apos.endLine == cpos.line) = true := by rfl) (hs : starEach (e :: es) X.env = (false, eval e X.env) :: starEach es X.env := by rfl) (hplain : (backTo cpos (starEach es X.env)).any (·.1) = false := by rfl) :
    DE X W (.Call (.Attribute o name apos) (e :: es) [] cpos) (metE T g fo fl) := fun c ρ m σ H Q r s w =>
  we_of (pe_bm pa slot hty hm pe_w pa_w hbase hfew hline hs hplain) (ho.thenE r s w fun d m1 c1 v H1 r1 s1 g1 h1 w1 => by
    cases q : isTy T d m1 with
    | false => rw [q] at w1; exact w1.elim
    | true =>
      rw [q] at w1
      exact ⟨isTy_ok r1 h1 q, ha.thenE r1 s1 w1 fun ds m2 c2 vs H2 r2 s2 g2 h2 w2 => ⟨c2, m2, d, ds, r2, g2.vd h1, h2, w2.o⟩⟩)
theorem de_bm0 {T id : String} {g : D → List D → Store → OD} (pa : PlainAttrs T) (slot : Slot T name id) (hty : typeOf (.builtin id) = pure (.type "method_descriptor")) (hm : MtR X id (rOfM X.K g)) (ho : DE X W o fo)
    (hbase : attributeBase o name X.env (eval o X.env) = eval o X.env := by rfl) (hline : (apos.endLine == cpos.line) = true := by rfl) : DE X W (.Call (.Attribute o name apos) [] [] cpos) (metE T g fo nilA) := fun c ρ m σ H Q r s w =>
  we_of (pe_bm0 pa slot hty hm pe_w hbase hline) (ho.thenE r s w fun d m1 c1 v H1 r1 s1 g1 h1 w1 => by
    cases q : isTy T d m1 with
    | false => rw [q] at w1; exact w1.elim
    | true =>
      rw [q] at w1
      exact ⟨isTy_ok r1 h1 q, c1, m1, d, [], r1, h1, (by unfold VDs; rfl), Want.o w1⟩)
/-! ### slices -/
def FO := Rho → Store → Res (Option Int)
def noO : FO := fun _ m => .ok none m
def someO (f : FE) : FO := fun ρ m => (f ρ m).bind fun d m1 => match d with
  | .p (.int i) => .ok (some i) m1
  | _ => .stuck
def slE (g : D → Option Int → Option Int → Store → OD) (fa : FE) (fl fh : FO) : FE := fun ρ m => (fa ρ m).bind fun d m1 => (fl ρ m1).bind fun lo m2 => (fh ρ m2).bind fun hi m3 => lift (g d lo hi m3)
/-- a slice's part -/
def DO (X : Cx) (W : WX) (e : Option Expr) (f : FO) : Prop := ∀ {c : Anc} {ρ : Rho} {m : Store} {σ : St} {H : Hp} {Q : VK} {k : Option Int → Store → Res D} {R : Option Int → Hp → Prop}, RelS X.K c m H → Slo X.K H c ρ σ → Want X W c H σ ((f ρ m).bind k) Q →
  (∀ i m1 c1 H1, RelS X.K c1 m1 H1 → Slo X.K H1 c1 ρ σ → Gd X.K c c1 m1 H H1 → Want X W c1 H1 σ (k i m1) Q → R i H1) → ∃ t, PO X e t ∧ t σ H R
theorem do_none : DO X W none noO := fun {c ρ m σ H Q k R} r s w q => ⟨_, po_none, q none m c H r s (Gd.refl r) w⟩
theorem do_some (h : DE X W e f) : DO X W (some e) (someO f) := fun {c ρ m σ H Q k R} r s w q => by
  refine ⟨_, po_some pe_w, ?_⟩
  have w' : Want X W c H σ ((f ρ m).bind fun d m1 => match d with | .p (.int i) => k (some i) m1 | _ => .stuck) Q := by
    have e1 : ((someO f ρ m).bind k) = ((f ρ m).bind fun d m1 => match d with | .p (.int i) => k (some i) m1 | _ => .stuck) := by
      unfold someO
      cases f ρ m with
      | ok d m1 =>
        show Res.bind (match d with | .p (.int i) => Res.ok (some i) m1 | _ => .stuck) k = (match d with | .p (.int i) => k (some i) m1 | _ => .stuck)
        split <;> rfl
      | exc x m1 => rfl
      | stuck => rfl
    rw [← e1]
    exact w
  exact h.thenE r s w' fun d m1 c1 v H1 r1 s1 g1 h1 w1 => by
    split at w1
    · exact ⟨_, VD.int.mp h1, q _ m1 c1 H1 r1 s1 g1 w1⟩
    · exact w1.elim
variable {lo hi : Option Expr} {flo fhi : FO} {p2 : Pos}
theorem de_slice {g : D → Option Int → Option Int → Store → OD} (hr : SlR X (rOfS X.K g)) (ha : DE X W a fa) (hl : DO X W lo flo) (hh : DO X W hi fhi) : DE X W (.Subscript a (.Slice lo hi none p2) pos) (slE g fa flo fhi) := fun c ρ m σ H Q r s w => by
  -- the parts' readings hang on the state: go by the run
  have PL : PO X lo (fun σ H R => ∀ (pins : List (Addr × Obj)) (s : Shared), Inv X pins σ H s → wpAny (model X.prog X.w) X.A (evalPart lo X.env) (fun u s' => ∃ o H', Inv X pins σ H' s' ∧ IsPart u o ∧ R o H') X.xe s) := ⟨fun pins s σ H Q I h => h pins s I⟩
  have PH : PO X hi (fun σ H R => ∀ (pins : List (Addr × Obj)) (s : Shared), Inv X pins σ H s → wpAny (model X.prog X.w) X.A (evalPart hi X.env) (fun u s' => ∃ o H', Inv X pins σ H' s' ∧ IsPart u o ∧ R o H') X.xe s) := ⟨fun pins s σ H Q I h => h pins s I⟩
  refine we_of (pe_slice hr pe_w PL PH) (ha.thenE r s w fun d m1 c1 v H1 r1 s1 g1 h1 w1 => ?_)
  intro pins st I
  obtain ⟨t, P, q⟩ := hl (R := fun l H2 => ∀ (pins : List (Addr × Obj)) (s : Shared), Inv X pins σ H2 s → wpAny (model X.prog X.w) X.A (evalPart hi X.env) (fun u s' => ∃ o H', Inv X pins σ H' s' ∧ IsPart u o ∧ rOfS X.K g v l o H' Q) X.xe s) r1 s1 w1 (fun i m2 c2 H2 r2 s2 g2 w2 => by
    intro pins2 st2 I2
    obtain ⟨t, P, q⟩ := hh (R := fun u H3 => rOfS X.K g v i u H3 Q) r2 s2 w2 (fun j m3 c3 H3 r3 s3 g3 w3 => ⟨c3, m3, d, r3, g3.vd (g2.vd h1), w3.o⟩)
    exact P.run pins2 st2 σ H2 _ I2 q)
  exact P.run pins st σ H1 _ I q
end
end L2.Dn
namespace L2.Dn
open PySem PySem.Spec PyProof.Rows L2
/-! ### ghost steps upon a value -/
def frzR : Res D → Res D
  | .ok (.cell i) m => match m.at_ i with
    | some (.lst xs) => .ok (mkLst xs) (m.set .gone i)
    | _ => .stuck
  | r => r
def frzE (f : FE) : FE := fun ρ m => frzR (f ρ m)
section
variable {X : Cx} {W : WX} {a b e : Expr} {es : List Expr} {fa fb f : FE} {pos : Pos} {c : Anc} {ρ : Rho} {m : Store} {σ : St} {H : Hp}
theorem de_frz (h : DE X W e f) : DE X W e (frzE f) := fun c ρ m σ H Q r s w => by
  refine WE.frz (h c ρ m σ H (QF Q) r s ?_)
  unfold frzE at w
  cases q : f ρ m with
  | stuck => rw [q] at w; exact w
  | exc x m1 => rw [q] at w; exact w
  | ok d m1 =>
    rw [q] at w
    intro c1 v H1 g hv
    cases d with
    | cell i =>
      unfold VD at hv
      obtain ⟨b, h1, h2⟩ := hv
      cases q2 : m1.at_ i with
      | none => simp only [frzR, q2] at w; exact w.elim
      | some x =>
        cases x with
        | gone => simp only [frzR, q2] at w; exact w.elim
        | lst xs =>
          simp only [frzR, q2] at w
          obtain ⟨vs, h3, h4⟩ := g.rel.at_ i b _ h1 q2
          refine .inr ⟨b, vs, h2, h3, fun o => ?_⟩
          have g2 : Gd X.K c1 c1 (m1.set .gone i) H1 (upd H1 b (.frz o (.lst vs))) := g.rel.freeze h1 q2 h3
          rw [h2]
          exact w _ _ _ (g.trans g2) (mkLst_ok (VDs.mono g2.ext (forI_le _ _) _ h4) (.inl ⟨o, upd_same⟩))
    | p d => exact .inl (w c1 v H1 g hv)
    | tup d => exact .inl (w c1 v H1 g hv)
    | lst d => exact .inl (w c1 v H1 g hv)
    | ty d => exact .inl (w c1 v H1 g hv)
end
/-! ### statements -/
inductive SRes where
  | nx (ρ : Rho) (m : Store)
  | rt (d : Dn.D) (m : Store)
  | bk (ρ : Rho) (m : Store)
  | ct (ρ : Rho) (m : Store)
  | exc (x : Exn) (ρ : Rho) (m : Store)
  | stuck
abbrev FS := Rho → Store → SRes
def Res.bindS {α : Type} (r : Res α) (ρ : Rho) (k : α → Store → SRes) : SRes := match r with
  | .ok a m => k a m
  | .exc x m => .exc x ρ m
  | .stuck => .stuck
def WantS (X : Cx) (W : WX) (c : Anc) (H : Hp) (r : SRes) (En : Ends) : Prop := match r with
  | .nx ρ' m' => ∀ c' σ' H', Gd X.K c c' m' H H' → Slo X.K H' c' ρ' σ' → En.nx σ' H'
  | .rt d m' => ∀ c' v H', Gd X.K c c' m' H H' → VD X.K H' c' v d → En.rt v H'
  | .bk ρ' m' => ∀ c' σ' H', Gd X.K c c' m' H H' → Slo X.K H' c' ρ' σ' → En.bk σ' H'
  | .ct ρ' m' => ∀ c' σ' H', Gd X.K c c' m' H H' → Slo X.K H' c' ρ' σ' → En.ct σ' H'
  | .exc x ρ' m' => ∀ c' σ' cls dd H', Gd X.K c c' m' H H' → Slo X.K H' c' ρ' σ' → ExcV X.mg X.K H' c' x cls dd → W cls dd σ' H'
  | .stuck => False
def DS (X : Cx) (W : WX) (st : Stmt) (g : FS) : Prop := ∀ (c : Anc) (ρ : Rho) (m : Store) (σ : St) (H : Hp) (En : Ends), RelS X.K c m H → Slo X.K H c ρ σ → WantS X W c H (g ρ m) En → WSt X st En σ H
def DSs (X : Cx) (W : WX) (st : List Stmt) (g : FS) : Prop := ∀ (c : Anc) (ρ : Rho) (m : Store) (σ : St) (H : Hp) (En : Ends), RelS X.K c m H → Slo X.K H c ρ σ → WantS X W c H (g ρ m) En → WSs X st En σ H
section
variable {X : Cx} {W : WX} {a b e : Expr} {es : List Expr} {fa fb f : FE} {pos : Pos} {c c' : Anc} {ρ : Rho} {m m' : Store} {σ : St} {H H' : Hp} {En : Ends} {st : Stmt} {sts els : List Stmt} {g gs ge : FS}
theorem WantS.shift {r : SRes} (gd : Gd X.K c c' m' H H') (h : WantS X W c H r En) : WantS X W c' H' r En := by
  cases r with
  | nx ρ m1 => exact fun c1 v H1 g1 hv => h c1 v H1 (gd.trans g1) hv
  | rt d m1 => exact fun c1 v H1 g1 hv => h c1 v H1 (gd.trans g1) hv
  | bk ρ m1 => exact fun c1 v H1 g1 hv => h c1 v H1 (gd.trans g1) hv
  | ct ρ m1 => exact fun c1 v H1 g1 hv => h c1 v H1 (gd.trans g1) hv
  | exc x ρ m1 => exact fun c1 σ1 cls dd H1 g1 hs hv => h c1 σ1 cls dd H1 (gd.trans g1) hs hv
  | stuck => exact h
theorem DE.thenS {k : Dn.D → Store → SRes} {Q : VK} (h : DE X W a fa) (r : RelS X.K c m H) (s : Slo X.K H c ρ σ) (hb : WantS X W c H ((fa ρ m).bindS ρ k) En)
    (q : ∀ d m1 c1 v H1, RelS X.K c1 m1 H1 → Slo X.K H1 c1 ρ σ → Gd X.K c c1 m1 H H1 → VD X.K H1 c1 v d → WantS X W c1 H1 (k d m1) En → Q v H1) : WE X a σ H Q := by
  refine h c ρ m σ H Q r s ?_
  cases e : fa ρ m with
  | ok d m1 =>
    rw [e] at hb
    exact fun c1 v H1 g hv => q d m1 c1 v H1 g.rel (g.slots s) g hv (WantS.shift g hb)
  | exc x m1 =>
    rw [e] at hb
    exact fun c1 cls dd H1 g hv => hb c1 σ cls dd H1 g (g.slots s) hv
  | stuck => rw [e] at hb; exact hb
theorem DA.thenS {fl : Rho → Store → Res (List Dn.D)} {k : List Dn.D → Store → SRes} {Q : List V → Hp → Prop} (h : DA X W es fl) (r : RelS X.K c m H) (s : Slo X.K H c ρ σ) (hb : WantS X W c H ((fl ρ m).bindS ρ k) En)
    (q : ∀ d m1 c1 v H1, RelS X.K c1 m1 H1 → Slo X.K H1 c1 ρ σ → Gd X.K c c1 m1 H H1 → VDs X.K H1 c1 v d → WantS X W c1 H1 (k d m1) En → Q v H1) : WA X es σ H Q := by
  refine h c ρ m σ H Q r s ?_
  cases e : fl ρ m with
  | ok d m1 =>
    rw [e] at hb
    exact fun c1 v H1 g hv => q d m1 c1 v H1 g.rel (g.slots s) g hv (WantS.shift g hb)
  | exc x m1 =>
    rw [e] at hb
    exact fun c1 cls dd H1 g hv => hb c1 σ cls dd H1 g (g.slots s) hv
  | stuck => rw [e] at hb; exact hb
theorem DT.thenS {ft : Rho → Store → Res Bool} {k : Bool → Store → SRes} {Q : Bool → Hp → Prop} (h : DT X W a ft) (r : RelS X.K c m H) (s : Slo X.K H c ρ σ) (hb : WantS X W c H ((ft ρ m).bindS ρ k) En)
    (q : ∀ d m1 c1 H1, RelS X.K c1 m1 H1 → Slo X.K H1 c1 ρ σ → Gd X.K c c1 m1 H H1 → WantS X W c1 H1 (k d m1) En → Q d H1) : WT X a σ H Q := by
  refine h c ρ m σ H Q r s ?_
  cases e : ft ρ m with
  | ok d m1 =>
    rw [e] at hb
    exact fun c1 H1 g => q d m1 c1 H1 g.rel (g.slots s) g (WantS.shift g hb)
  | exc x m1 =>
    rw [e] at hb
    exact fun c1 cls dd H1 g hv => hb c1 σ cls dd H1 g (g.slots s) hv
  | stuck => rw [e] at hb; exact hb
theorem WantS.now {En : Ends} (r : RelS X.K c m H) (s : Slo X.K H c ρ σ) (h : WantS X W c H (.nx ρ m) En) : En.nx σ H := h c σ H (Gd.refl r) s
def nilS : FS := fun ρ m => .nx ρ m
def SRes.seq (r : SRes) (k : FS) : SRes := match r with
  | .nx ρ m => k ρ m
  | r => r
def seqS (g h : FS) : FS := fun ρ m => (g ρ m).seq h
theorem dss_nil : DSs X W [] nilS := fun c ρ m σ H En r s w => wss_of pss_nil (w.now r s)
theorem dss_cons (h1 : DS X W st g) (h2 : DSs X W sts gs) : DSs X W (st :: sts) (seqS g gs) := fun c ρ m σ H En r s w => by
  refine wss_of (pss_cons ps_w pss_w) (h1 c ρ m σ H _ r s ?_)
  unfold seqS at w
  cases e : g ρ m with
  | nx ρ1 m1 => rw [e] at w; exact fun c1 σ1 H1 g1 s1 => h2 c1 ρ1 m1 σ1 H1 En g1.rel s1 (WantS.shift g1 w)
  | rt d m1 => rw [e] at w; exact w
  | bk d m1 => rw [e] at w; exact w
  | ct d m1 => rw [e] at w; exact w
  | exc x d m1 => rw [e] at w; exact w
  | stuck => rw [e] at w; exact w
theorem dss_one (h1 : DS X W st g) : DSs X W [st] g := fun c ρ m σ H En r s w => wss_of (pss_one ps_w) (h1 c ρ m σ H En r s w)
theorem ds_pass : DS X W (.Pass pos) nilS := fun c ρ m σ H En r s w => wst_of ps_pass (w.now r s)
def bkS : FS := fun ρ m => .bk ρ m
def ctS : FS := fun ρ m => .ct ρ m
theorem ds_break : DS X W (.Break pos) bkS := fun c ρ m σ H En r s w => wst_of ps_break (w c σ H (Gd.refl r) s)
theorem ds_continue : DS X W (.Continue pos) ctS := fun c ρ m σ H En r s w => wst_of ps_continue (w c σ H (Gd.refl r) s)
def exprS (f : FE) : FS := fun ρ m => (f ρ m).bindS ρ fun _ m1 => .nx ρ m1
theorem ds_expr (h : DE X W e f) (hs : swapsWith e none pos.line X.env = pure false := by rfl) : DS X W (.Expr e pos) (exprS f) := fun c ρ m σ H En r s w =>
  wst_of (ps_expr pe_w hs) (h.thenS r s w fun d m1 c1 v H1 r1 s1 g1 h1 w1 => w1.now r1 s1)
def retS (f : FE) : FS := fun ρ m => (f ρ m).bindS ρ fun d m1 => .rt d m1
theorem ds_ret (h : DE X W e f) : DS X W (.Return (some e) pos) (retS f) := fun c ρ m σ H En r s w =>
  wst_of (ps_ret pe_w) (h.thenS r s w fun d m1 c1 v H1 r1 s1 g1 h1 w1 => w1 c1 v H1 (Gd.refl r1) h1)
def retN : FS := fun ρ m => .rt (.p .none) m
theorem ds_retN : DS X W (.Return none pos) retN := fun c ρ m σ H En r s w => wst_of ps_retN (w c .non H (Gd.refl r) (VD.non.mpr rfl))
def ifS (t : Rho → Store → Res Bool) (g h : FS) : FS := fun ρ m => (t ρ m).bindS ρ fun b m1 => if b then g ρ m1 else h ρ m1
theorem ds_if {ft : Rho → Store → Res Bool} (h : DT X W e ft) (h1 : DSs X W sts gs) (h2 : DSs X W els ge) : DS X W (.If e sts els pos) (ifS ft gs ge) := fun c ρ m σ H En r s w =>
  wst_of (ps_if pt_w pss_w pss_w) (h.thenS r s w fun k m1 c1 H1 r1 s1 g1 w1 => by
    cases k with
    | true => rw [if_pos rfl]; exact h1 c1 ρ m1 σ H1 En r1 s1 w1
    | false => rw [if_neg Bool.false_ne_true]; exact h2 c1 ρ m1 σ H1 En r1 s1 w1)
def setS (i : Nat) (f : FE) : FS := fun ρ m => (f ρ m).bindS ρ fun d m1 => .nx (ρ.set i (some d)) m1
theorem ds_set (i : Nat) {x : Str} {pos' : Pos} (hN : X.N.Nodup) (he : DE X W e f) (hi : X.N[i]? = some x := by rfl) (hx : Loc X.env.scope x := by first | exact Or.inl rfl | exact Or.inr rfl) (hs : swapsWith e (some (.Name x pos')) pos.line X.env = pure false := by rfl)
    (hf : X.fn x = true ∨ X.env.scope.names.lookup x = some .local := by first | exact .inl rfl | exact .inr rfl | assumption) : DS X W (.Assign [.Name x pos'] e pos) (setS i f) := fun c ρ m σ H En r s w =>
  wst_of (ps_set hN hi hx pe_w hs hf) (he.thenS r s w fun d m1 c1 v H1 r1 s1 g1 h1 w1 => w1 c1 _ H1 (Gd.refl r1) (s1.set i h1))
def parS (i j : Nat) (fl : Rho → Store → Res (List Dn.D)) : FS := fun ρ m => (fl ρ m).bindS ρ fun ds m1 => match ds with
  | [d, d'] => .nx ((ρ.set i (some d)).set j (some d')) m1
  | _ => .stuck
theorem VDs.two {K : PySem.W.Frag} {vs : List V} {d d' : Dn.D} (h : VDs K H c vs [d, d']) : ∃ v v', vs = [v, v'] ∧ VD K H c v d ∧ VD K H c v' d' := by
  unfold VDs at h
  obtain ⟨v, r, h1, h2, h3⟩ := h
  unfold VDs at h3
  obtain ⟨v', r', h4, h5, h6⟩ := h3
  unfold VDs at h6
  subst h6 h4 h1
  exact ⟨v, v', rfl, h2, h5⟩
theorem VDs.onlyOne {K : PySem.W.Frag} {vs : List V} {d : Dn.D} (h : VDs K H c vs [d]) : ∃ v, vs = [v] ∧ VD K H c v d := by
  unfold VDs at h
  obtain ⟨v, r, h1, h2, h3⟩ := h
  unfold VDs at h3
  subst h3 h1
  exact ⟨v, rfl, h2⟩
theorem ds_par (i j : Nat) {x y : Str} {fl : Rho → Store → Res (List Dn.D)} {px py pt : Pos} {kt k2 pt2} (hN : X.N.Nodup) (ha : DA X W [a, b] fl) (hw : swappedStores [.Tuple [.Name x px, .Name y py] kt pt] (.Tuple [a, b] k2 pt2) X.env = pure (some [x, y]) := by rfl)
    (hc : X.calm = true := by rfl) (hi : X.N[i]? = some x := by rfl) (hj : X.N[j]? = some y := by rfl) (hij : i ≠ j := by decide)
    (hx : X.env.scope.names.lookup x = some .local := by rfl) (hy : X.env.scope.names.lookup y = some .local := by rfl)
    (hs : swapsWithSole [.Tuple [.Name x px, .Name y py] kt pt] (.Tuple [a, b] k2 pt2) pos.line X.env = pure false := by rfl) :
    DS X W (.Assign [.Tuple [.Name x px, .Name y py] kt pt] (.Tuple [a, b] k2 pt2) pos) (parS i j fl) := fun c ρ m σ H En r s w =>
  wst_of (ps_par hc hN hi hj hij hx hy pa_w hw hs) (ha.thenS r s w fun ds m1 c1 vs H1 r1 s1 g1 h1 w1 => by
    split at w1
    · obtain ⟨v, v', h2, h3, h4⟩ := VDs.two h1
      exact ⟨v, v', h2, w1 c1 _ H1 (Gd.refl r1) ((s1.set i h3).set j h4)⟩
    · exact w1.elim)
def par3S (i j l : Nat) (fl : Rho → Store → Res (List Dn.D)) : FS := fun ρ m => (fl ρ m).bindS ρ fun ds m1 => match ds with
  | [d, d', d''] => .nx (((ρ.set i (some d)).set j (some d')).set l (some d'')) m1
  | _ => .stuck
theorem ds_par3 (i j l : Nat) {x y z : Str} {e3 : Expr} {fl : Rho → Store → Res (List Dn.D)} {px py pz pt : Pos} {kt k2 pt2} (hN : X.N.Nodup) (ha : DA X W [a, b, e3] fl) (hw : swappedStores [.Tuple [.Name x px, .Name y py, .Name z pz] kt pt] (.Tuple [a, b, e3] k2 pt2) X.env = pure (some [x, y, z]) := by rfl)
    (hc : X.calm = true := by rfl) (hi : X.N[i]? = some x := by rfl) (hj : X.N[j]? = some y := by rfl) (hl : X.N[l]? = some z := by rfl) (hij : i ≠ j := by decide) (hil : i ≠ l := by decide) (hjl : j ≠ l := by decide)
    (hx : X.env.scope.names.lookup x = some .local := by rfl) (hy : X.env.scope.names.lookup y = some .local := by rfl) (hz : X.env.scope.names.lookup z = some .local := by rfl)
    (hs : swapsWithSole [.Tuple [.Name x px, .Name y py, .Name z pz] kt pt] (.Tuple [a, b, e3] k2 pt2) pos.line X.env = pure false := by rfl) :
    DS X W (.Assign [.Tuple [.Name x px, .Name y py, .Name z pz] kt pt] (.Tuple [a, b, e3] k2 pt2) pos) (par3S i j l fl) := fun c ρ m σ H En r s w =>
  wst_of (ps_par3 hc hN hi hj hl hij hil hjl hx hy hz pa_w hw hs) (ha.thenS r s w fun ds m1 c1 vs H1 r1 s1 g1 h1 w1 => by
    split at w1
    · unfold VDs at h1
      obtain ⟨v, r0, e1, h2, h3⟩ := h1
      obtain ⟨v', v'', e2, h4, h5⟩ := VDs.two h3
      subst e1 e2
      exact ⟨v, v', v'', rfl, w1 c1 _ H1 (Gd.refl r1) (((s1.set i h2).set j h4).set l h5)⟩
    · exact w1.elim)
/-! ### targets -/
def WG (X : Cx) (tg : Expr) (v : V) (σ : St) (H : Hp) (R : St → Hp → Prop) : Prop := ∀ (pins : List (Addr × Obj)) (s : Shared) (u : Value), Inv X pins σ H s → RelV v u → wpAny (model X.prog X.w) X.A (assign tg X.env u) (fun _ s' => ∃ σ' H', Inv X pins σ' H' s' ∧ R σ' H') X.xe s
theorem pg_w {tg : Expr} : PG X tg (WG X tg) := ⟨fun pins s σ H v u Q I r h => h pins s u I r⟩
theorem wg_of {tg : Expr} {t : TG} {v : V} {R : St → Hp → Prop} (h : PG X tg t) (q : t v σ H R) : WG X tg v σ H R := fun pins s u I r => h.run pins s σ H v u R I r q
abbrev FG := Dn.D → Rho → Store → SRes
def endN (R : St → Hp → Prop) : Ends := { nx := R, rt := fun _ _ => False }
def DG (X : Cx) (W : WX) (tg : Expr) (ga : FG) : Prop := ∀ (c : Anc) (ρ : Rho) (m : Store) (σ : St) (H : Hp) (v : V) (d : Dn.D) (En : Ends), RelS X.K c m H → Slo X.K H c ρ σ → VD X.K H c v d → WantS X W c H (ga d ρ m) En → WG X tg v σ H En.nx
def nameG (i : Nat) : FG := fun d ρ m => .nx (ρ.set i (some d)) m
theorem dg_name (i : Nat) {x : Str} (hN : X.N.Nodup) (hi : X.N[i]? = some x := by rfl) (hx : Loc X.env.scope x := by first | exact Or.inl rfl | exact Or.inr rfl) (hf : X.fn x = true ∨ X.env.scope.names.lookup x = some .local := by first | exact .inl rfl | exact .inr rfl | assumption) : DG X W (.Name x pos) (nameG i) :=
  fun c ρ m σ H v d En r s hv w => wg_of (pg_name hN hi hx hf) (w c _ H (Gd.refl r) (s.set i hv))
/-- several names -/
def WGs (X : Cx) (ts : List Expr) (vs : List V) (σ : St) (H : Hp) (R : St → Hp → Prop) : Prop := ∀ (pins : List (Addr × Obj)) (s : Shared) (us : List Value), Inv X pins σ H s → Vals vs us → wpAny (model X.prog X.w) X.A (assignInOrder ((assignEach ts X.env).map (·.2)) us) (fun _ s' => ∃ σ' H', Inv X pins σ' H' s' ∧ R σ' H') X.xe s
theorem pgs_w {ts : List Expr} : PGs X ts (WGs X ts) := ⟨fun pins s σ H v u Q I r h => h pins s u I r⟩
theorem wgs_of {ts : List Expr} {t : TGs} {v : List V} {R : St → Hp → Prop} (h : PGs X ts t) (q : t v σ H R) : WGs X ts v σ H R := fun pins s u I r => h.run pins s σ H v u R I r q
abbrev FGs := List Dn.D → Rho → Store → SRes
def DGs (X : Cx) (W : WX) (ts : List Expr) (ga : FGs) : Prop := ∀ (c : Anc) (ρ : Rho) (m : Store) (σ : St) (H : Hp) (v : List V) (d : List Dn.D) (En : Ends), RelS X.K c m H → Slo X.K H c ρ σ → VDs X.K H c v d → WantS X W c H (ga d ρ m) En → WGs X ts v σ H En.nx
def nilG : FGs := fun ds ρ m => match ds with
  | [] => .nx ρ m
  | _ => .stuck
def consG (g : FG) (h : FGs) : FGs := fun ds ρ m => match ds with
  | d :: r => (g d ρ m).seq (h r)
  | _ => .stuck
theorem dgs_nil : DGs X W [] nilG := fun c ρ m σ H v d En r s hv w => by
  cases d with
  | nil => unfold VDs at hv; subst hv; exact wgs_of pgs_nil ⟨rfl, w.now r s⟩
  | cons => exact w.elim
theorem dgs_cons {ts : List Expr} {g : FG} {h : FGs} (h1 : DG X W e g) (h2 : DGs X W ts h) (hs : (assignEach (e :: ts) X.env).map (·.2) = assign e X.env :: (assignEach ts X.env).map (·.2) := by rfl) : DGs X W (e :: ts) (consG g h) := fun c ρ m σ H v d En r s hv w => by
  cases d with
  | nil => exact w.elim
  | cons d ds =>
    unfold VDs at hv
    obtain ⟨v1, vr, e1, hv1, hvr⟩ := hv
    subst e1
    refine wgs_of (pgs_cons pg_w pgs_w hs) ⟨v1, vr, rfl, ?_⟩
    refine h1 c ρ m σ H v1 d { nx := fun σ' H' => WGs X ts vr σ' H' En.nx, rt := En.rt, bk := En.bk, ct := En.ct } r s hv1 ?_
    change WantS X W c H ((g d ρ m).seq (h ds)) En at w
    cases q : g d ρ m with
    | nx ρ1 m1 => rw [q] at w; exact fun c1 σ1 H1 g1 s1 => h2 c1 ρ1 m1 σ1 H1 vr ds En g1.rel s1 (g1.vds hvr) (WantS.shift g1 w)
    | rt x m1 => rw [q] at w; exact w
    | bk x m1 => rw [q] at w; exact w
    | ct x m1 => rw [q] at w; exact w
    | exc y x m1 => rw [q] at w; exact w
    | stuck => rw [q] at w; exact w
def tupG (n : Nat) (h : FGs) : FG := fun d ρ m => match tupOf d with
  | some ds => if ds.length = n then h ds ρ m else .stuck
  | none => .stuck
theorem dg_tup {ts : List Expr} {k n : Nat} {h : FGs} (h1 : DGs X W ts h) (hc : X.calm = true := by rfl) (hn : (assignEach ts X.env).length = n := by rfl) (hst : (assignEach ts X.env).findIdx? (·.1) = none := by rfl) : DG X W (.Tuple ts k pos) (tupG n h) := fun c ρ m σ H v d En r s hv w => by
  unfold tupG at w
  cases q : tupOf d with
  | none => rw [q] at w; exact w.elim
  | some ds =>
    rw [q] at w
    obtain ⟨a, vs, e1, h2, h3⟩ := tupOf_ok hv q
    change WantS X W c H (if ds.length = n then h ds ρ m else .stuck) En at w
    by_cases hl : ds.length = n
    · rw [if_pos hl] at w
      exact wg_of (pg_tup hc pgs_w hn hst) ⟨a, vs, e1, h2, by rw [h3.length]; exact hl, h1 c ρ m σ H vs ds En r s h3 w⟩
    · rw [if_neg hl] at w; exact w.elim
def asgS (f : FE) (g : FG) : FS := fun ρ m => (f ρ m).bindS ρ fun d m1 => g d ρ m1
theorem ds_asg {tg : Expr} {g : FG} (he : DE X W e f) (hg : DG X W tg g) (hs : swapsWithSole [tg] e pos.line X.env = pure false := by rfl) (hw : swappedStores [tg] e X.env = pure none := by rfl) (h1 : (assignEach [tg] X.env).map (·.2) = [assign tg X.env] := by rfl) : DS X W (.Assign [tg] e pos) (asgS f g) := fun c ρ m σ H En r s w =>
  wst_of (ps_asg pe_w pg_w hs hw h1) (he.thenS r s w fun d m1 c1 v H1 r1 s1 g1 h1 w1 => hg c1 ρ m1 σ H1 v d En r1 s1 h1 w1)
/-- o[i] = .., a list -/
def okIn (d : Dn.D) : Ix → Bool
  | .g _ => Dn.nl d
  | .l _ => true
def setItemD (o i d : Dn.D) (m : Store) : Option Store := match o, i with
  | .cell x, .p (.int k) => match m.at_ x with
    | some (.lst xs) => match ixN xs.length k with
      | some j => if okIn d x then some (m.set (.lst (xs.set j d)) x) else none
      | none => none
    | _ => none
  | _, _ => none
theorem VD.forI {K : PySem.W.Frag} {v : V} {d : Dn.D} {x : Ix} (h : VD K H c v d) (hn : okIn d x = true) : VD K H (forI c x) v d := by
  cases x with
  | g i => exact VD.nl d h hn
  | l i => exact h
theorem setItemD_ok {vo vi v : V} {o i d : Dn.D} {m2 : Store} {R : Hp → Prop} (r : RelS X.K c m H) (ho : VD X.K H c vo o) (hi : VD X.K H c vi i) (hd : VD X.K H c v d) (e : setItemD o i d m = some m2) (q : ∀ H', Gd X.K c c m2 H H' → R H') : rSetL vo vi v H R := by
  unfold setItemD at e
  split at e
  · rename_i x k
    split at e
    · rename_i xs hm
      split at e
      · rename_i j hj
        split at e
        · rename_i hn
          cases e
          unfold VD at ho
          obtain ⟨a, h1, h2⟩ := ho
          obtain ⟨vs, h3, h4⟩ := r.at_ x a _ h1 hm
          refine ⟨a, vs, k, j, h2, VD.int.mp hi, h3, by rw [h4.length]; exact hj, ?_⟩
          exact q _ (r.put h1 hm h3 (h4.set (VD.forI hd hn) j))
        · cases e
      · cases e
    · cases e
  · cases e
def subG (fo fi : FE) : FG := fun d ρ m => (fo ρ m).bindS ρ fun o m1 => (fi ρ m1).bindS ρ fun i m2 => match setItemD o i d m2 with
  | some m3 => .nx ρ m3
  | none => .stuck
theorem dg_sub {o i : Expr} {fo fi : FE} (ho : DE X W o fo) (hi : DE X W i fi)
    (ha : ∀ v, assign (.Subscript o i pos) X.env v = (do
      let ov ← holding [v] (eval o X.env)
      let iv ← holding [v, ov] (eval i X.env)
      standAt pos
      holding [v, ov, iv] (setItem ov iv v)
      release [v, ov, iv] []) := by intro _; rfl) : DG X W (.Subscript o i pos) (subG fo fi) := fun c ρ m σ H v d En r s hv w =>
  wg_of (pg_sub pe_w pe_w set_list ha) (ho.thenS r s w fun x m1 c1 vx H1 r1 s1 g1 h1 w1 => hi.thenS r1 s1 w1 fun y m2 c2 vy H2 r2 s2 g2 h2 w2 => by
    split at w2
    · rename_i m3 e
      exact setItemD_ok r2 (g2.vd h1) h2 (g2.vd (g1.vd hv)) e fun H' g3 => w2 c2 σ H' g3 (g3.slots s2)
    · exact w2.elim)
end
end L2.Dn
namespace L2.Dn
open PySem PySem.Spec PyProof.Rows L2
/-! ### what is walked -/
def ItD (K : PySem.W.Frag) (c : Anc) (H : Hp) (J : It) (ds : List D) : Prop := ∀ (c' : Anc) (m' : Store) (H' : Hp), Pre c c' → Ext H H' → RelS K c' m' H' → ∀ i : Nat,
  (∀ d, ds[i]? = some d → J.go i H' ∧ ∀ x H'', J.yld i H' x H'' → Gd K c' c' m' H' H'' ∧ (∀ b o, H' b = some o → H'' b = some o) ∧ VD K H'' c' x d) ∧ (ds.length ≤ i → J.stop i H')
def WI (X : Cx) (tg iter : Expr) (σ : St) (H : Hp) (R : It → Hp → Prop) : Prop := ∀ (pins : List (Addr × Obj)) (s : Shared), Inv X pins σ H s → wpAny (model X.prog X.w) X.A (eval iter X.env) (fun v s1 => wpAny (model X.prog X.w) X.A (pyIter v) (PIE X pins σ tg R) X.xe s1) X.xe s
def WantI (X : Cx) (W : WX) (c : Anc) (H : Hp) (σ : St) (r : Res (List D)) (R : It → Hp → Prop) : Prop := match r with
  | .ok ds m' => ∀ c' J H', Gd X.K c c' m' H H' → ItD X.K c' H' J ds → R J H'
  | .exc x m' => ∀ c' cls dd H', Gd X.K c c' m' H H' → ExcV X.mg X.K H' c' x cls dd → W cls dd σ H'
  | .stuck => False
abbrev FI := Rho → Store → Res (List D)
def DI (X : Cx) (W : WX) (tg iter : Expr) (fi : FI) : Prop := ∀ (c : Anc) (ρ : Rho) (m : Store) (σ : St) (H : Hp) (R : It → Hp → Prop), RelS X.K c m H → Slo X.K H c ρ σ → WantI X W c H σ (fi ρ m) R → WI X tg iter σ H R
section
variable {X : Cx} {W : WX} {a b e tg iter : Expr} {es : List Expr} {fa fb f : FE} {pos p : Pos} {c c' : Anc} {ρ : Rho} {m m' : Store} {σ : St} {H H' : Hp}
theorem pi_w : PI X tg iter (WI X tg iter) := ⟨fun pins s σ H R I h => h pins s I⟩
theorem wi_of {t : TI} {R : It → Hp → Prop} (h : PI X tg iter t) (q : t σ H R) : WI X tg iter σ H R := fun pins s I => h.run pins s σ H R I q
theorem VDs.at_ {K : PySem.W.Frag} {vs : List V} {ds : List D} {i : Nat} {d : D} {v : V} (h : VDs K H c vs ds) (e : ds[i]? = some d) (e2 : vs[i]? = some v) : VD K H c v d := by
  obtain ⟨v', h1, h2⟩ := h.get e
  rw [e2] at h1
  cases h1
  exact h2
theorem itd_list {K : PySem.W.Frag} {a : Addr} {vs : List V} {ds : List D} (hf : FzL K H a vs) (hv : VDs K H c vs ds) : ItD K c H (Itl K a) ds := fun c' m' H' p ex r i => by
  have f := hf.ext ex
  have hv' := VDs.mono ex p _ hv
  refine ⟨fun d e => ?_, fun hl => ⟨vs, f.sq, by rw [hv.length]; exact hl⟩⟩
  obtain ⟨v, h1, h2⟩ := hv'.get e
  refine ⟨⟨vs, v, f.sq, h1⟩, fun x H'' y => ?_⟩
  obtain ⟨e1, y⟩ := y
  subst e1
  exact ⟨Gd.refl r, fun _ _ e => e, hv'.at_ e (y vs f.sq)⟩
theorem itd_tup {K : PySem.W.Frag} {a : Addr} {vs : List V} {ds : List D} (hf : SqT K H a vs) (hv : VDs K H c vs ds) : ItD K c H (Itt K a) ds := fun c' m' H' p ex r i => by
  have f := SqT.ext hf ex
  have hv' := VDs.mono ex p _ hv
  refine ⟨fun d e => ?_, fun hl => ⟨vs, f, by rw [hv.length]; exact hl⟩⟩
  obtain ⟨v, h1, h2⟩ := hv'.get e
  refine ⟨⟨vs, v, f, h1⟩, fun x H'' y => ?_⟩
  obtain ⟨e1, y⟩ := y
  subst e1
  exact ⟨Gd.refl r, fun _ _ e => e, hv'.at_ e (y vs f)⟩
def signs (x : Str) : List D := x.cps.toList.map fun n => .p (.str ⟨#[n]⟩)
theorem itd_str {K : PySem.W.Frag} {x : Str} : ItD K c H (Its x) (signs x) := fun c' m' H' p ex r i => by
  refine ⟨fun d e => ?_, fun hl => by show x.cps.size ≤ i; simpa [signs] using hl⟩
  simp only [signs, List.getElem?_map, Option.map_eq_some_iff, Array.getElem?_toList] at e
  obtain ⟨n, h1, h2⟩ := e
  refine ⟨(Array.getElem?_eq_some_iff.mp h1).1, fun v H'' y => ?_⟩
  obtain ⟨e1, n', h3, h4⟩ := y
  rw [h1] at h3
  cases h3
  subst e1 h4 h2
  exact ⟨Gd.refl r, fun _ _ e => e, VD.str.mpr rfl⟩
def rngL (lo : Int) (n : Nat) : List D := (List.range n).map fun (k : Nat) => .p (.int (lo + (k : Int)))
theorem itd_range {K : PySem.W.Frag} {lo : Int} {n : Nat} : ItD K c H (Itr lo n) (rngL lo n) := fun c' m' H' p ex r i => by
  refine ⟨fun d e => ?_, fun hl => by show n ≤ i; simpa [rngL] using hl⟩
  simp only [rngL, List.getElem?_map, Option.map_eq_some_iff] at e
  obtain ⟨k, h1, h2⟩ := e
  have hk := List.getElem?_eq_some_iff.mp h1
  obtain ⟨hk, e1⟩ := hk
  simp at e1 hk
  subst e1
  refine ⟨hk, fun v H'' y => ?_⟩
  obtain ⟨e1, e2⟩ := y
  subst e1 e2 h2
  exact ⟨Gd.refl r, fun _ _ e => e, VD.int.mpr rfl⟩
/-- the items of a frozen list, a tuple, a text -/
def itemsZ : D → Option (List D)
  | .p (.list ds) => some (ds.map D.p)
  | .lst ds => some ds
  | .p (.tuple ds) => some (ds.map D.p)
  | .tup ds => some ds
  | .p (.str x) => some (signs x)
  | _ => none
def walkI (f : FE) : FI := fun ρ m => (f ρ m).bind fun d m1 => match itemsZ d with
  | some ds => .ok ds m1
  | none => .stuck
/-- a sequence as it is: which rule serves hangs on the datum -/
theorem di_val (h : DE X W e f) : DI X W tg e (walkI f) := fun c ρ m σ H R r s w => by
  unfold walkI at w
  cases q : f ρ m with
  | stuck => rw [q] at w; exact w.elim
  | exc x m1 =>
    rw [q] at w
    exact wi_of (pi_list pe_w) (h c ρ m σ H _ r s (by rw [q]; exact w))
  | ok d m1 =>
    rw [q] at w
    have go : ∀ {Q : VK}, (∀ c1 v H1, Gd X.K c c1 m1 H H1 → VD X.K H1 c1 v d → Q v H1) → WE X e σ H Q := fun {Q} k => h c ρ m σ H Q r s (by rw [q]; exact k)
    cases d with
    | p d =>
      cases d with
      | list ds =>
        refine wi_of (pi_list pe_w) (go fun c1 v H1 g hv => ?_)
        unfold VD at hv
        cases hv with
        | @lst a xs _ hf hq => exact ⟨a, rfl, ⟨xs, hf.sq⟩, w c1 _ H1 g (itd_list hf (VDs.ofp hq))⟩
      | tuple ds =>
        refine wi_of (pi_tup pe_w) (go fun c1 v H1 g hv => ?_)
        unfold VD at hv
        cases hv with
        | @tup a xs _ hf hq => exact ⟨a, rfl, ⟨xs, hf⟩, w c1 _ H1 g (itd_tup hf (VDs.ofp hq))⟩
      | str x => exact wi_of (pi_str pe_w) (go fun c1 v H1 g hv => ⟨x, VD.str.mp hv, w c1 _ H1 g itd_str⟩)
      | none => exact w.elim
      | bool b => exact w.elim
      | int b => exact w.elim
      | dict b => exact w.elim
    | lst ds =>
      refine wi_of (pi_list pe_w) (go fun c1 v H1 g hv => ?_)
      unfold VD at hv
      obtain ⟨a, xs, e1, hf, hq⟩ := hv
      exact ⟨a, e1, ⟨xs, hf.sq⟩, w c1 _ H1 g (itd_list hf hq)⟩
    | tup ds =>
      refine wi_of (pi_tup pe_w) (go fun c1 v H1 g hv => ?_)
      unfold VD at hv
      obtain ⟨a, xs, e1, hf, hq⟩ := hv
      exact ⟨a, e1, ⟨xs, hf⟩, w c1 _ H1 g (itd_tup hf hq)⟩
    | cell i => exact w.elim
    | ty i => exact w.elim
theorem DA.thenI {fl : Rho → Store → Res (List D)} {k : List D → Store → Res (List D)} {Q : List V → Hp → Prop} {R : It → Hp → Prop} (h : DA X W es fl) (r : RelS X.K c m H) (s : Slo X.K H c ρ σ) (hb : WantI X W c H σ ((fl ρ m).bind k) R)
    (q : ∀ d m1 c1 v H1, RelS X.K c1 m1 H1 → Slo X.K H1 c1 ρ σ → Gd X.K c c1 m1 H H1 → VDs X.K H1 c1 v d → WantI X W c H σ (k d m1) R → Q v H1) : WA X es σ H Q := by
  refine h c ρ m σ H Q r s ?_
  cases e : fl ρ m with
  | ok d m1 =>
    rw [e] at hb
    exact fun c1 v H1 g hv => q d m1 c1 v H1 g.rel (g.slots s) g hv hb
  | exc x m1 => rw [e] at hb; exact hb
  | stuck => rw [e] at hb; exact hb
def rng1I (fl : FI) : FI := fun ρ m => (fl ρ m).bind fun ds m1 => match ds with
  | [.p (.int j)] => if -(2 ^ 62) ≤ j ∧ j < 2 ^ 62 then .ok (rngL 0 j.toNat) m1 else .stuck
  | _ => .stuck
theorem di_range1 {fl : FI} (hg : Gl X "range") (hm : X.mg "range" = none) (ha : DA X W [a] fl) (hs : starEach [a] X.env = [(false, eval a X.env)] := by rfl) : DI X W tg (.Call (.Name "range" p) [a] [] pos) (rng1I fl) := fun c ρ m σ H R r s w =>
  wi_of (pi_range1 hg hm pa_w hs) (ha.thenI r s w fun ds m1 c1 vs H1 r1 s1 g1 h1 w1 => by
    split at w1
    · rename_i j
      obtain ⟨v, e1, h2⟩ := VDs.onlyOne h1
      subst e1
      cases VD.int.mp h2
      split at w1
      · rename_i hj
        exact ⟨j, rfl, hj.1, hj.2, w1 c1 _ H1 g1 itd_range⟩
      · exact w1.elim
    · exact w1.elim)
def rng2I (fl : FI) : FI := fun ρ m => (fl ρ m).bind fun ds m1 => match ds with
  | [.p (.int i), .p (.int j)] => if (-(2 ^ 62) ≤ i ∧ i < 2 ^ 62) ∧ -(2 ^ 62) ≤ j ∧ j < 2 ^ 62 then .ok (rngL i (j - i).toNat) m1 else .stuck
  | _ => .stuck
theorem di_range2 {fl : FI} (hg : Gl X "range") (hm : X.mg "range" = none) (ha : DA X W [a, b] fl) (hs : starEach [a, b] X.env = [(false, eval a X.env), (false, eval b X.env)] := by rfl) (hs2 : starEach [b] X.env = [(false, eval b X.env)] := by rfl) : DI X W tg (.Call (.Name "range" p) [a, b] [] pos) (rng2I fl) := fun c ρ m σ H R r s w =>
  wi_of (pi_range2 hg hm pa_w hs hs2) (ha.thenI r s w fun ds m1 c1 vs H1 r1 s1 g1 h1 w1 => by
    split at w1
    · rename_i i j
      obtain ⟨v, v', e1, h2, h3⟩ := VDs.two h1
      subst e1
      cases VD.int.mp h2
      cases VD.int.mp h3
      split at w1
      · rename_i hj
        exact ⟨i, j, rfl, ⟨hj.1.1, hj.1.2, hj.2.1, hj.2.2⟩, w1 c1 _ H1 g1 itd_range⟩
      · exact w1.elim
    · exact w1.elim)
def pairs (k : Nat) : List D → List D
  | [] => []
  | d :: ds => mkTup [.p (.int (k : Nat)), d] :: pairs (k + 1) ds
theorem pairs_get : ∀ (ds : List D) (k i : Nat) (d : D), (pairs k ds)[i]? = some d → ∃ d0, ds[i]? = some d0 ∧ d = mkTup [.p (.int ((k + i : Nat) : Int)), d0]
  | [], k, i, d, e => by simp [pairs] at e
  | d0 :: ds, k, 0, d, e => by
    simp only [pairs, List.getElem?_cons_zero, Option.some.injEq] at e
    exact ⟨d0, rfl, e.symm⟩
  | d0 :: ds, k, i + 1, d, e => by
    simp only [pairs, List.getElem?_cons_succ] at e
    obtain ⟨d1, h1, h2⟩ := pairs_get ds (k + 1) i d e
    refine ⟨d1, by simpa using h1, ?_⟩
    rw [h2]
    congr 5
    omega
theorem pairs_length : ∀ (ds : List D) (k : Nat), (pairs k ds).length = ds.length
  | [], _ => rfl
  | d :: ds, k => by simp [pairs, pairs_length ds]
theorem itd_enum {K : PySem.W.Frag} {a : Addr} {vs : List V} {ds : List D} (hf : FzL K H a vs) (hv : VDs K H c vs ds) : ItD K c H (Ite K a) (pairs 0 ds) := fun c' m' H' p ex r i => by
  have f := hf.ext ex
  have hv' := VDs.mono ex p _ hv
  refine ⟨fun d e => ?_, fun hl => ⟨vs, f.sq, by rw [hv.length]; rw [pairs_length] at hl; exact hl⟩⟩
  obtain ⟨d0, h0, e0⟩ := pairs_get ds 0 i d e
  obtain ⟨v, h1, h2⟩ := hv'.get h0
  refine ⟨⟨vs, v, f.sq, h1⟩, fun x H'' y => ?_⟩
  obtain ⟨T, x0, e1, nT, e2, y⟩ := y
  have y0 := y vs f.sq
  rw [h1] at y0
  cases y0
  subst e1 e2
  have g : Gd K c' c' m' H' (upd H' T (.tup [.int (i : Nat), v])) := r.lay nT
  refine ⟨g, fun b o e => by rw [upd_ne (ne_of_none e nT)]; exact e, ?_⟩
  rw [e0]
  refine mkTup_ok (vs := [.int (i : Nat), v]) ?_ (SqT.of upd_same)
  unfold VDs
  refine ⟨_, _, rfl, VD.int.mpr (by simp), ?_⟩
  exact VDs.one (g.vd h2)
def enumI (fl : FI) : FI := fun ρ m => (fl ρ m).bind fun ds m1 => match ds with
  | [.p (.list xs)] => .ok (pairs 0 (xs.map D.p)) m1
  | [.lst xs] => .ok (pairs 0 xs) m1
  | _ => .stuck
theorem di_enum {fl : FI} {elts : List Expr} {kk : Nat} {tpos : Pos} (hg : Gl X "enumerate") (hm : X.mg "enumerate" = none) (ha : DA X W [a] fl) (hs : starEach [a] X.env = [(false, eval a X.env)] := by rfl) :
    DI X W (.Tuple elts kk tpos) (.Call (.Name "enumerate" p) [a] [] pos) (enumI fl) := fun c ρ m σ H R r s w =>
  wi_of (pi_enum hg hm pa_w hs) (ha.thenI r s w fun ds m1 c1 vs H1 r1 s1 g1 h1 w1 => by
    split at w1
    · obtain ⟨v, e1, h2⟩ := VDs.onlyOne h1
      subst e1
      unfold VD at h2
      cases h2 with
      | @lst a xs _ hf hq => exact ⟨a, xs, rfl, hf.sq, w1 c1 _ H1 g1 (itd_enum hf (VDs.ofp hq))⟩
    · obtain ⟨v, e1, h2⟩ := VDs.onlyOne h1
      subst e1
      unfold VD at h2
      obtain ⟨a, xs, e1, hf, hq⟩ := h2
      subst e1
      exact ⟨a, xs, rfl, hf.sq, w1 c1 _ H1 g1 (itd_enum hf hq)⟩
    · exact w1.elim)
end
/-! ### loops -/
def forS (g : FG) (body : FS) : List D → Rho → Store → SRes
  | [], ρ, m => .nx ρ m
  | d :: ds, ρ, m => match (g d ρ m).seq body with
    | .nx ρ1 m1 => forS g body ds ρ1 m1
    | .ct ρ1 m1 => forS g body ds ρ1 m1
    | .bk ρ1 m1 => .nx ρ1 m1
    | r => r
def forE (fi : FI) (g : FG) (body : FS) : FS := fun ρ m => (fi ρ m).bindS ρ fun ds m1 => forS g body ds ρ m1
section
variable {X : Cx} {W : WX} {a b e tg iter : Expr} {es : List Expr} {fa fb f : FE} {pos p : Pos} {c c' : Anc} {ρ : Rho} {m m' : Store} {σ : St} {H H' : Hp} {En : Ends} {body : List Stmt} {g : FG} {gb : FS} {fi : FI}
theorem WantS.bnd {k : List D → Store → SRes} {r : Res (List D)} (s : Slo X.K H c ρ σ) (h : WantS X W c H (r.bindS ρ k) En) {R : It → Hp → Prop} (q : ∀ ds m1, r = .ok ds m1 → WantS X W c H (k ds m1) En → ∀ c' J H', Gd X.K c c' m1 H H' → ItD X.K c' H' J ds → R J H') : WantI X W c H σ r R := by
  cases r with
  | ok ds m1 => exact q ds m1 rfl h
  | exc x m1 => exact fun c1 cls dd H1 g hv => h c1 σ cls dd H1 g (g.slots s) hv
  | stuck => exact h
theorem ds_for (hp : PassesOwn (model X.prog X.w) X.A X.env X.xe) (hi : DI X W tg iter fi) (hg : DG X W tg g) (hb : DSs X W body gb) (hc : X.calm = true := by rfl) (hs : ∀ x, foldedSetIterable iter X.env x = pure x := by intro _; rfl) : DS X W (.For tg iter body [] pos) (forE fi g gb) := fun c ρ m σ H En r s w => by
  refine wst_of (ps_for hp hc pi_w pg_w pss_w hs) (hi c ρ m σ H _ r s (WantS.bnd s w fun ds m1 e w1 c1 J H1 g1 hJ => ?_))
  have w1 := WantS.shift g1 w1
  refine ⟨fun i mm σ' H' => ∃ c' ρ' m', Gd X.K c1 c' m' H1 H' ∧ Slo X.K H' c' ρ' σ' ∧ i ≤ ds.length ∧ mm = ds.length - i ∧ WantS X W c' H' (forS g gb (ds.drop i) ρ' m') En,
    ⟨ds.length, c1, ρ, m1, Gd.refl g1.rel, g1.slots s, Nat.zero_le _, by simp, by simpa using w1⟩, ?_⟩
  rintro i mm σ2 H2 ⟨c2, ρ2, m2, g2, s2, hi2, hmm, w2⟩
  obtain ⟨hgo, hstop⟩ := hJ c2 m2 H2 g2.pre g2.ext g2.rel i
  by_cases hlt : i < ds.length
  · have ed : ds[i]? = some ds[i] := List.getElem?_eq_getElem hlt
    obtain ⟨go, hy⟩ := hgo _ ed
    have w3 : WantS X W c2 H2 (forS g gb (ds[i] :: ds.drop (i + 1)) ρ2 m2) En := by rw [← List.drop_eq_getElem_cons hlt]; exact w2
    refine .inr ⟨go, fun σ' H' => ∃ c' ρ' m', Gd X.K c1 c' m' H1 H' ∧ Slo X.K H' c' ρ' σ' ∧ WantS X W c' H' (forS g gb (ds.drop (i + 1)) ρ' m') En, ?_, ?_⟩
    · rintro σ' H' ⟨c', ρ', m', h1, h2, h3⟩
      exact ⟨ds.length - (i + 1), by omega, c', ρ', m', h1, h2, hlt, rfl, h3⟩
    · intro x H3 yl
      obtain ⟨g3, _, hv⟩ := hy x H3 yl
      have w4 := WantS.shift g3 w3
      let N : St → Hp → Prop := fun σ' H' => ∃ c' ρ' m', Gd X.K c1 c' m' H1 H' ∧ Slo X.K H' c' ρ' σ' ∧ WantS X W c' H' (forS g gb (ds.drop (i + 1)) ρ' m') En
      refine hg c2 ρ2 m2 σ2 H3 x ds[i] { nx := fun σ' H' => WSs X body { En with nx := N, ct := N, bk := En.nx } σ' H', rt := En.rt, bk := En.nx, ct := N } g3.rel (g3.slots s2) hv ?_
      have w5 : WantS X W c2 H3 (match (g ds[i] ρ2 m2).seq gb with
        | .nx ρ1 m1 => forS g gb (ds.drop (i + 1)) ρ1 m1
        | .ct ρ1 m1 => forS g gb (ds.drop (i + 1)) ρ1 m1
        | .bk ρ1 m1 => .nx ρ1 m1
        | r => r) En := w4
      cases q : g ds[i] ρ2 m2 with
      | nx ρ4 m4 =>
        rw [q] at w5
        intro c4 σ4 H4 g4 s4
        have w6 := WantS.shift g4 w5
        refine hb c4 ρ4 m4 σ4 H4 _ g4.rel s4 ?_
        change WantS X W c4 H4 (match gb ρ4 m4 with
          | .nx ρ1 m1 => forS g gb (ds.drop (i + 1)) ρ1 m1
          | .ct ρ1 m1 => forS g gb (ds.drop (i + 1)) ρ1 m1
          | .bk ρ1 m1 => .nx ρ1 m1
          | r => r) En at w6
        cases q2 : gb ρ4 m4 with
        | nx ρ5 m5 =>
          rw [q2] at w6
          exact fun c5 σ5 H5 g5 s5 => ⟨c5, ρ5, m5, ((g2.trans g3).trans g4).trans g5, s5, WantS.shift g5 w6⟩
        | ct ρ5 m5 =>
          rw [q2] at w6
          exact fun c5 σ5 H5 g5 s5 => ⟨c5, ρ5, m5, ((g2.trans g3).trans g4).trans g5, s5, WantS.shift g5 w6⟩
        | bk ρ5 m5 => rw [q2] at w6; exact w6
        | rt d m5 => rw [q2] at w6; exact w6
        | exc y ρ5 m5 => rw [q2] at w6; exact w6
        | stuck => rw [q2] at w6; exact w6
      | ct ρ5 m5 =>
        rw [q] at w5
        exact fun c5 σ5 H5 g5 s5 => ⟨c5, ρ5, m5, (g2.trans g3).trans g5, s5, WantS.shift g5 w5⟩
      | bk ρ5 m5 => rw [q] at w5; exact w5
      | rt d m5 => rw [q] at w5; exact w5
      | exc y ρ5 m5 => rw [q] at w5; exact w5
      | stuck => rw [q] at w5; exact w5
  · have e : i = ds.length := by omega
    subst e
    refine .inl ⟨hstop (Nat.le_refl _), ?_⟩
    rw [List.drop_length] at w2
    exact w2 c2 σ2 H2 (Gd.refl g2.rel) s2
def whileS (t : Rho → Store → Res Bool) (body : FS) : Nat → Rho → Store → SRes
  | 0, _, _ => .stuck
  | n + 1, ρ, m => (t ρ m).bindS ρ fun k m1 => if k then (match body ρ m1 with
      | .nx ρ1 m2 => whileS t body n ρ1 m2
      | .ct ρ1 m2 => whileS t body n ρ1 m2
      | .bk ρ1 m2 => .nx ρ1 m2
      | r => r) else .nx ρ m1
theorem ds_while (n : Nat) {ft : Rho → Store → Res Bool} (hp : PassesOwn (model X.prog X.w) X.A X.env X.xe) (ht : DT X W e ft) (hb : DSs X W body gb) : DS X W (.While e body [] pos) (whileS ft gb n) := fun c ρ m σ H En r s w => by
  refine wst_of (ps_while hp pt_w pss_w) ?_
  refine ⟨fun k σ' H' => ∃ c' ρ' m', RelS X.K c' m' H' ∧ Slo X.K H' c' ρ' σ' ∧ WantS X W c' H' (whileS ft gb k ρ' m') En, ⟨n, c, ρ, m, r, s, w⟩, ?_⟩
  rintro k σ1 H1 ⟨c1, ρ1, m1, r1, s1, w1⟩
  cases k with
  | zero => exact w1.elim
  | succ k =>
    refine ht.thenS r1 s1 w1 fun b m2 c2 H2 r2 s2 g2 w2 => ?_
    cases b with
    | false => rw [if_neg Bool.false_ne_true]; exact w2 c2 σ1 H2 (Gd.refl r2) s2
    | true =>
      rw [if_pos rfl]
      refine ⟨fun σ' H' => ∃ c' ρ' m', RelS X.K c' m' H' ∧ Slo X.K H' c' ρ' σ' ∧ WantS X W c' H' (whileS ft gb k ρ' m') En, fun σ' H' h => ⟨k, Nat.lt_succ_self _, h⟩, ?_⟩
      refine hb c2 ρ1 m2 σ1 H2 _ r2 s2 ?_
      change WantS X W c2 H2 (match gb ρ1 m2 with
        | .nx ρ1 m2 => whileS ft gb k ρ1 m2
        | .ct ρ1 m2 => whileS ft gb k ρ1 m2
        | .bk ρ1 m2 => .nx ρ1 m2
        | r => r) En at w2
      cases q2 : gb ρ1 m2 with
      | nx ρ5 m5 =>
        rw [q2] at w2
        exact fun c5 σ5 H5 g5 s5 => ⟨c5, ρ5, m5, g5.rel, s5, WantS.shift g5 w2⟩
      | ct ρ5 m5 =>
        rw [q2] at w2
        exact fun c5 σ5 H5 g5 s5 => ⟨c5, ρ5, m5, g5.rel, s5, WantS.shift g5 w2⟩
      | bk ρ5 m5 => rw [q2] at w2; exact w2
      | rt d m5 => rw [q2] at w2; exact w2
      | exc y ρ5 m5 => rw [q2] at w2; exact w2
      | stuck => rw [q2] at w2; exact w2
end
end L2.Dn
namespace L2.Dn
open PySem PySem.Spec PyProof.Rows L2
/-! ### comprehensions -/
abbrev Wno : WX := fun _ _ _ _ => False
/-- a tracked list beside the cells -/
theorem RelS.side {K : PySem.W.Frag} {c : Anc} {m : Store} {H : Hp} {a : Addr} {xs ys : List V} (r : RelS K c m H) (hn : ¬ Has c a) (ha : H a = some (.lst xs)) : RelS K c m (upd H a (.lst ys)) := by
  have ex : Ext H (upd H a (.lst ys)) := Ext.put ha
  exact ⟨r.len, r.inj, fun i b x h1 h2 => (r.at_ i b x h1 h2).mono ex (Pre.refl _) fun zs e => by rw [upd_ne (fun z => hn ⟨i, by rw [← z]; exact h1⟩)]; exact e⟩
theorem newL_at {X : Cx} {W : WX} {σ : St} {c c' : Anc} {H H' : Hp} {m' : Store} {z : Md} {ds : List D} {xs : List V} {a : Addr} {Q : VK} (g : Gd X.K c c' m' H H') (h0 : H a = none) (hn : ¬ Has c' a) (ha : H' a = some (.lst xs)) (hv : VDs X.K H' c' xs ds) (h : Want X W c H σ (newL z ds m') Q) : QF Q (.ref a) H' := by
  have nc : ∀ b, Has c b → b ≠ a := fun b hb e => hn (e ▸ hb.pre g.pre)
  have neF : ∀ b o, H b = some o → b ≠ a := fun b o e z => by rw [z, h0] at e; cases e
  cases z with
  | z =>
    right
    refine ⟨a, xs, rfl, ha, fun o => ?_⟩
    have ex : Ext H' (upd H' a (.frz o (.lst xs))) := Ext.put ha
    have g2 : Gd X.K c c' m' H (upd H' a (.frz o (.lst xs))) := by
      refine ⟨g.pre, g.ext.trans ex, g.new, fun b u hb e => by rw [upd_ne (neF b u e)]; exact g.frame b u hb e, g.rel.len, g.rel.inj, fun i b x h1 h2 => (g.rel.at_ i b x h1 h2).mono ex (Pre.refl _) fun zs e => ?_⟩
      rw [upd_ne (fun z => hn ⟨i, by rw [← z]; exact h1⟩)]
      exact e
    exact h c' _ _ g2 (mkLst_ok (VDs.mono ex (Pre.refl _) _ hv) (.inl ⟨o, upd_same⟩))
  | l =>
    left
    have g2 : Gd X.K c (c'.push a true) (m'.push (.lst ds) true) H H' := ⟨g.pre.trans (push_pre _ _ _), g.ext, fun b hb => (has_push hb).elim (g.new b) fun e => .inr (by rw [e]; exact h0), g.frame, g.rel.adopt true hn ha hv⟩
    refine h _ _ _ g2 ?_
    unfold VD
    exact ⟨a, by rw [← next_eq g.rel]; exact push_next _ _ _, rfl⟩
  | g =>
    left
    cases hl : nls ds with
    | false => rw [newL, hl] at h; exact h.elim
    | true =>
      rw [newL, hl] at h
      have g2 : Gd X.K c (c'.push a false) (m'.push (.lst ds) false) H H' := ⟨g.pre.trans (push_pre _ _ _), g.ext, fun b hb => (has_push hb).elim (g.new b) fun e => .inr (by rw [e]; exact h0), g.frame, g.rel.adopt false hn ha (VDs.nl ds hv hl)⟩
      refine h _ _ _ g2 ?_
      unfold VD
      exact ⟨a, by rw [← next_eq g.rel]; exact push_next _ _ _, rfl⟩
def wipeR (ρ : Rho) : List Nat → Rho
  | [] => ρ
  | v :: vs => (wipeR ρ vs).set v none
/-- the target of a comprehension: one name, or a tuple of names -/
def setAll : List Nat → List D → Rho → Option Rho
  | [], [], ρ => some ρ
  | i :: is, d :: ds, ρ => setAll is ds (ρ.set i (some d))
  | _, _, _ => none
def noX {α : Type} : Res α → Res α
  | .exc _ _ => .stuck
  | r => r
def lcM (g : D → Rho → Option Rho) (t : Rho → Store → Res Bool) (fe : FE) (ρ : Rho) : List D → Store → Res (List D)
  | [], m => .ok [] m
  | d :: ds, m => match g d ρ with
    | some ρ1 => (noX (t ρ1 m)).bind fun b m2 => if b then (noX (fe ρ1 m2)).bind fun y m3 => (lcM g t fe ρ ds m3).bind fun ys m4 => .ok (y :: ys) m4 else lcM g t fe ρ ds m2
    | none => .stuck
def lcE (z : Md) (vs : List Nat) (fi : FI) (g : D → Rho → Option Rho) (t : Rho → Store → Res Bool) (fe : FE) : FE := fun ρ m => (fi ρ m).bind fun ds m1 => if ds.length ≤ sizeLine then (lcM g t fe (wipeR ρ vs) ds m1).bind fun ys m2 => newL z ys m2 else .stuck
def oneG (i : Nat) : D → Rho → Option Rho := fun d ρ => some (ρ.set i (some d))
def manyG (is : List Nat) : D → Rho → Option Rho := fun d ρ => match tupOf d with
  | some ds => setAll is ds ρ
  | none => none
section
variable {X : Cx} {W : WX} {a b e tg iter elt : Expr} {ifs : List Expr} {scope : Scope} {own : List (Str × Nat)} {fa fb f fe : FE} {ft : Rho → Store → Res Bool} {pos p : Pos} {c c' : Anc} {ρ : Rho} {m m' : Store} {σ : St} {H H' : Hp} {fi : FI}
theorem Slo.wipe {K : PySem.W.Frag} (s : Slo K H c ρ σ) : ∀ vs : List Nat, Slo K H c (wipeR ρ vs) (wipe σ vs)
  | [] => s
  | v :: vs => by
    have ih := Slo.wipe s vs
    unfold wipeR L2.wipe
    refine ⟨by simp [ih.len], fun j d' q => ?_⟩
    by_cases hj : j = v
    · subst hj
      have hl : j < ((wipeR ρ vs).set j none).length := (List.getElem?_eq_some_iff.mp q).1
      rw [List.getElem?_set_self (by simpa using hl)] at q
      cases q
    · rw [List.getElem?_set_ne (Ne.symm hj)] at q ⊢
      exact ih.at_ j d' q
theorem wipe_len' (σ : St) (vs : List Nat) : (wipe σ vs).length = σ.length := wipe_length σ vs
theorem wipe_get : ∀ {vs : List Nat} {j : Nat}, j ∈ vs → ∀ σ : St, j < σ.length → (wipe σ vs)[j]? = some none
  | v :: vs, j, hj, σ, hl => by
    unfold L2.wipe
    by_cases h : j = v
    · subst h
      exact List.getElem?_set_self (by rw [wipe_length]; exact hl)
    · rw [List.getElem?_set_ne (Ne.symm h)]
      rcases List.mem_cons.mp hj with z | z
      · exact absurd z h
      · exact wipe_get z σ hl
  | [], j, hj, _, _ => by cases hj
theorem wipe_ext {vs : List Nat} {σ σ' : St} (hl : σ'.length = σ.length) (h : ∀ j, j ∉ vs → σ'[j]? = σ[j]?) : wipe σ' vs = wipe σ vs := by
  refine List.ext_getElem? fun j => ?_
  by_cases hj : j ∈ vs
  · by_cases hk : j < σ.length
    · rw [wipe_get hj σ hk, wipe_get hj σ' (by rw [hl]; exact hk)]
    · rw [List.getElem?_eq_none (by rw [wipe_length]; omega), List.getElem?_eq_none (by rw [wipe_length]; omega)]
  · rw [wipe_out hj, wipe_out hj]
    exact h j hj
/-- a target and what it does to the slots -/
def DLg (X : Cx) (tg : Expr) (is : List Nat) (g : D → Rho → Option Rho) : Prop := ∀ (c : Anc) (ρ ρ' : Rho) (σ : St) (H : Hp) (v : V) (d : D) (R : St → Hp → Prop), Slo X.K H c ρ σ → VD X.K H c v d → g d ρ = some ρ' →
  (∀ σ', Slo X.K H c ρ' σ' → σ'.length = σ.length → (∀ j, j ∉ is → σ'[j]? = σ[j]?) → R σ' H) → WG X tg v σ H R
theorem dl_one (i : Nat) {x : Str} (hN : X.N.Nodup) (hi : X.N[i]? = some x := by rfl) (hx : Loc X.env.scope x := by first | exact Or.inl rfl | exact Or.inr rfl) (hf : X.fn x = true ∨ X.env.scope.names.lookup x = some .local := by first | exact .inl rfl | exact .inr rfl | assumption) : DLg X (.Name x pos) [i] (oneG i) :=
  fun c ρ ρ' σ H v d R s hv e q => by
    cases e
    refine wg_of (pg_name hN hi hx hf) (q _ (s.set i hv) (by simp) fun j hj => ?_)
    rw [List.getElem?_set_ne (fun z => hj (by simp [z]))]
def DLgs (X : Cx) (ts : List Expr) (is : List Nat) : Prop := ∀ (c : Anc) (ρ ρ' : Rho) (σ : St) (H : Hp) (vs : List V) (ds : List D) (R : St → Hp → Prop), Slo X.K H c ρ σ → VDs X.K H c vs ds → setAll is ds ρ = some ρ' →
  (∀ σ', Slo X.K H c ρ' σ' → σ'.length = σ.length → (∀ j, j ∉ is → σ'[j]? = σ[j]?) → R σ' H) → WGs X ts vs σ H R
theorem dls_nil : DLgs X [] [] := fun c ρ ρ' σ H vs ds R s hv e q => by
  cases ds with
  | nil =>
    cases e
    unfold VDs at hv
    subst hv
    exact wgs_of pgs_nil ⟨rfl, q σ s rfl fun _ _ => rfl⟩
  | cons d ds => cases e
theorem dls_cons (i : Nat) {x : Str} {ts : List Expr} {is : List Nat} (hr : DLgs X ts is) (hN : X.N.Nodup) (hi : X.N[i]? = some x := by rfl) (hx : Loc X.env.scope x := by first | exact Or.inl rfl | exact Or.inr rfl) (hf : X.fn x = true ∨ X.env.scope.names.lookup x = some .local := by first | exact .inl rfl | exact .inr rfl | assumption)
    (hs : (assignEach (.Name x pos :: ts) X.env).map (·.2) = assign (.Name x pos) X.env :: (assignEach ts X.env).map (·.2) := by rfl) : DLgs X (.Name x pos :: ts) (i :: is) := fun c ρ ρ' σ H vs ds R s hv e q => by
  cases ds with
  | nil => cases e
  | cons d ds =>
    unfold VDs at hv
    obtain ⟨v, vr, e1, h1, h2⟩ := hv
    subst e1
    have e : setAll is ds (ρ.set i (some d)) = some ρ' := e
    refine wgs_of (pgs_cons (pg_name hN hi hx hf) pgs_w hs) ⟨v, vr, rfl, ?_⟩
    refine hr c _ ρ' _ H vr ds R (s.set i h1) h2 e fun σ' s' hl hj => q σ' s' (by simpa using hl) fun j hm => ?_
    rw [hj j (fun z => hm (List.mem_cons_of_mem _ z)), List.getElem?_set_ne (fun z => hm (by rw [z]; exact List.mem_cons_self))]
theorem dl_many {ts : List Expr} {is : List Nat} {k n : Nat} (h : DLgs X ts is) (hn : (assignEach ts X.env).length = n := by rfl) (hni : is.length = n := by rfl) (hc : X.calm = true := by rfl) (hst : (assignEach ts X.env).findIdx? (·.1) = none := by rfl) : DLg X (.Tuple ts k pos) is (manyG is) :=
  fun c ρ ρ' σ H v d R s hv e q => by
    unfold manyG at e
    split at e
    · rename_i ds hd
      obtain ⟨a, vs, e1, h2, h3⟩ := tupOf_ok hv hd
      have hl : ∀ {is : List Nat} {ds : List D} {ρ ρ' : Rho}, setAll is ds ρ = some ρ' → ds.length = is.length := by
        intro is
        induction is with
        | nil => intro ds ρ ρ' e; cases ds with | nil => rfl | cons => cases e
        | cons i is ih => intro ds ρ ρ' e; cases ds with | nil => cases e | cons d ds => simp [ih (show setAll is ds (ρ.set i (some d)) = some ρ' from e)]
      exact wg_of (pg_tup hc pgs_w hn hst) ⟨a, vs, e1, h2, by rw [h3.length, hl e]; exact hni, h c ρ ρ' σ H vs ds R s h3 e q⟩
    · cases e
/-- the tests of a comprehension -/
abbrev testsOf (l : List Expr) (v : Env) : Sem Bool :=
  forIn l true fun x k => if k = true then do
      let w ← isTrue x v (eval x v)
      pure (ForInStep.yield w)
    else pure (ForInStep.yield k)
def DTs (X : Cx) (ifs : List Expr) (ft : Rho → Store → Res Bool) : Prop := ∀ (c : Anc) (ρ : Rho) (m : Store) (σ : St) (H : Hp) (Q : Bool → Hp → Prop), RelS X.K c m H → Slo X.K H c ρ σ → WantB X Wno c H σ (ft ρ m) Q →
  ∀ (pins : List (Addr × Obj)) (s : Shared), Inv X pins σ H s → wpAny (model X.prog X.w) X.A (testsOf ifs X.env) (TP X pins σ Q) X.xe s
def yesT : Rho → Store → Res Bool := fun _ m => .ok true m
theorem dts_nil : DTs X [] yesT := fun c ρ m σ H Q r s w pins st I => pts_nil.run pins st σ H Q I (w c H (Gd.refl r))
theorem dts_one (h : DT X Wno e ft) : DTs X [e] ft := fun c ρ m σ H Q r s w pins st I => (pts_one pt_w).run pins st σ H Q I (h c ρ m σ H Q r s w)
theorem noX_want {β : Type} {r : Res Bool} {Q : Bool → Hp → Prop} (h : WantB X W c H σ (noX r) Q) : WantB X Wno c H σ r Q := by
  cases r with
  | ok => exact h
  | exc => exact h.elim
  | stuck => exact h
/-- readings of a comprehension's parts, in whatever block they run -/
def rG (X : Cx) (scope : Scope) (tg : Expr) : TG := fun v σ H R => ∀ s0 H0 C cl fp, WG (X.blk s0 H0 scope (compEnvC scope cl C X.env) fp) tg v σ H R
def rT (X : Cx) (scope : Scope) (ifs : List Expr) : TT := fun σ H Q => ∀ s0 H0 C cl fp (pins : List (Addr × Obj)) (s : Shared), Inv (X.blk s0 H0 scope (compEnvC scope cl C X.env) fp) pins σ H s →
  wpAny (model X.prog X.w) X.A (testsOf ifs (compEnvC scope cl C X.env)) (TP (X.blk s0 H0 scope (compEnvC scope cl C X.env) fp) pins σ Q) (fun _ _ => False) s
def rE (X : Cx) (scope : Scope) (elt : Expr) : TE := fun σ H Q => ∀ s0 H0 C cl fp, WE (X.blk s0 H0 scope (compEnvC scope cl C X.env) fp) elt σ H Q
theorem pg_r (s : Shared) (H : Hp) (C : Addr) (cl : List (Str × Addr)) (fp : List Addr) : PG (X.blk s H scope (compEnvC scope cl C X.env) fp) tg (rG X scope tg) := ⟨fun pins s1 σ H1 v u Q I r h => h s H C cl fp pins s1 u I r⟩
theorem pt_r (s : Shared) (H : Hp) (C : Addr) (cl : List (Str × Addr)) (fp : List Addr) : PTs (X.blk s H scope (compEnvC scope cl C X.env) fp) ifs (rT X scope ifs) := ⟨fun pins s1 σ H1 Q I h => h s H C cl fp pins s1 I⟩
theorem pe_r (s : Shared) (H : Hp) (C : Addr) (cl : List (Str × Addr)) (fp : List Addr) : PE (X.blk s H scope (compEnvC scope cl C X.env) fp) elt (rE X scope elt) := ⟨fun pins s1 σ H1 Q I h => h s H C cl fp pins s1 I⟩
theorem lc_read {z : Md} {is : List Nat} {g : D → Rho → Option Rho} {own : List (Str × Nat)} {Q Q' : VK} (hi : DI X W tg iter fi)
    (hg : ∀ (s : Shared) (H : Hp) (C : Addr) (cl : List (Str × Addr)) (fp : List Addr), DLg (X.blk s H scope (compEnvC scope cl C X.env) fp) tg is g)
    (ht : ∀ (s : Shared) (H : Hp) (C : Addr) (cl : List (Str × Addr)) (fp : List Addr), DTs (X.blk s H scope (compEnvC scope cl C X.env) fp) ifs ft)
    (he : ∀ (s : Shared) (H : Hp) (C : Addr) (cl : List (Str × Addr)) (fp : List Addr), DE (X.blk s H scope (compEnvC scope cl C X.env) fp) Wno elt fe)
    (hsub : ∀ i ∈ is, i ∈ own.map (·.2)) (r : RelS X.K c m H) (s : Slo X.K H c ρ σ) (w : Want X W c H σ (lcE z (own.map (·.2)) fi g ft fe ρ m) Q) (hq : ∀ v H, QF Q v H → Q' v H) :
    tLc (WI X tg iter) (rG X scope tg) (rT X scope ifs) (rE X scope elt) (own.map (·.2)) σ H Q' := by
  refine hi c ρ m σ H _ r s ?_
  unfold lcE at w
  cases q : fi ρ m with
  | stuck => rw [q] at w; exact w.elim
  | exc x m1 => rw [q] at w; exact w
  | ok ds m1 =>
    rw [q] at w
    intro c1 J H1 g1 hJ D hD
    have w : Want X W c H σ (if ds.length ≤ sizeLine then (lcM g ft fe (wipeR ρ (own.map (·.2))) ds m1).bind fun ys m2 => newL z ys m2 else .stuck) Q := w
    by_cases hz : ds.length ≤ sizeLine
    · rw [if_pos hz] at w
      have w1 := Want.shift g1 w
      have nD : ¬ Has c1 D := g1.rel.not hD
      have s1 := (g1.slots s).wipe (own.map (·.2))
      -- the rest of the run, from the items that are left and those that are made
      let Rest : Nat → Hp → List V → Prop := fun i H' acc => ∃ c' m' ys, Gd X.K c1 c' m' H1 H' ∧ ¬ Has c' D ∧ H' D = some (.lst acc) ∧ VDs X.K H' c' acc ys ∧ acc.length ≤ i ∧
        Want X W c1 H1 σ ((lcM g ft fe (wipeR ρ (own.map (·.2))) (ds.drop i) m').bind fun zs m2 => newL z (ys ++ zs) m2) Q
      refine ⟨fun i mm H' => i ≤ ds.length ∧ mm = ds.length - i ∧ ∃ acc, Rest i H' acc, ⟨ds.length, Nat.zero_le _, by simp, [], c1, m1, [], ?_, nD, upd_same, by unfold VDs; rfl, Nat.le_refl _, by simpa using w1⟩, ?_⟩
      · exact g1.rel.lay hD
      · rintro i mm H2 ⟨hi2, hmm, acc, c2, m2, ys, g2, nD2, hD2, hv2, hl2, w2⟩
        obtain ⟨hgo, hstop⟩ := hJ c2 m2 H2 g2.pre g2.ext g2.rel i
        by_cases hlt : i < ds.length
        · have ed : ds[i]? = some ds[i] := List.getElem?_eq_getElem hlt
          obtain ⟨go, hy⟩ := hgo _ ed
          have e1 : ds.drop i = ds[i] :: ds.drop (i + 1) := List.drop_eq_getElem_cons hlt
          rw [e1] at w2
          refine .inr ⟨go, fun H' => ∃ acc, Rest (i + 1) H' acc, fun H' h => ⟨ds.length - (i + 1), by omega, hlt, rfl, h⟩, fun x H3 yl => ?_⟩
          obtain ⟨g3, k3, hv⟩ := hy x H3 yl
          have g23 := g2.trans g3
          have hD3 : H3 D = some (.lst acc) := k3 D _ hD2
          intro s0 H0 C cl fp
          cases q1 : g ds[i] (wipeR ρ (own.map (·.2))) with
          | none => simp only [lcM, q1, Res.bind] at w2; exact w2.elim
          | some ρ1 =>
            refine hg s0 H0 C cl fp c2 _ ρ1 _ H3 x ds[i] _ (g23.slots s1) hv q1 fun σ1 s3 hl hj => ⟨?_, ?_⟩
            · rw [show wipe σ (own.map (·.2)) = wipe (wipe σ (own.map (·.2))) (own.map (·.2)) from (wipe_ext (wipe_length _ _) fun j hj => wipe_out hj).symm]
              exact wipe_ext hl fun j hm => hj j fun z => hm (hsub j z)
            · intro s4 H4 C4 cl4 fp4 pins4 st4 I4
              simp only [lcM, q1] at w2
              refine ht s4 H4 C4 cl4 fp4 c2 ρ1 m2 σ1 H3 _ g3.rel s3 ?_ pins4 st4 I4
              cases q2 : ft ρ1 m2 with
              | stuck => simp only [q2, noX, Res.bind] at w2; exact w2.elim
              | exc y m5 => simp only [q2, noX, Res.bind] at w2; exact w2.elim
              | ok k m5 =>
                intro c5 H5 g5
                have g25 := g23.trans g5
                have hD5 : H5 D = some (.lst acc) := g5.frame D _ nD2 hD3
                have nD5 : ¬ Has c5 D := fun z => (g5.new D z).elim nD2 fun e => by rw [hD3] at e; cases e
                simp only [q2, noX, Res.bind] at w2
                cases k with
                | false =>
                  rw [if_neg Bool.false_ne_true]
                  exact ⟨acc, c5, m5, ys, g25, nD5, hD5, g5.vds (g3.vds hv2), Nat.le_succ_of_le hl2, w2⟩
                | true =>
                  rw [if_pos rfl]
                  intro s6 H6 C6 cl6 fp6
                  refine he s6 H6 C6 cl6 fp6 c5 ρ1 m5 σ1 H5 _ g5.rel (g5.slots s3) ?_
                  cases q3 : fe ρ1 m5 with
                  | stuck => simp only [q3, noX, if_true, Res.bind] at w2; exact w2.elim
                  | exc y m7 => simp only [q3, noX, if_true, Res.bind] at w2; exact w2.elim
                  | ok y m7 =>
                    simp only [q3, noX, if_true, Res.bind] at w2
                    intro c7 vy H7 g7 hy7
                    have g27 := g25.trans g7
                    have hD7 : H7 D = some (.lst acc) := g7.frame D _ nD5 hD5
                    have nD7 : ¬ Has c7 D := fun z => (g7.new D z).elim nD5 fun e => by rw [hD5] at e; cases e
                    refine ⟨acc, hD7, by omega, acc ++ [vy], c7, m7, ys ++ [y], ?_, nD7, upd_same, ?_, by simpa using hl2, ?_⟩
                    · have ex : Ext H7 (upd H7 D (.lst (acc ++ [vy]))) := Ext.put hD7
                      exact ⟨g27.pre, g27.ext.trans ex, g27.new, fun b u hb e => by rw [upd_ne (fun z => by rw [z, hD] at e; cases e)]; exact g27.frame b u hb e, g27.rel.side nD7 hD7⟩
                    · have ex : Ext H7 (upd H7 D (.lst (acc ++ [vy]))) := Ext.put hD7
                      exact VDs.mono ex (Pre.refl _) _ ((g7.vds (g5.vds (g3.vds hv2))).append (VDs.one hy7))
                    · cases q4 : lcM g ft fe (wipeR ρ (own.map (·.2))) (ds.drop (i + 1)) m7 with
                      | ok zs m8 => simp only [q4, Res.bind] at w2 ⊢; rw [List.append_assoc]; exact w2
                      | exc y m8 => simp only [q4, Res.bind] at w2 ⊢; exact w2
                      | stuck => simp only [q4, Res.bind] at w2 ⊢; exact w2
        · have e : i = ds.length := by omega
          subst e
          refine .inl ⟨hstop (Nat.le_refl _), ?_⟩
          rw [List.drop_length] at w2
          have w3 : Want X W c1 H1 σ (newL z ys m2) Q := by simpa [lcM, Res.bind] using w2
          exact hq _ _ (newL_at g2 hD nD2 hD2 hv2 w3)
    · rw [if_neg hz] at w; exact w.elim
theorem de_lc (z : Md) {is : List Nat} {g : D → Rho → Option Rho} (own : List (Str × Nat)) (hN : X.N.Nodup) (hi : DI X W tg iter fi) (ok : blkC X.N X.env.scope scope own = true)
    (hg : ∀ (s : Shared) (H : Hp) (C : Addr) (cl : List (Str × Addr)) (fp : List Addr), DLg (X.blk s H scope (compEnvC scope cl C X.env) fp) tg is g)
    (ht : ∀ (s : Shared) (H : Hp) (C : Addr) (cl : List (Str × Addr)) (fp : List Addr), DTs (X.blk s H scope (compEnvC scope cl C X.env) fp) ifs ft)
    (he : ∀ (s : Shared) (H : Hp) (C : Addr) (cl : List (Str × Addr)) (fp : List Addr), DE (X.blk s H scope (compEnvC scope cl C X.env) fp) Wno elt fe)
    (hsub : ∀ i ∈ is, i ∈ own.map (·.2) := by decide) (hc : X.calm = true := by rfl) (hs : ∀ x, foldedSetIterable iter X.env x = pure x := by intro _; rfl) :
    DE X W (.ListComp elt [⟨tg, iter, ifs, 0⟩] scope pos) (lcE z (own.map (·.2)) fi g ft fe) := fun c ρ m σ H Q r s w =>
  WE.frz (we_of (pe_lc hc hN pi_w (blkOk_by ok) pg_r pt_r pe_r hs) (lc_read hi hg ht he hsub r s w fun _ _ h => h))
/-- the same ghost step behind a statement -/
def nxF (R : St → Hp → Prop) : St → Hp → Prop := fun σ H => R σ H ∨ ∃ a xs, H a = some (.lst xs) ∧ ∀ o, R σ (upd H a (.frz o (.lst xs)))
theorem WSt.frz {st : Stmt} {En : Ends} (h : WSt X st { En with nx := nxF En.nx } σ H) : WSt X st En σ H := fun pins s I => thn (h pins s I) fun f s' q => by
  cases f with
  | next =>
    obtain ⟨σ', H', I', q | ⟨a, xs, h1, q⟩⟩ := q
    · exact ⟨σ', H', I', q⟩
    · obtain ⟨o, I2⟩ := Inv.frzL I' h1
      exact ⟨σ', _, I2, q o⟩
  | brk => exact q
  | cont => exact q
  | ret v => exact q
theorem ds_setLc (z : Md) (i : Nat) {y : Str} {py spos : Pos} {is : List Nat} {g : D → Rho → Option Rho} (own : List (Str × Nat)) (hN : X.N.Nodup) (hi : DI X W tg iter fi) (ok : blkC X.N X.env.scope scope own = true)
    (hg : ∀ (s : Shared) (H : Hp) (C : Addr) (cl : List (Str × Addr)) (fp : List Addr), DLg (X.blk s H scope (compEnvC scope cl C X.env) fp) tg is g)
    (ht : ∀ (s : Shared) (H : Hp) (C : Addr) (cl : List (Str × Addr)) (fp : List Addr), DTs (X.blk s H scope (compEnvC scope cl C X.env) fp) ifs ft)
    (he : ∀ (s : Shared) (H : Hp) (C : Addr) (cl : List (Str × Addr)) (fp : List Addr), DE (X.blk s H scope (compEnvC scope cl C X.env) fp) Wno elt fe)
    (hsw : swapsWith (.ListComp elt [⟨tg, iter, ifs, 0⟩] scope pos) (some (.Name y py)) spos.line X.env = pure true)
    (hy : X.N[i]? = some y := by rfl) (hyl : X.env.scope.names.lookup y = some .local := by rfl)
    (hsub : ∀ i ∈ is, i ∈ own.map (·.2) := by decide) (hc : X.calm = true := by rfl) (hs : ∀ x, foldedSetIterable iter X.env x = pure x := by intro _; rfl) :
    DS X W (.Assign [.Name y py] (.ListComp elt [⟨tg, iter, ifs, 0⟩] scope pos) spos) (setS i (lcE z (own.map (·.2)) fi g ft fe)) := fun c ρ m σ H En r s w => by
  refine WSt.frz (wst_of (ps_setLc hc hN hy hyl hsw pi_w (blkOk_by ok) pg_r pt_r pe_r hs) ?_)
  refine lc_read (z := z) (Q := fun v H1 => En.nx (σ.set i (some v)) H1) hi hg ht he hsub r s ?_ fun v H1 h => ?_
  · unfold setS at w
    cases q : lcE z (own.map (·.2)) fi g ft fe ρ m with
    | ok d m1 =>
      rw [q] at w
      exact fun c1 v H1 g1 hv => w c1 _ H1 g1 ((g1.slots s).set i hv)
    | exc x m1 =>
      rw [q] at w
      exact fun c1 cls dd H1 g1 hv => w c1 σ cls dd H1 g1 (g1.slots s) hv
    | stuck => rw [q] at w; exact w
  · rcases h with h | ⟨a, xs, e1, e2, h⟩
    · exact .inl h
    · exact .inr ⟨a, xs, e2, h⟩
end
end L2.Dn
namespace L2.Dn
open PySem PySem.Spec PyProof.Rows L2
/-! ### defs and their calls -/
inductive RG where
  | ok (d : D) (g : List Cell)
  | exc (x : Exn) (g : List Cell)
  | stuck
abbrev Den := List D → List Cell → RG
def RG.res (r : RG) (l : List Cell) : Res D := match r with
  | .ok d g => .ok d ⟨g, l⟩
  | .exc x g => .exc x ⟨g, l⟩
  | .stuck => .stuck
/-- what a def promises by its denotation -/
def spD (K : PySem.W.Frag) (mg : Str → Option Value) (n : Nat) (den : Den) : Sp := fun vs H Q E => ∃ (cg : List Addr) (ds : List D) (g : List Cell), ds.length = n ∧ RelS K ⟨cg, []⟩ ⟨g, []⟩ H ∧ VDs K H ⟨cg, []⟩ vs ds ∧ (match den ds g with
  | .ok d g' => ∀ cg' v H', Gd K ⟨cg, []⟩ ⟨cg', []⟩ ⟨g', []⟩ H H' → VD K H' ⟨cg', []⟩ v d → Q v H'
  | .exc x g' => ∀ cg' cls dd H', Gd K ⟨cg, []⟩ ⟨cg', []⟩ ⟨g', []⟩ H H' → ExcV mg K H' ⟨cg', []⟩ x cls dd → E cls dd H'
  | .stuck => False)
/-- how a def's body ends -/
def fin : SRes → RG
  | .rt d m => if nl d then .ok d m.g else .stuck
  | .nx _ m => .ok (.p .none) m.g
  | .exc x _ m => if nls (x.fs.map (·.2)) then .exc x m.g else .stuck
  | _ => .stuck
def fnD (n : Nat) (body : FS) : Den := fun ds g => fin (body (ds.map some ++ List.replicate (n - ds.length) none) ⟨g, []⟩)
section
variable {K : PySem.W.Frag} {c c' : Anc} {m m' : Store} {H H' : Hp}
theorem RelS.glob (r : RelS K c m H) : RelS K (glob c) (glob m) H := by
  refine ⟨⟨r.len.1, rfl⟩, fun i j a x y h1 h2 h3 h4 => ?_, fun i a x h1 h2 => ?_⟩
  · cases i with
    | l i => cases h1
    | g i =>
      cases j with
      | l j => cases h2
      | g j => exact r.inj (.g i) (.g j) a x y h1 h2 h3 h4
  · cases i with
    | l i => cases h1
    | g i => exact r.at_ (.g i) a x h1 h2
theorem Gd.glob (g : Gd K (glob c) c' m' H H') : Gd K (glob c) (glob c') (glob m') H H' := by
  refine ⟨⟨g.pre.1, List.prefix_refl _⟩, g.ext, fun a ha => ?_, g.frame, g.rel.glob⟩
  obtain ⟨i, e⟩ := ha
  exact g.new a ⟨i, pre_get (glob_pre c') e⟩
theorem Has.glob {a : Addr} (h : Has (glob c) a) : Has c a := h.pre (glob_pre c)
theorem no_both (r : RelS K c m H) {i j : Nat} {a : Addr} {x : Cell} (h1 : c.at_ (.g i) = some a) (h2 : c.at_ (.l j) = some a) (h3 : m.at_ (.l j) = some x) (hx : x ≠ .gone) : False := by
  have hm : i < m.g.length := by rw [← r.len.1]; exact (List.getElem?_eq_some_iff.mp h1).1
  have e : m.at_ (.g i) = some m.g[i] := List.getElem?_eq_getElem hm
  by_cases hg : m.g[i] = .gone
  · obtain ⟨o, u, q⟩ : CellR K H (forI c (.g i)) a .gone := by have := r.at_ (.g i) a _ h1 e; rwa [hg] at this
    cases x with
    | gone => exact hx rfl
    | lst ds => obtain ⟨xs, q2, _⟩ := r.at_ (.l j) a _ h2 h3; rw [q] at q2; cases q2
  · exact nomatch r.inj (.g i) (.l j) a _ x h1 h2 e h3 hg hx
/-- behind a call: the global part is the callee's, the own part stays -/
theorem Gd.back {cg : List Addr} {g' : List Cell} (r : RelS K c m H) (g : Gd K (Dn.glob c) ⟨cg, []⟩ ⟨g', []⟩ H H') : Gd K c ⟨cg, c.l⟩ ⟨g', m.l⟩ H H' := by
  have hfr : ∀ j a x, c.at_ (.l j) = some a → m.at_ (.l j) = some x → x ≠ .gone → ¬ Has (Dn.glob c) a := fun j a x h1 h2 h3 hb => by
    obtain ⟨i, e⟩ := hb
    cases i with
    | l i => cases e
    | g i => exact no_both r e h1 h2 h3
  refine ⟨⟨g.pre.1, List.prefix_refl _⟩, g.ext, fun a ha => ?_, fun b o hb e => g.frame b o (fun z => hb z.glob) e, ⟨g.rel.len.1, r.len.2⟩, fun i j a x y h1 h2 h3 h4 h5 h6 => ?_, fun i a x h1 h2 => ?_⟩
  · obtain ⟨i, e⟩ := ha
    cases i with
    | l i => exact .inl ⟨.l i, e⟩
    | g i => exact (g.new a ⟨.g i, e⟩).imp (fun z => z.glob) fun z => z
  · have cross : ∀ i j x y, (⟨cg, c.l⟩ : Anc).at_ (.g i) = some a → (⟨cg, c.l⟩ : Anc).at_ (.l j) = some a → (⟨g', m.l⟩ : Store).at_ (.g i) = some x → (⟨g', m.l⟩ : Store).at_ (.l j) = some y → x ≠ Cell.gone → y ≠ Cell.gone → False := by
      intro i j x y h1 h2 h3 h4 h5 h6
      have nb := hfr j a y h2 h4 h6
      rcases g.new a ⟨.g i, h1⟩ with z | z
      · exact nb z
      · cases y with
        | gone => exact h6 rfl
        | lst ds => obtain ⟨xs, q, _⟩ := r.at_ (.l j) a _ h2 h4; rw [z] at q; cases q
    cases i with
    | g i =>
      cases j with
      | g j => exact g.rel.inj (.g i) (.g j) a x y h1 h2 h3 h4 h5 h6
      | l j => exact (cross i j x y h1 h2 h3 h4 h5 h6).elim
    | l i =>
      cases j with
      | g j => exact (cross j i y x h2 h1 h4 h3 h6 h5).elim
      | l j => exact r.inj (.l i) (.l j) a x y h1 h2 h3 h4 h5 h6
  · cases i with
    | g i => exact g.rel.at_ (.g i) a x h1 h2
    | l i =>
      have q := r.at_ (.l i) a x h1 h2
      refine q.mono g.ext ⟨g.pre.1, List.prefix_refl _⟩ fun xs e => ?_
      cases x with
      | gone => obtain ⟨o, u, q2⟩ := q; rw [e] at q2; cases q2
      | lst ds => exact g.frame a _ (hfr i a _ h1 h2 (by intro z; cases z)) e
end
section
variable {P : Program} {w : World} {K : PySem.W.Frag} {mg : Str → Option Value} {base : Heap}
theorem Slo.start {H : Hp} {c : Anc} {N : List Str} {vs : List V} {ds : List D} (h : VDs K H c vs ds) (hl : ds.length ≤ N.length) : Slo K H c (ds.map some ++ List.replicate (N.length - ds.length) none) (start N vs) := by
  have e := h.length
  refine ⟨by simp [L2.start, e], fun i d q => ?_⟩
  by_cases hi : i < ds.length
  · rw [List.getElem?_append_left (by simpa using hi), List.getElem?_map] at q
    cases q2 : ds[i]? with
    | none => rw [q2] at q; cases q
    | some d' =>
      rw [q2] at q
      cases q
      obtain ⟨v, h1, h2⟩ := h.get q2
      refine ⟨v, ?_, h2⟩
      unfold L2.start
      rw [List.getElem?_append_left (by simpa [e] using hi), List.getElem?_map, h1]
      rfl
  · have hi' : ds.length ≤ i := Nat.le_of_not_lt hi
    rw [List.getElem?_append_right (by simpa using hi')] at q
    have := List.mem_of_getElem? q
    simp at this
/-- THE RULE for a def: its denotation by its body's -/
theorem fn_den {x qual : Str} {st : Stmt} {f : Addr} {fd : FuncData} {N ps : List Str} {k : Nat} {body : FS} (F : Fun K x qual st f fd) (S : FnScope N ps (defScope st)) (hps : ps.length ≤ N.length)
    (hb : ∀ (cdv : Value) (A : Around) (outer : List Env) (s : Shared) (H : Hp) (E : XK), Room k (A.deeper (envOfC qual (defScope st) s.heap.objs.size f cdv)) →
      DSs (cxOf (L2.CX P w) P w K mg base N qual (defScope st) f cdv A outer s H E) (fun cls dd _ H' => E cls dd H') (defBody st) body) : FnOk P w K mg base (L2.CX P w) (k + 1) f fd ps (spD K mg ps.length (fnD N.length body)) := by
  refine F.okX S (fun vs H Q E h => ?_) fun cdv A outer s H vs Q E hr h => ?_
  · obtain ⟨cg, ds, g, h1, h2, h3, h4⟩ := h
    rw [h3.length, h1]
  · obtain ⟨cg, ds, g, h1, h2, h3, h4⟩ := h
    refine ⟨_, pss_w, hb cdv A outer s H E hr ⟨cg, []⟩ _ ⟨g, []⟩ _ H _ h2 (Slo.start (N := N) h3 (by omega)) ?_⟩
    unfold fnD at h4
    cases q : body (ds.map some ++ List.replicate (N.length - ds.length) none) ⟨g, []⟩ with
    | nx ρ m =>
      rw [q] at h4
      exact fun c' σ' H' g1 s1 => h4 c'.g .non H' (Gd.glob (c := ⟨cg, []⟩) g1) (VD.non.mpr rfl)
    | rt d m =>
      rw [q] at h4
      cases hn : nl d with
      | false => simp only [fin, hn, Bool.false_eq_true, if_false] at h4
      | true =>
        simp only [fin, hn, if_true] at h4
        exact fun c' v H' g1 hv => h4 c'.g v H' (Gd.glob (c := ⟨cg, []⟩) g1) (VD.nl d hv hn)
    | exc x ρ m =>
      rw [q] at h4
      cases hn : nls (x.fs.map (·.2)) with
      | false => simp only [fin, hn, Bool.false_eq_true, if_false] at h4
      | true =>
        simp only [fin, hn, if_true] at h4
        intro c' σ' cls dd H' g1 s1 hx
        refine h4 c'.g cls dd H' (Gd.glob (c := ⟨cg, []⟩) g1) ?_
        obtain ⟨C, e1, e2, e3⟩ := hx
        refine ⟨C, e1, e2, e3.imp (fun z => z) ?_⟩
        rintro ⟨dx, vs, q1, q2, q3, q4⟩
        exact ⟨dx, vs, q1, q2, q3, VDs.nl _ q4 hn⟩
    | bk ρ m => rw [q] at h4; exact h4.elim
    | ct ρ m => rw [q] at h4; exact h4.elim
    | stuck => rw [q] at h4; exact h4.elim
end
def callR (den : Den) (ds : List D) (m : Store) : Res D := if nls ds then (den ds m.g).res m.l else .stuck
def callE (den : Den) (fl : FI) : FE := fun ρ m => (fl ρ m).bind fun ds m1 => callR den ds m1
section
variable {X : Cx} {W : WX} {a b e tg iter : Expr} {es : List Expr} {fa fb f : FE} {pos p : Pos} {c c' : Anc} {ρ : Rho} {m m' : Store} {σ : St} {H H' : Hp} {k n : Nat} {fn : Addr} {fd : FuncData} {ps : List Str} {den : Den} {x : Str} {fl : FI}
theorem callR_sp {vs : List V} {ds : List D} {Q : VK} (r : RelS X.K c m H) (hv : VDs X.K H c vs ds) (hl : ds.length = n) (w : Want X W c H σ (callR den ds m) Q) : spD X.K X.mg n den vs H Q (L2.WE W σ) := by
  unfold callR at w
  cases hn : nls ds with
  | false => rw [hn] at w; exact w.elim
  | true =>
    rw [hn] at w
    refine ⟨c.g, ds, m.g, hl, r.glob, VDs.nl ds hv hn, ?_⟩
    change Want X W c H σ ((den ds m.g).res m.l) Q at w
    cases q : den ds m.g with
    | ok d g' =>
      rw [q] at w
      intro cg' v H' g1 hv1
      have up : Pre ⟨cg', []⟩ ⟨cg', c.l⟩ := ⟨List.prefix_refl _, List.nil_prefix⟩
      exact w ⟨cg', c.l⟩ v H' (Gd.back r g1) (VD.mono (Ext.refl _) up d hv1)
    | exc x g' =>
      rw [q] at w
      intro cg' cls dd H' g1 hx
      have up : Pre ⟨cg', []⟩ ⟨cg', c.l⟩ := ⟨List.prefix_refl _, List.nil_prefix⟩
      refine w ⟨cg', c.l⟩ cls dd H' (Gd.back r g1) ?_
      obtain ⟨C, e1, e2, e3⟩ := hx
      refine ⟨C, e1, e2, e3.imp (fun z => z) ?_⟩
      rintro ⟨dx, vs, q1, q2, q3, q4⟩
      exact ⟨dx, vs, q1, q2, q3, VDs.mono (Ext.refl _) up _ q4⟩
    | stuck => rw [q] at w; exact w.elim
/-- lists of arguments have a length that is written -/
def lenA (n : Nat) (fl : FI) : Prop := ∀ ρ m ds m', fl ρ m = .ok ds m' → ds.length = n
theorem lenA_nil : lenA 0 nilA := fun ρ m ds m' e => by cases e; rfl
theorem lenA_cons {n : Nat} {f : FE} {g : FI} (h : lenA n g) : lenA (n + 1) (consA f g) := fun ρ m ds m' e => by
  unfold consA at e
  cases q : f ρ m with
  | ok d m1 =>
    simp only [q, Res.bind] at e
    cases q2 : g ρ m1 with
    | ok ds' m2 =>
      simp only [q2, Res.bind] at e
      cases e
      simp [h _ _ _ _ q2]
    | exc => simp only [q2, Res.bind] at e; cases e
    | stuck => simp only [q2, Res.bind] at e; cases e
  | exc => simp only [q, Res.bind] at e; cases e
  | stuck => simp only [q, Res.bind] at e; cases e
theorem de_call (F : FnOk X.prog X.w X.K X.mg X.base (L2.CX X.prog X.w) k fn fd ps (spD X.K X.mg n den)) (hr : Room k X.A) (hm : X.mg x = some (.ref fn)) (hk : PySem.W.keepIn X.K (.ref fn) = true) (hb : Binds X.K fd ps []) (tk : Takes X W) (ha : DA X W (e :: es) fl) (hl : lenA n fl)
    (hg : Gl X x := by rfl) (hdb : (x == ("__debug__" : Str)) = false := by decide) (he : starEach (e :: es) X.env = (false, eval e X.env) :: starEach es X.env := by rfl) (hpl : (backTo pos (starEach es X.env)).any (·.1) = false := by rfl) :
    DE X W (.Call (.Name x p) (e :: es) [] pos) (callE den fl) := fun c ρ m σ H Q r s w =>
  we_of (pe_callSD F hr hg hm hk hb .nil (fun σ => passAt tk σ) pa_w hdb he hpl) (by
    refine ha c ρ m σ H _ r s ?_
    unfold callE at w
    cases q : fl ρ m with
    | ok ds m1 =>
      rw [q] at w
      intro c1 vs H1 g1 hv
      rw [List.append_nil]
      exact callR_sp g1.rel hv (hl _ _ _ _ q) (Want.shift g1 w)
    | exc x m1 => rw [q] at w; exact w
    | stuck => rw [q] at w; exact w)
theorem de_call0 (F : FnOk X.prog X.w X.K X.mg X.base (L2.CX X.prog X.w) k fn fd ps (spD X.K X.mg 0 den)) (hr : Room k X.A) (hm : X.mg x = some (.ref fn)) (hk : PySem.W.keepIn X.K (.ref fn) = true) (hb : Binds X.K fd ps []) (tk : Takes X W)
    (hg : Gl X x := by rfl) (hdb : (x == ("__debug__" : Str)) = false := by decide) : DE X W (.Call (.Name x p) [] [] pos) (callE den nilA) := fun c ρ m σ H Q r s w pins st I => by
  refine wpAny_Call_Name_kw (ld_glob I hg hm ?_ hdb)
  refine PySem.W.callWith_K0 I.kIn hk (run_fnSD (us := []) (vs := []) (E := L2.WE W) F hr hb .nil (passAt tk σ) I .nil ?_)
  exact callR_sp (ds := []) r (by unfold VDs; rfl) rfl w
/-! ### op= at a name and at an item -/
def augS (i : Nat) (g : D → D → Store → OD) (f : FE) : FS := fun ρ m => match ρ[i]? with
  | some (some d) => (f ρ m).bindS ρ fun y m1 => match g d y m1 with
    | some (z, m2) => .nx (ρ.set i (some z)) m2
    | none => .stuck
  | _ => .stuck
theorem ds_aug (i : Nat) {op : Operator} {g : D → D → Store → OD} {pos' : Pos} (hN : X.N.Nodup) (ho : PIp X op (rOf X.K g)) (he : DE X W e f) (hi : X.N[i]? = some x := by rfl) (hx : Loc X.env.scope x := by first | exact Or.inl rfl | exact Or.inr rfl) (hf : X.fn x = true ∨ X.env.scope.names.lookup x = some .local := by first | exact .inl rfl | exact .inr rfl | assumption) :
    DS X W (.AugAssign (.Name x pos') op e pos) (augS i g f) := fun c ρ m σ H En r s w => by
  unfold augS at w
  split at w
  · rename_i d q
    obtain ⟨v, h1, h2⟩ := s.at_ i d q
    refine wst_of (ps_aug hN hi hx pe_w ho hf) ⟨v, h1, he.thenS r s w fun y m1 c1 vy H1 r1 s1 g1 hy w1 => ?_⟩
    refine ⟨c1, m1, d, y, r1, g1.vd h2, hy, ?_⟩
    cases q2 : g d y m1 with
    | none => rw [q2] at w1; exact w1.elim
    | some zz =>
      obtain ⟨z, m2⟩ := zz
      rw [q2] at w1
      exact fun c2 vz H2 g2 hz => w1 c2 _ H2 g2 ((g2.slots s1).set i hz)
  · exact w.elim
end
end L2.Dn
namespace L2.Dn
open PySem PySem.Spec PyProof.Rows L2
/-! ### defs that are called where nothing is being shown -/
structure FnG (P : Program) (w : World) (K : PySem.W.Frag) (mg : Str → Option Value) (base : Heap) (k : Nat) (f : Addr) (fd : FuncData) (ps : List Str) (sp : Sp) : Prop where
  len : ∀ vs H Q E, sp vs H Q E → vs.length = ps.length
  go : ∀ (A : Around) (outer : List Env) (s : Shared) (H : Hp) (as : Args) (us : List Value) (vs : List V) (Q : VK) (E : XK), A.guards = some [] → Room k A →
    Env0 P w K mg base A outer s H → BindsTo s fd as (ps.zip us) → Vals vs us → sp vs H Q E →
    codeAny (model P w) A (.call (.ref f) as) (CR (L2.CX P w) outer P w H s Q E) s
theorem FnG.of {P : Program} {w : World} {K : PySem.W.Frag} {mg : Str → Option Value} {base : Heap} {k : Nat} {f : Addr} {fd : FuncData} {ps : List Str} {sp : Sp} (F : FnOk P w K mg base (L2.CX P w) k f fd ps sp) : FnG P w K mg base k f fd ps sp :=
  ⟨F.len, fun A outer s H as us vs Q E _ hr e b r h => F.run A outer s H as us vs Q E hr e b r h⟩
section
variable {P : Program} {w : World} {K : PySem.W.Frag} {mg : Str → Option Value} {base : Heap}
/-- a def by its body, where nothing is being shown around it -/
theorem fn_g {x qual : Str} {st : Stmt} {f : Addr} {fd : FuncData} {N ps : List Str} {k : Nat} {sp : Sp} (F : Fun K x qual st f fd) (S : FnScope N ps (defScope st)) (hlen : ∀ vs H Q E, sp vs H Q E → vs.length = ps.length)
    (hb : ∀ (cdv : Value) (A : Around) (outer : List Env) (s : Shared) (H : Hp) (vs : List V) (Q : VK) (E : XK), A.guards = some [] → Room k (A.deeper (envOfC qual (defScope st) s.heap.objs.size f cdv)) → sp vs H Q E →
      ∃ t, PSs (cxOf (L2.CX P w) P w K mg base N qual (defScope st) f cdv A outer s H E) (defBody st) t ∧ t ⟨fun _ H' => Q .non H', Q, fun _ _ => False, fun _ _ => False⟩ (start N vs) H) :
    FnG P w K mg base (k + 1) f fd ps sp := by
  obtain ⟨oc, od, kV, doc, pm, an, cdv, ct, osl, rfl, lk, hcd⟩ := F.ex
  refine ⟨hlen, fun A outer s H as us vs Q E hg hr env bd rl want => ?_⟩
  have stay : ∀ b o, base.get? b = some o → s.heap.get? b = some o := fun b o h => (env.bs b o h).1
  have kin : K.In s.heap := env.mod.kin.keeps stay
  refine codeAny_call_function hr.depth (kin _ _ lk) rfl S.co S.gen rfl (PySem.W.codeRec_of kin hcd) (bd _ _ _ _ ?_)
  refine wpAny_newFunctionEnv_cells S.kind (fun y hy => ?_) fun ev hev s1 ic => ?_
  · rcases S.par y.1 (List.of_mem_zip (show (y.1, y.2) ∈ ps.zip us from hy)).1 with q | q
    · exact Or.inl q
    · exact Or.inr ⟨q, PySem.W.cellsFrom_some _ _ _ (Or.inl q)⟩
  subst hev
  refine ⟨(env.mod.nolimit.keeps stay).keeps ic.toInCall.keep, codeAny_func ?_⟩
  obtain ⟨t, ht, q⟩ := hb cdv A outer s H vs Q E hg (hr.deeper _) want
  have J0 := inv_start (CX := L2.CX P w) (E := E) S hr.hd env (hlen _ _ _ _ want) rl ic
  refine wpAny_mono (ht.run [] s1 _ H _ J0 q) (fun fl s' out => ?_) fun _ _ z => z
  cases fl with
  | next => obtain ⟨_, H', J, z⟩ := out; exact ⟨.non, H', J.os, J.bare, J.base, J.hok, rfl, z⟩
  | ret u => obtain ⟨v, _, H', J, rv, z⟩ := out; exact ⟨v, H', J.os, J.bare, J.base, J.hok, rv, z⟩
  | brk => obtain ⟨_, _, _, z⟩ := out; exact z.elim
  | cont => obtain ⟨_, _, _, z⟩ := out; exact z.elim
theorem fn_denG {x qual : Str} {st : Stmt} {f : Addr} {fd : FuncData} {N ps : List Str} {k n np : Nat} {body : FS} (F : Fun K x qual st f fd) (S : FnScope N ps (defScope st)) (hN : N.length = n) (hp : ps.length = np) (hps : np ≤ n)
    (hb : ∀ (cdv : Value) (A : Around) (outer : List Env) (s : Shared) (H : Hp) (E : XK), A.guards = some [] → Room k (A.deeper (envOfC qual (defScope st) s.heap.objs.size f cdv)) →
      DSs (cxOf (L2.CX P w) P w K mg base N qual (defScope st) f cdv A outer s H E) (fun cls dd _ H' => E cls dd H') (defBody st) body) : FnG P w K mg base (k + 1) f fd ps (spD K mg np (fnD n body)) := by
  subst hN hp
  refine fn_g F S (fun vs H Q E h => ?_) fun cdv A outer s H vs Q E hg hr h => ?_
  · obtain ⟨cg, ds, g, h1, h2, h3, h4⟩ := h
    rw [h3.length, h1]
  · obtain ⟨cg, ds, g, h1, h2, h3, h4⟩ := h
    refine ⟨_, pss_w, hb cdv A outer s H E hg hr ⟨cg, []⟩ _ ⟨g, []⟩ _ H _ h2 (Slo.start (N := N) h3 (by omega)) ?_⟩
    unfold fnD at h4
    cases q : body (ds.map some ++ List.replicate (N.length - ds.length) none) ⟨g, []⟩ with
    | nx ρ m =>
      rw [q] at h4
      exact fun c' σ' H' g1 s1 => h4 c'.g .non H' (Gd.glob (c := ⟨cg, []⟩) g1) (VD.non.mpr rfl)
    | rt d m =>
      rw [q] at h4
      cases hn : nl d with
      | false => simp only [fin, hn, Bool.false_eq_true, if_false] at h4
      | true =>
        simp only [fin, hn, if_true] at h4
        exact fun c' v H' g1 hv => h4 c'.g v H' (Gd.glob (c := ⟨cg, []⟩) g1) (VD.nl d hv hn)
    | exc x ρ m =>
      rw [q] at h4
      cases hn : nls (x.fs.map (·.2)) with
      | false => simp only [fin, hn, Bool.false_eq_true, if_false] at h4
      | true =>
        simp only [fin, hn, if_true] at h4
        intro c' σ' cls dd H' g1 s1 hx
        refine h4 c'.g cls dd H' (Gd.glob (c := ⟨cg, []⟩) g1) ?_
        obtain ⟨C, e1, e2, e3⟩ := hx
        refine ⟨C, e1, e2, e3.imp (fun z => z) ?_⟩
        rintro ⟨dx, vs, q1, q2, q3, q4⟩
        exact ⟨dx, vs, q1, q2, q3, VDs.nl _ q4 hn⟩
    | bk ρ m => rw [q] at h4; exact h4.elim
    | ct ρ m => rw [q] at h4; exact h4.elim
    | stuck => rw [q] at h4; exact h4.elim
end
section
variable {X : Cx} {W : WX} {a b e tg iter : Expr} {es : List Expr} {fa fb f : FE} {pos p : Pos} {c c' : Anc} {ρ : Rho} {m m' : Store} {σ : St} {H H' : Hp} {k n : Nat} {fn : Addr} {fd : FuncData} {ps : List Str} {den : Den} {x : Str} {fl : FI}
theorem run_g {sp : Sp} {pins : List (Addr × Obj)} {s : Shared} {Q : VK} {us : List Value} {vs : List V} (F : FnG X.prog X.w X.K X.mg X.base k fn fd ps sp) (hG : X.A.guards = some []) (hr : Room k X.A) (hb : Binds X.K fd ps []) (tk : Takes X W)
    (I : Inv X pins σ H s) (r : Vals vs us) (h : sp vs H Q (L2.WE W σ)) : wpAny (model X.prog X.w) X.A (call (.ref fn) us) (EP X pins σ Q) X.xe s := by
  have hl : us.length = ps.length := by rw [← r.length]; exact F.len _ _ _ _ h
  have bd := hb s us I.kIn (by rw [List.append_nil]; exact hl)
  rw [List.append_nil] at bd
  refine wpAny_call (codeAny_mono (F.go X.A X.stack s H ⟨us, []⟩ us vs Q (L2.WE W σ) hG hr I.env0 bd r h) fun out s' q => ?_)
  match out, q with
  | .error e, q => exact passAt tk σ pins H s e s' I q
  | .ok (.ret u), q => exact I.after q
theorem de_callG (F : FnG X.prog X.w X.K X.mg X.base k fn fd ps (spD X.K X.mg n den)) (hG : X.A.guards = some []) (hr : Room k X.A) (hm : X.mg x = some (.ref fn)) (hk : PySem.W.keepIn X.K (.ref fn) = true) (hb : Binds X.K fd ps []) (tk : Takes X W) (ha : DA X W (e :: es) fl) (hl : lenA n fl)
    (hg : Gl X x := by rfl) (hdb : (x == ("__debug__" : Str)) = false := by decide) (he : starEach (e :: es) X.env = (false, eval e X.env) :: starEach es X.env := by rfl) (hpl : (backTo pos (starEach es X.env)).any (·.1) = false := by rfl) :
    DE X W (.Call (.Name x p) (e :: es) [] pos) (callE den fl) := fun c ρ m σ H Q r s w pins st I => by
  have args : WA X (e :: es) σ H (fun vs H1 => spD X.K X.mg n den vs H1 Q (L2.WE W σ)) := by
    refine ha c ρ m σ H _ r s ?_
    unfold callE at w
    cases q : fl ρ m with
    | ok ds m1 =>
      rw [q] at w
      exact fun c1 vs H1 g1 hv => callR_sp g1.rel hv (hl _ _ _ _ q) (Want.shift g1 w)
    | exc x m1 => rw [q] at w; exact w
    | stuck => rw [q] at w; exact w
  refine wpAny_Call_Name_kw (ld_glob I hg hm (PySem.W.callWith_K (h₀ := X.base) I.ok.mod.kin hk ?_ he hpl) hdb)
  exact thn (args pos pins st I) fun us s1 ⟨vs, H1, I1, r1, q⟩ => ⟨I1.kIn, run_g F hG hr hb tk I1 r1 q⟩
theorem de_callG0 (F : FnG X.prog X.w X.K X.mg X.base k fn fd ps (spD X.K X.mg 0 den)) (hG : X.A.guards = some []) (hr : Room k X.A) (hm : X.mg x = some (.ref fn)) (hk : PySem.W.keepIn X.K (.ref fn) = true) (hb : Binds X.K fd ps []) (tk : Takes X W)
    (hg : Gl X x := by rfl) (hdb : (x == ("__debug__" : Str)) = false := by decide) : DE X W (.Call (.Name x p) [] [] pos) (callE den nilA) := fun c ρ m σ H Q r s w pins st I => by
  refine wpAny_Call_Name_kw (ld_glob I hg hm ?_ hdb)
  refine PySem.W.callWith_K0 I.kIn hk (run_g (us := []) (vs := []) F hG hr hb tk I .nil ?_)
  exact callR_sp (ds := []) r (by unfold VDs; rfl) rfl w
end
end L2.Dn
namespace L2.Dn
open PySem PySem.Spec PyProof.Rows L2
/-! ### data as they lie in the machine's heap, dicts among them -/
mutual
inductive Rds (h : Heap) : Value → PyData → Prop
  | none : Rds h .none .none
  | bool (b) : Rds h (.bool b) (.bool b)
  | int (i t) : Rds h (.int i t) (.int i)
  | str (x t) : Rds h (.str x t) (.str x)
  | list {a o vs n xs} : h.get? a = some o → o.cls = .type "list" → o.data = .seq vs n → RdsA h vs.toList xs → Rds h (.ref a) (.list xs)
  | tuple {a o vs n xs} : h.get? a = some o → o.cls = .type "tuple" → o.data = .seq vs n → RdsA h vs.toList xs → Rds h (.ref a) (.tuple xs)
  | dict {a o es n ks} : (a == sysModules) = false → h.get? a = some o → o.cls = .type "dict" → o.data = .dict es n → RdsA h (es.toList.map (·.key)) (ks.map (·.1)) → RdsA h (es.toList.map (·.val)) (ks.map (·.2)) → Rds h (.ref a) (.dict ks)
inductive RdsA (h : Heap) : List Value → List PyData → Prop
  | nil : RdsA h [] []
  | cons {v vs d ds} : Rds h v d → RdsA h vs ds → RdsA h (v :: vs) (d :: ds)
end
mutual
theorem Rds.reads {h : Heap} : ∀ {v : Value} {d : PyData}, Rds h v d → ∃ as, Reads h v d as
  | _, _, .none => ⟨_, .none⟩
  | _, _, .bool b => ⟨_, .bool b⟩
  | _, _, .int i t => ⟨_, .int i t⟩
  | _, _, .str x t => ⟨_, .str x t⟩
  | _, _, .list h1 h2 h3 h4 => let ⟨_, r⟩ := RdsA.reads h4; ⟨_, .list h1 h2 h3 r⟩
  | _, _, .tuple h1 h2 h3 h4 => let ⟨_, r⟩ := RdsA.reads h4; ⟨_, .tuple h1 h2 h3 r⟩
  | _, _, .dict _ h1 h2 h3 h4 h5 => let ⟨_, r⟩ := RdsA.reads h4; let ⟨_, q⟩ := RdsA.reads h5; ⟨_, .dict h1 h2 h3 r q⟩
theorem RdsA.reads {h : Heap} : ∀ {vs : List Value} {ds : List PyData}, RdsA h vs ds → ∃ as, ReadsAll h vs ds as
  | _, _, .nil => ⟨_, .nil⟩
  | _, _, .cons r q => let ⟨_, x⟩ := Rds.reads r; let ⟨_, y⟩ := RdsA.reads q; ⟨_, .cons x y⟩
end
section
variable {P : Program} {w : World} {h : Heap}
mutual
theorem Rds.shows : ∀ {v : Value} {d : PyData}, Rds h v d → d.showable = true → d.shown.length ≤ sizeLine → ∃ bs, ReadAtMost h d.depth bs ∧ ReprK P w bs h d.depth v d.shown
  | _, _, .none, _, _ => ⟨[], (fun _ z => nomatch z), ReprK.of_is (by simpa only [PyData.shown] using ReprIs.none) _ _ _⟩
  | _, _, .bool b, _, _ => ⟨[], (fun _ z => nomatch z), ReprK.of_is (by simpa only [PyData.shown] using ReprIs.bool b) _ _ _⟩
  | _, _, .int i t, s, _ => ⟨[], (fun _ z => nomatch z), ReprK.of_is (by simpa only [PyData.shown] using ReprIs.int t (by simpa [PyData.showable] using s)) _ _ _⟩
  | _, _, .str x t, _, z => ⟨[], (fun _ z => nomatch z), ReprK.of_is (by simpa only [PyData.shown] using ReprIs.str x t (by simpa only [PyData.shown] using z)) _ _ _⟩
  | _, _, .list (vs := vs) h1 h2 h3 h4, s, z => by
    simp only [PyData.shown] at z
    obtain ⟨bs, hb, hk⟩ := RdsA.shows h4 (by simpa [PyData.showable] using s) fun t m => Nat.le_trans (listText_mem_le m) z
    obtain ⟨as, ra⟩ := RdsA.reads h4
    have whole := Reads.list h1 h2 h3 ra
    have out := not_mem_of_deeper whole (Nat.lt_succ_self _) hb
    refine ⟨_ :: bs, ReadAtMost.cons whole (Nat.le_succ _) hb, ?_⟩
    simp only [PyData.depth, PyData.shown]
    obtain ⟨l⟩ := vs
    cases l with
    | nil =>
      have h4' : RdsA h [] _ := h4
      cases h4'
      rw [PyData.shownAll, listText_nil]
      exact .listEmpty h1 h2 h3
    | cons x l => exact .list h1 h2 h3 out (by simpa using hk.length_eq) fun i y q => hk.item i y (by simpa using q)
  | _, _, .tuple h1 h2 h3 h4, s, z => by
    simp only [PyData.shown] at z
    obtain ⟨bs, hb, hk⟩ := RdsA.shows h4 (by simpa [PyData.showable] using s) fun t m => Nat.le_trans (tupleText_mem_le m) z
    obtain ⟨as, ra⟩ := RdsA.reads h4
    have whole := Reads.tuple h1 h2 h3 ra
    refine ⟨_ :: bs, ReadAtMost.cons whole (Nat.le_succ _) hb, ?_⟩
    simp only [PyData.depth, PyData.shown]
    exact .tuple h1 h2 h3 (not_mem_of_deeper whole (Nat.lt_succ_self _) hb) hk
  | _, _, .dict (es := es) (ks := ks) h0 h1 h2 h3 h4 h5, s, z => by
    simp only [PyData.shown] at z
    obtain ⟨s1, s2⟩ := PyData.showableKv_split ks (by simpa [PyData.showable] using s)
    obtain ⟨b1, r1, k1⟩ := RdsA.shows h4 s1 fun t m => by
      obtain ⟨p, hp, hl⟩ := PyData.shownKv_key_le ks t m
      exact Nat.le_trans hl (Nat.le_trans (dictText_mem_le hp) z)
    obtain ⟨b2, r2, k2⟩ := RdsA.shows h5 s2 fun t m => by
      obtain ⟨p, hp, hl⟩ := PyData.shownKv_val_le ks t m
      exact Nat.le_trans hl (Nat.le_trans (dictText_mem_le hp) z)
    obtain ⟨as, ra⟩ := RdsA.reads h4
    obtain ⟨cs, rc⟩ := RdsA.reads h5
    have whole := Reads.dict h1 h2 h3 ra rc
    have hb := (r1.mono (PyData.depthAll_keys_le ks)).append (r2.mono (PyData.depthAll_vals_le ks))
    refine ⟨_ :: (b1 ++ b2), ReadAtMost.cons whole (Nat.le_succ _) hb, ?_⟩
    simp only [PyData.depth, PyData.shown, PyData.shownKv_eq]
    refine .dict h1 h2 h3 h0 (not_mem_of_deeper whole (Nat.lt_succ_self _) hb) (ReprEntriesK.of_two es.toList _ _ ?_ ?_)
    · exact k1.more_le (fun b m => List.mem_append_left _ m) (PyData.depthAll_keys_le ks)
    · exact k2.more_le (fun b m => List.mem_append_right _ m) (PyData.depthAll_vals_le ks)
theorem RdsA.shows : ∀ {vs : List Value} {ds : List PyData}, RdsA h vs ds → PyData.showableAll ds = true → (∀ t ∈ PyData.shownAll ds, t.length ≤ sizeLine) → ∃ bs, ReadAtMost h (PyData.depthAll ds) bs ∧ ReprAllK P w bs h (PyData.depthAll ds) vs (PyData.shownAll ds)
  | _, _, .nil, _, _ => ⟨[], (fun _ z => nomatch z), by rw [PyData.shownAll]; exact .nil⟩
  | _, _, .cons (d := d) (ds := ds) r q, s, z => by
    simp only [PyData.showableAll, Bool.and_eq_true] at s
    simp only [PyData.shownAll] at z ⊢
    obtain ⟨b1, r1, k1⟩ := Rds.shows r s.1 (z _ List.mem_cons_self)
    obtain ⟨b2, r2, k2⟩ := RdsA.shows q s.2 fun t m => z t (List.mem_cons_of_mem _ m)
    have d1 : d.depth ≤ PyData.depthAll (d :: ds) := by simp only [PyData.depthAll]; exact Nat.le_max_left _ _
    have d2 : PyData.depthAll ds ≤ PyData.depthAll (d :: ds) := by simp only [PyData.depthAll]; exact Nat.le_max_right _ _
    exact ⟨b1 ++ b2, (r1.mono d1).append (r2.mono d2), .cons ((k1.more fun b m => List.mem_append_left _ m).level_le d1) (k2.more_le (fun b m => List.mem_append_right _ m) d2)⟩
end
/-- repr(v) -/
theorem Rds.call {A : Around} {E : Value → Shared → Prop} {s : Shared} {Q : Value → Shared → Prop} {v : Value} {d : PyData} (r : Rds s.heap v d) (hs : d.showable = true) (hz : d.shown.length ≤ sizeLine) (hg : A.guards = some []) (hu : A.units + (d.depth + 1) < cLine)
    (hQ : ∀ h' u tk, (∀ b o, s.heap.get? b = some o → h'.get? b = some o) → Q (.str d.shown u) { s with heap := h', toks := tk }) : wpAny (model P w) A (call (.builtin "repr") [v]) Q E s := by
  have hu1 : A.units + 1 < cLine := by omega
  have clr : ∀ {bs : List Addr}, ∀ b ∈ bs, Clear [] b := fun b _ => Clear.nil b
  cases r with
  | none => simp only [PyData.shown] at hQ; exact PySem.P.repr_of_none (hQ s.heap _ _ fun _ _ e => e)
  | bool b => simp only [PyData.shown] at hQ; exact PySem.P.repr_of_bool (hQ s.heap _ _ fun _ _ e => e)
  | int i t => simp only [PyData.shown] at hQ; exact PySem.P.repr_of_int (by simpa [PyData.showable] using hs) (hQ s.heap _ _ fun _ _ e => e)
  | str x t => simp only [PyData.shown] at hQ hz; exact PySem.P.repr_of_str (hQ s.heap _ _ fun _ _ e => e) hz
  | @list a o vs n xs h1 h2 h3 h4 =>
    simp only [PyData.shown] at hQ hz
    simp only [PyData.depth] at hu
    obtain ⟨bs, hb, hk⟩ := RdsA.shows (P := P) (w := w) h4 (by simpa [PyData.showable] using hs) fun t m => Nat.le_trans (listText_mem_le m) hz
    obtain ⟨as, ra⟩ := RdsA.reads h4
    have out := not_mem_of_deeper (Reads.list h1 h2 h3 ra) (Nat.lt_succ_self _) hb
    refine call_repr_slot hu1 ⟨o, h1, h2⟩ F.slot_list_repr.toG ?_
    obtain ⟨l⟩ := vs
    cases l with
    | nil =>
      have h4' : RdsA s.heap [] xs := h4
      cases h4'
      rw [PyData.shownAll, listText_nil] at hQ
      exact call_list_repr_empty ⟨o, h1, h2⟩ h1 h3 ⟨_, _, rfl, hQ s.heap _ _ fun _ _ e => e⟩
    | cons x l =>
      refine call_list_reprK h1 h2 h3 out (by simpa using hk.length_eq) (fun i y q => hk.item i y (by simpa using q)) (A := A.in1) hg clr ?_ (fun _ _ e => e) (fun h' u tk k => ⟨_, _, rfl, hQ h' u tk k⟩) hz
      show A.units + 1 + _ < cLine
      omega
  | @tuple a o vs n xs h1 h2 h3 h4 =>
    simp only [PyData.shown] at hQ hz
    simp only [PyData.depth] at hu
    obtain ⟨bs, hb, hk⟩ := RdsA.shows (P := P) (w := w) h4 (by simpa [PyData.showable] using hs) fun t m => Nat.le_trans (tupleText_mem_le m) hz
    obtain ⟨as, ra⟩ := RdsA.reads h4
    have out := not_mem_of_deeper (Reads.tuple h1 h2 h3 ra) (Nat.lt_succ_self _) hb
    refine call_repr_slot hu1 ⟨o, h1, h2⟩ F.slot_tuple_repr ?_
    refine call_tuple_reprK h1 h2 h3 out hk (A := A.in1) hg clr ?_ (fun _ _ e => e) (fun h' u tk k => ⟨_, _, rfl, hQ h' u tk k⟩) hz
    show A.units + 1 + _ < cLine
    omega
  | @dict a o es n ks h0 h1 h2 h3 h4 h5 =>
    simp only [PyData.shown] at hQ hz
    simp only [PyData.depth] at hu
    obtain ⟨s1, s2⟩ := PyData.showableKv_split ks (by simpa [PyData.showable] using hs)
    obtain ⟨b1, r1, k1⟩ := RdsA.shows (P := P) (w := w) h4 s1 fun t m => by
      obtain ⟨p, hp, hl⟩ := PyData.shownKv_key_le ks t m
      exact Nat.le_trans hl (Nat.le_trans (dictText_mem_le hp) hz)
    obtain ⟨b2, r2, k2⟩ := RdsA.shows (P := P) (w := w) h5 s2 fun t m => by
      obtain ⟨p, hp, hl⟩ := PyData.shownKv_val_le ks t m
      exact Nat.le_trans hl (Nat.le_trans (dictText_mem_le hp) hz)
    obtain ⟨as, ra⟩ := RdsA.reads h4
    obtain ⟨cs, rc⟩ := RdsA.reads h5
    have hb := (r1.mono (PyData.depthAll_keys_le ks)).append (r2.mono (PyData.depthAll_vals_le ks))
    have out := not_mem_of_deeper (Reads.dict h1 h2 h3 ra rc) (Nat.lt_succ_self _) hb
    rw [PyData.shownKv_eq] at hz
    simp only [PyData.shownKv_eq] at hQ
    refine call_repr_slot hu1 ⟨o, h1, h2⟩ F.slot_dict_repr ?_
    refine call_dict_reprK h1 h2 h3 h0 out (ReprEntriesK.of_two es.toList _ _ (k1.more_le (fun b m => List.mem_append_left _ m) (PyData.depthAll_keys_le ks)) (k2.more_le (fun b m => List.mem_append_right _ m) (PyData.depthAll_vals_le ks))) (A := A.in1) hg clr ?_ (fun _ _ e => e) (fun h' u tk k => ⟨_, _, rfl, hQ h' u tk k⟩) hz
    show A.units + 1 + _ < cLine
    omega
end
/-! ### data as the layer tracks them -/
mutual
inductive DpA (K : PySem.W.Frag) (H : Hp) : V → PyData → Prop
  | non : DpA K H .non .none
  | bl (b : Bool) : DpA K H (.bl b) (.bool b)
  | int (i : Int) : DpA K H (.int i) (.int i)
  | str (x : Str) : DpA K H (.str x) (.str x)
  | lst {a : Addr} {xs : List V} {ds : List PyData} : RdL K H a xs → DpAs K H xs ds → DpA K H (.ref a) (.list ds)
  | tup {a : Addr} {xs : List V} {ds : List PyData} : SqT K H a xs → DpAs K H xs ds → DpA K H (.ref a) (.tuple ds)
  | dK {a : Addr} {kvs : List (Key × V)} {ds : List (PyData × PyData)} : Rd H a (.dK kvs) → ds.map (·.1) = kvs.map (fun q => keyP q.1) → DpAs K H (kvs.map (·.2)) (ds.map (·.2)) → DpA K H (.ref a) (.dict ds)
inductive DpAs (K : PySem.W.Frag) (H : Hp) : List V → List PyData → Prop
  | nil : DpAs K H [] []
  | cons {v : V} {vs : List V} {d : PyData} {ds : List PyData} : DpA K H v d → DpAs K H vs ds → DpAs K H (v :: vs) (d :: ds)
end
mutual
theorem DpZ.any {K : PySem.W.Frag} {H : Hp} : ∀ {v : V} {d : PyData}, DpZ K H v d → DpA K H v d
  | _, _, .non => .non
  | _, _, .bl b => .bl b
  | _, _, .int i => .int i
  | _, _, .str x => .str x
  | _, _, .lst h r => .lst h.rd (DpZs.any r)
  | _, _, .tup h r => .tup h (DpZs.any r)
  | _, _, .dK h q r => .dK (.inr ⟨_, h⟩) q (DpZs.any r)
theorem DpZs.any {K : PySem.W.Frag} {H : Hp} : ∀ {vs : List V} {ds : List PyData}, DpZs K H vs ds → DpAs K H vs ds
  | _, _, .nil => .nil
  | _, _, .cons h r => .cons (DpZ.any h) (DpZs.any r)
end
section
variable {X : Cx} {pins : List (Addr × Obj)} {σ : St} {H : Hp} {s : Shared}
theorem pairs_rds {P : Program} {w : World} {h : Heap} {es : List DictEntry} {vs : List (Key × Value)} (p : Pairs (mixKind P w) es vs) : ∀ {kvs : List (Key × V)}, KV kvs vs → RdsA h (es.map (·.key)) (kvs.map fun q => keyP q.1) ∧ Vals (kvs.map (·.2)) (es.map (·.val)) := by
  induction p with
  | nil => intro kvs r; cases r; exact ⟨.nil, .nil⟩
  | @cons e q es vs h1 h2 _ ih =>
    intro kvs r
    cases r with
    | @cons p _ ps _ r1 r2 =>
      obtain ⟨i1, i2⟩ := ih r2
      have e1 : p.1 = q.1 := r1.1
      have e2 : RelV p.2 e.val := by rw [h2]; exact r1.2
      refine ⟨.cons ?_ i1, .cons e2 i2⟩
      show Rds h e.key (keyP p.1)
      rcases keyIs_shape (k := q.1) (v := e.key) h1 with ⟨i, t, ea, eb⟩ | ⟨y, t, ea, eb⟩
      · rw [e1, ea, eb]; exact .int i t
      · rw [e1, ea, eb]; exact .str y t
mutual
theorem DpA.rds (I : Inv X pins σ H s) : ∀ {v : V} {d : PyData} {u : Value}, DpA X.K H v d → RelV v u → Rds s.heap u d
  | _, _, u, .non, r => by cases r; exact .none
  | _, _, u, .bl b, r => by cases r; exact .bool b
  | _, _, u, .int i, r => by obtain ⟨t, rfl⟩ := r; exact .int i t
  | _, _, u, .str x, r => by obtain ⟨t, rfl⟩ := r; exact .str x t
  | _, _, u, .lst h q, r => by
    cases r
    obtain ⟨z, its, n, rv, e⟩ := h.obj I
    exact .list e rfl rfl (DpAs.rds I q (by simpa using rv))
  | _, _, u, .tup h q, r => by
    cases r
    obtain ⟨its, rv, ⟨o, e, hc, n, hd⟩, z⟩ := I.tuple h
    exact .tuple e hc hd (DpAs.rds I q (by simpa using rv))
  | _, _, u, .dK h e0 q, r => by
    cases r
    obtain ⟨z, hS, vs, kv, o, es, ep, e, ex, hd, _, p, _⟩ := h.ok I.hok
    obtain ⟨p1, p2⟩ := pairs_rds (h := s.heap) p kv
    exact .dict hS e ex.1 hd (by rw [e0]; exact p1) (DpAs.rds I q p2)
theorem DpAs.rds (I : Inv X pins σ H s) : ∀ {vs : List V} {ds : List PyData} {us : List Value}, DpAs X.K H vs ds → Vals vs us → RdsA s.heap us ds
  | _, _, us, .nil, r => by cases r; exact .nil
  | _, _, us, .cons h q, r => by
    cases r with
    | cons r1 r2 => exact .cons (DpA.rds I h r1) (DpAs.rds I q r2)
end
end
/-- the whole datum, through the cells -/
def deepAll (f : D → Option PyData) : List D → Option (List PyData)
  | [] => some []
  | d :: ds => match f d, deepAll f ds with
    | some x, some xs => some (x :: xs)
    | _, _ => none
def deep (m : Store) : Nat → D → Option PyData
  | _, .p d => some d
  | n + 1, .tup xs => (deepAll (deep m n) xs).map .tuple
  | n + 1, .lst xs => (deepAll (deep m n) xs).map .list
  | n + 1, .cell i => match m.at_ i with
    | some (.lst xs) => (deepAll (deep m n) xs).map .list
    | _ => none
  | _, _ => none
theorem deepAll_ok {K : PySem.W.Frag} {H : Hp} {c : Anc} {f : D → Option PyData} (hf : ∀ v d p, VD K H c v d → f d = some p → DpA K H v p) : ∀ (xs : List D) (vs : List V) (ps : List PyData), VDs K H c vs xs → deepAll f xs = some ps → DpAs K H vs ps
  | [], vs, ps, h, e => by
    cases e
    unfold VDs at h
    subst h
    exact .nil
  | d :: ds, vs, ps, h, e => by
    unfold VDs at h
    obtain ⟨v, r, e1, h1, h2⟩ := h
    subst e1
    unfold deepAll at e
    split at e
    · rename_i x xs q1 q2
      cases e
      exact .cons (hf v d x h1 q1) (deepAll_ok hf ds r xs h2 q2)
    · cases e
theorem deep_ok {K : PySem.W.Frag} {H : Hp} {c : Anc} {m : Store} (r : RelS K c m H) : ∀ (n : Nat) (v : V) (d : D) (p : PyData), VD K H c v d → deep m n d = some p → DpA K H v p
  | n, v, .p d, p, h, e => by
    have e : some d = some p := by cases n <;> exact e
    cases e
    unfold VD at h
    exact DpZ.any h
  | n + 1, v, .tup xs, p, h, e => by
    obtain ⟨a, vs, e1, h1, h2⟩ := tupOf_ok (ds := xs) h rfl
    simp only [deep, Option.map_eq_some_iff] at e
    obtain ⟨ps, q1, q2⟩ := e
    subst e1 q2
    exact .tup h1 (deepAll_ok (deep_ok r n) xs vs ps h2 q1)
  | n + 1, v, .lst xs, p, h, e => by
    obtain ⟨a, vs, e1, h1, h2⟩ := lstOf_ok (ds := xs) r h rfl
    simp only [deep, Option.map_eq_some_iff] at e
    obtain ⟨ps, q1, q2⟩ := e
    subst e1 q2
    exact .lst h1 (deepAll_ok (deep_ok r n) xs vs ps h2 q1)
  | n + 1, v, .cell i, p, h, e => by
    simp only [deep] at e
    split at e
    · rename_i xs hm
      simp only [Option.map_eq_some_iff] at e
      obtain ⟨ps, q1, q2⟩ := e
      obtain ⟨a, vs, e1, h1, h2⟩ := lstOf_ok (ds := xs) r h (by simp only [lstOf, hm])
      subst e1 q2
      exact .lst h1 (deepAll_ok (deep_ok r n) xs vs ps h2 q1)
    · cases e
  | n, v, .ty _, p, h, e => by cases n <;> cases e
  | 0, v, .tup _, p, h, e => by cases e
  | 0, v, .lst _, p, h, e => by cases e
  | 0, v, .cell _, p, h, e => by cases e
/-- the whole datum -/
def whole (m : Store) (d : D) : Option PyData := deep m 8 d
theorem whole_p (m : Store) (d : PyData) : whole m (.p d) = some d := rfl
/-! ### repr, ==, in -/
def reprD : List D → Store → OD
  | [d], m => match whole m d with
    | some p => if p.showable = true ∧ p.shown.length ≤ sizeLine ∧ p.depth ≤ 60 then some (.p (.str p.shown), m) else none
    | none => none
  | _, _ => none
def eqP (neg : Bool) (x y : D) (m : Store) : OD := match whole m x, whole m y with
  | some p, some q => if SeqAt.shaped p = true ∧ SeqAt.shaped q = true then some (.p (.bool (if neg then !PyData.eqv p q else PyData.eqv p q)), m) else none
  | _, _ => none
section
variable {X : Cx}
theorem call_repr (hG : X.A.guards = some []) (hu : X.A.units + 64 < cLine) : CallR X (.builtin "repr") (rOfL X.K reprD) := by
  intro pins s σ H xs us Q I rv h
  obtain ⟨c, m, ds, r, hv, w⟩ := h
  unfold reprD at w
  split at w
  · rename_i d
    obtain ⟨v, e1, hv1⟩ := VDs.onlyOne hv
    subst e1
    obtain ⟨u, rfl, ru⟩ := vals1 rv
    split at w
    · rename_i p hp
      split at w
      · rename_i hc
        have rd := DpA.rds I (deep_ok r 8 v d p hv1 hp) ru
        refine rd.call hc.1 hc.2.1 hG (by omega) fun h' t tk k => ?_
        exact ⟨.str p.shown, H, I.kept (t' := tk) k, ⟨t, rfl⟩, w.now r (VD.str.mpr rfl)⟩
      · exact w.elim
    · exact w.elim
  · exact w.elim
theorem op_eqP (hu : X.A.units + 64 < cLine) : OpR X (compareOp .Eq) (rOf X.K (eqP false)) := by
  intro pins s σ H x y v u Q I rx ry h
  obtain ⟨c, m, dx, dy, r, h1, h2, w⟩ := h
  unfold eqP at w
  split at w
  · rename_i p q hp hq
    split at w
    · rename_i hc
      obtain ⟨as, ra⟩ := (DpA.rds I (deep_ok r 8 _ _ _ h1 hp) rx).reads
      obtain ⟨bs, rb⟩ := (DpA.rds I (deep_ok r 8 _ _ _ h2 hq) ry).reads
      exact SeqAt.compareEq_shaped ra rb hc.1 hc.2 hu ⟨.bl _, H, I, rfl, w.now r (VD.bl.mpr rfl)⟩
    · exact w.elim
  · exact w.elim
theorem op_neP (hu : X.A.units + 64 < cLine) : OpR X (compareOp .NotEq) (rOf X.K (eqP true)) := by
  intro pins s σ H x y v u Q I rx ry h
  obtain ⟨c, m, dx, dy, r, h1, h2, w⟩ := h
  unfold eqP at w
  split at w
  · rename_i p q hp hq
    split at w
    · rename_i hc
      obtain ⟨as, ra⟩ := (DpA.rds I (deep_ok r 8 _ _ _ h1 hp) rx).reads
      obtain ⟨bs, rb⟩ := (DpA.rds I (deep_ok r 8 _ _ _ h2 hq) ry).reads
      exact SeqAt.compareNe_shaped ra rb hc.1 hc.2 hu ⟨.bl _, H, I, rfl, w.now r (VD.bl.mpr rfl)⟩
    · exact w.elim
  · exact w.elim
end
end L2.Dn
namespace L2.Dn
open PySem PySem.Spec PyProof.Rows L2
/-! ### numbers -/
def intOp (C : Int → Int → Bool) (g : Int → Int → PyData) : D → D → Store → OD
  | .p (.int i), .p (.int j), m => if C i j then some (.p (g i j), m) else none
  | _, _, _ => none
def anyI : Int → Int → Bool := fun _ _ => true
section
variable {X : Cx}
theorem opInt {fn : Value → Value → Sem Value} {C : Int → Int → Prop} {g : Int → Int → V} {B : Int → Int → Bool} {h : Int → Int → PyData} (ho : OpR X fn (rI C g)) (hB : ∀ i j, B i j = true → C i j) (hg : ∀ K H i j, DpZ K H (g i j) (h i j)) : OpR X fn (rOf X.K (intOp B h)) := by
  refine OpR.by_ ho fun x y H Q w => ?_
  obtain ⟨c, m, dx, dy, r, h1, h2, w⟩ := w
  unfold intOp at w
  split at w
  · rename_i i j
    cases hb : B i j with
    | false => rw [hb] at w; exact w.elim
    | true =>
      rw [hb] at w
      exact ⟨i, j, VD.int.mp h1, VD.int.mp h2, hB i j hb, .inl (WantO.now r w (by unfold VD; exact hg _ _ i j))⟩
  · exact w.elim
theorem opInt0 {fn : Value → Value → Sem Value} {g : Int → Int → V} {h : Int → Int → PyData} (ho : OpR X fn (rI0 g)) (hg : ∀ K H i j, DpZ K H (g i j) (h i j)) : OpR X fn (rOf X.K (intOp anyI h)) := by
  refine OpR.by_ ho fun x y H Q w => ?_
  obtain ⟨c, m, dx, dy, r, h1, h2, w⟩ := w
  unfold intOp at w
  split at w
  · rename_i i j
    exact ⟨i, j, VD.int.mp h1, VD.int.mp h2, .inl (WantO.now r w (by unfold VD; exact hg _ _ i j))⟩
  · exact w.elim
def addI := intOp anyI fun i j => .int (i + j)
def subI := intOp anyI fun i j => .int (i - j)
def ltI := intOp anyI fun i j => .bool (decide (i < j))
def leI := intOp anyI fun i j => .bool (decide (i ≤ j))
def gtI := intOp anyI fun i j => .bool (decide (j < i))
def geI := intOp anyI fun i j => .bool (decide (j ≤ i))
def small (i : Int) : Bool := decide (-(2 ^ 64) < i) && decide (i < 2 ^ 64)
def mulI := intOp (fun i j => small i || small j) fun i j => .int (i * j)
def modI := intOp (fun _ j => decide (0 < j)) fun i j => .int (i % j)
/-- a divisor below 2 ^ 64, whatever is divided -/
def fdivI := intOp (fun _ j => decide (0 < j) && decide (j < 2 ^ 64)) fun i j => .int (i / j)
def powI := intOp (fun i j => decide (0 ≤ j) && decide (j ≤ 1000) && small i) fun i j => .int (i ^ j.toNat)
theorem op_addI : OpR X (binaryOp .Add) (rOf X.K addI) := opInt0 op_add fun _ _ i j => .int _
theorem op_subI : OpR X (binaryOp .Sub) (rOf X.K subI) := opInt0 op_sub fun _ _ i j => .int _
theorem op_ltI : OpR X (compareOp .Lt) (rOf X.K ltI) := opInt0 op_lt fun _ _ i j => .bl _
theorem op_leI : OpR X (compareOp .LtE) (rOf X.K leI) := opInt0 op_le fun _ _ i j => .bl _
theorem op_gtI : OpR X (compareOp .Gt) (rOf X.K gtI) := opInt0 op_gt fun _ _ i j => .bl _
theorem op_geI : OpR X (compareOp .GtE) (rOf X.K geI) := opInt0 op_ge fun _ _ i j => .bl _
theorem op_modI : OpR X (binaryOp .Mod) (rOf X.K modI) := opInt op_mod (fun i j h => of_decide_eq_true h) fun _ _ i j => .int _
theorem small_iff {i : Int} (h : small i = true) : -(2 ^ 64) < i ∧ i < 2 ^ 64 := by
  simp only [small, Bool.and_eq_true, decide_eq_true_eq] at h
  exact h
theorem op_mulI : OpR X (binaryOp .Mult) (rOf X.K mulI) := opInt op_mul (fun i j h => by
  rcases Bool.or_eq_true_iff.mp h with h | h
  · exact .inl (small_iff h)
  · exact .inr (small_iff h)) fun _ _ i j => .int _
theorem op_fdivI : OpR X (binaryOp .FloorDiv) (rOf X.K fdivI) := opInt op_fdivW (fun i j h => by
  simp only [Bool.and_eq_true, decide_eq_true_eq] at h
  exact wide_div (b := 64) h.1 (by omega) (by decide) (by decide)) fun _ _ i j => .int _
theorem op_powI : OpR X (binaryOp .Pow) (rOf X.K powI) := opInt op_pow (fun i j h => by
  simp only [Bool.and_eq_true, decide_eq_true_eq] at h
  have := small_iff h.2
  exact ⟨h.1.1, by omega, by omega⟩) fun _ _ i j => .int _
def negI : D → Store → OD
  | .p (.int i), m => some (.p (.int (-i)), m)
  | _, _ => none
theorem un_negI : UnR X (unaryOp .USub) (rOf1 X.K negI) := by
  refine UnR.by_ un_neg fun x H Q w => ?_
  obtain ⟨c, m, dx, r, h1, w⟩ := w
  unfold negI at w
  split at w
  · exact ⟨_, VD.int.mp h1, .inl (WantO.now r w (VD.int.mpr rfl))⟩
  · exact w.elim
/-! ### + of texts, lists, tuples -/
def addS : D → D → Store → OD
  | .p (.str x), .p (.str y), m => if x.length + y.length ≤ sizeLine then some (.p (.str (x ++ y)), m) else none
  | _, _, _ => none
theorem op_addS : OpR X (binaryOp .Add) (rOf X.K addS) := by
  refine OpR.by_ op_add_str fun x y H Q w => ?_
  obtain ⟨c, m, dx, dy, r, h1, h2, w⟩ := w
  unfold addS at w
  split at w
  · split at w
    · rename_i hz
      exact ⟨_, _, VD.str.mp h1, VD.str.mp h2, hz, .inl (WantO.now r w (VD.str.mpr rfl))⟩
    · exact w.elim
  · exact w.elim
theorem op_catR : OpR X (binaryOp .Add) (fun x y H Q => ∃ l b xs zs, x = .ref l ∧ y = .ref b ∧ RdL X.K H l xs ∧ RdL X.K H b zs ∧ xs.length + zs.length ≤ sizeLine ∧ ∀ p, H p = none → Q (.ref p) (upd H p (.lst (xs ++ zs)))) := by
  intro pins s σ H x y v u Q I rx ry h
  obtain ⟨l, b, xs, zs, rfl, rfl, hA, hB, hz, q⟩ := h
  cases rx
  cases ry
  obtain ⟨_, i1, n1, r1, e1⟩ := hA.obj I
  obtain ⟨_, i2, n2, r2, e2⟩ := hB.obj I
  have l1 := r1.length
  have l2 := r2.length
  refine PySem.P.add_list e1 e2 ?_ (by simp only [List.size_toArray]; omega)
  rw [show i1.toArray ++ i2.toArray = (i1 ++ i2).toArray by simp]
  exact ⟨.ref _, _, I.lnew (t' := s.toks) (r1.append r2) (by simpa using hz), rfl, q _ I.fresh⟩
def addL (z : Md) (x y : D) (m : Store) : OD := match lstOf x m, lstOf y m with
  | some xs, some ys => if xs.length + ys.length ≤ sizeLine then newO z (xs ++ ys) m else none
  | _, _ => none
theorem op_addL (z : Md) : OpR X (binaryOp .Add) (rOf X.K (addL z)) := by
  refine OpR.by_ op_catR fun x y H Q w => ?_
  obtain ⟨c, m, dx, dy, r, h1, h2, w⟩ := w
  unfold addL at w
  split at w
  · rename_i xs ys q1 q2
    split at w
    · rename_i hz
      obtain ⟨a, vs, e1, k1, k2⟩ := lstOf_ok r h1 q1
      obtain ⟨b, ws, e2, k3, k4⟩ := lstOf_ok r h2 q2
      exact ⟨a, b, vs, ws, e1, e2, k1, k3, by rw [k2.length, k4.length]; exact hz, newO_ok r (k2.append k4) w⟩
    · exact w.elim
  · exact w.elim
def addT (x y : D) (m : Store) : OD := match tupOf x, tupOf y with
  | some xs, some ys => if xs.length + ys.length ≤ sizeLine then some (mkTup (xs ++ ys), m) else none
  | _, _ => none
theorem op_addT : OpR X (binaryOp .Add) (rOf X.K addT) := by
  refine OpR.by_ op_catA fun x y H Q w => ?_
  obtain ⟨c, m, dx, dy, r, h1, h2, w⟩ := w
  unfold addT at w
  split at w
  · rename_i xs ys q1 q2
    split at w
    · rename_i hz
      obtain ⟨a, vs, e1, k1, k2⟩ := tupOf_ok h1 q1
      obtain ⟨b, ws, e2, k3, k4⟩ := tupOf_ok h2 q2
      refine ⟨a, b, vs, ws, e1, e2, k1, k3, by rw [k2.length, k4.length]; exact hz, fun e => ?_, fun _ e => ?_, fun _ _ p hp => .inl (newTO_ok r (k2.append k4) w p hp)⟩
      · subst e
        have e : xs = [] := List.eq_nil_of_length_eq_zero (by rw [← k2.length]; rfl)
        subst e
        exact .inl (WantO.now r w (mkTup_ok k4 k3))
      · subst e
        have e : ys = [] := List.eq_nil_of_length_eq_zero (by rw [← k4.length]; rfl)
        subst e
        rw [List.append_nil] at w
        exact .inl (WantO.now r w (mkTup_ok k2 k1))
    · exact w.elim
  · exact w.elim
/-- a text times an int -/
def mulS : D → D → Store → OD
  | .p (.str x), .p (.int n), m => if decide (-1000000 ≤ n) && decide (n ≤ 1000000) && decide (x.length ≤ 16) then some (.p (.str (Txt.mul x n)), m) else none
  | _, _, _ => none
theorem op_mulS : OpR X (binaryOp .Mult) (rOf X.K mulS) := by
  intro pins s σ H x y v u Q I rx ry h
  obtain ⟨c, m, dx, dy, r, h1, h2, w⟩ := h
  unfold mulS at w
  split at w
  · rename_i z n
    split at w
    · rename_i hz
      simp only [Bool.and_eq_true, decide_eq_true_eq] at hz
      cases VD.str.mp h1
      cases VD.int.mp h2
      obtain ⟨t, rfl⟩ := rx
      obtain ⟨t', rfl⟩ := ry
      refine PySem.SB.mul ⟨?_, fun a b => ?_, fun a b => ?_⟩ fun t2 k => ⟨.str _, H, I.tok k, ⟨t2, rfl⟩, WantO.now r w (VD.str.mpr rfl)⟩
      · simp only [Bool.or_eq_false_iff, decide_eq_false_iff_not]
        constructor <;> omega
      · have hn : 0 < n := by omega
        intro hgt
        have h3 : ((z.length : Int)) * n ≤ 16 * 1000000 := by
          have a1 : (z.length : Int) * n ≤ 16 * n := Int.mul_le_mul_of_nonneg_right (by omega) (by omega)
          omega
        have h4 : (z.length : Int) ≤ (2 ^ 63 - 1) / n := (Int.le_ediv_iff_mul_le hn).mpr (by omega)
        omega
      · have h3 : z.length * n.toNat ≤ 16 * 1000000 := Nat.mul_le_mul hz.2 (by omega)
        unfold Builtin.Str.tooLong
        simp only [decide_eq_false_iff_not]
        rw [sizeLine_eq]
        omega
    · exact w.elim
  · exact w.elim
/-! ### items, slices -/
def ixD (d i : D) (m : Store) : OD := match i with
  | .p (.int k) => match d with
    | .p (.str x) => if x.length ≤ sizeLine then (match atI x.cps.toList k with
      | some n => some (.p (.str ⟨#[n]⟩), m)
      | none => none) else none
    | d => match tupOf d with
      | some xs => (atI xs k).map fun y => (y, m)
      | none => match lstOf d m with
        | some xs => (atI xs k).map fun y => (y, m)
        | none => none
  | _ => none
theorem VDs.atI {K : PySem.W.Frag} {H : Hp} {c : Anc} {vs : List V} {ds : List D} {k : Int} {d : D} (h : VDs K H c vs ds) (e : L2.atI ds k = some d) : ∃ v, L2.atI vs k = some v ∧ VD K H c v d := by
  unfold L2.atI at e ⊢
  rw [h.length]
  cases q : ixN ds.length k with
  | none => rw [q] at e; cases e
  | some j =>
    rw [q] at e
    obtain ⟨v, h1, h2⟩ := h.get (show ds[j]? = some d from e)
    exact ⟨v, h1, h2⟩
theorem ix_D : IxR X (rOf X.K ixD) := by
  refine IxR.by_ ix_seq fun x y H Q w => ?_
  obtain ⟨c, m, dx, dy, r, h1, h2, w⟩ := w
  unfold ixD at w
  split at w
  · rename_i k
    split at w
    · rename_i z
      split at w
      · rename_i hz
        split at w
        · rename_i n hn
          exact .inr (.inr ⟨z, k, n, VD.str.mp h1, VD.int.mp h2, hz, hn, .inl (WantO.now r w (VD.str.mpr rfl))⟩)
        · exact w.elim
      · exact w.elim
    · split at w
      · rename_i xs hx
        cases q : atI xs k with
        | none => rw [q] at w; exact w.elim
        | some d =>
          rw [q] at w
          obtain ⟨a, vs, e1, k1, k2⟩ := tupOf_ok h1 hx
          obtain ⟨v, e2, hv⟩ := k2.atI q
          exact .inr (.inl ⟨a, vs, k, v, e1, VD.int.mp h2, k1, e2, .inl (WantO.now r w hv)⟩)
      · split at w
        · rename_i xs hx
          cases q : atI xs k with
          | none => rw [q] at w; exact w.elim
          | some d =>
            rw [q] at w
            obtain ⟨a, vs, e1, k1, k2⟩ := lstOf_ok r h1 hx
            obtain ⟨v, e2, hv⟩ := k2.atI q
            exact .inl ⟨a, vs, k, v, e1, VD.int.mp h2, RdL.sq k1, e2, .inl (WantO.now r w hv)⟩
        · exact w.elim
  · exact w.elim
def cutD (xs : List D) (lo hi : Option Int) : List D := (xs.drop (HT.sIx xs.length 0 lo)).take (HT.sIx xs.length xs.length hi - HT.sIx xs.length 0 lo)
theorem VDs.cut {K : PySem.W.Frag} {H : Hp} {c : Anc} {vs : List V} {ds : List D} (h : VDs K H c vs ds) (lo hi : Option Int) : VDs K H c (cutV vs lo hi) (cutD ds lo hi) := by
  unfold cutV cutD
  rw [h.length]
  exact (h.drop _).take _
def slL (z : Md) (d : D) (lo hi : Option Int) (m : Store) : OD := match lstOf d m with
  | some xs => newO z (cutD xs lo hi) m
  | none => none
theorem sl_L (z : Md) : SlR X (rOfS X.K (slL z)) := by
  refine SlR.by_ sl_list fun x lo hi H Q w => ?_
  obtain ⟨c, m, dx, r, h1, w⟩ := w
  unfold slL at w
  split at w
  · rename_i xs hx
    obtain ⟨a, vs, e1, k1, k2⟩ := lstOf_ok r h1 hx
    exact ⟨a, vs, e1, RdL.sq k1, newO_ok r (k2.cut lo hi) w⟩
  · exact w.elim
def slS (d : D) (lo hi : Option Int) (m : Store) : OD := match d with
  | .p (.str x) => if x.length ≤ sizeLine then some (.p (.str (cutS x lo hi)), m) else none
  | _ => none
theorem sl_S : SlR X (rOfS X.K slS) := by
  refine SlR.by_ sl_str fun x lo hi H Q w => ?_
  obtain ⟨c, m, dx, r, h1, w⟩ := w
  unfold slS at w
  split at w
  · split at w
    · rename_i hz
      exact ⟨_, VD.str.mp h1, hz, .inl (WantO.now r w (VD.str.mpr rfl))⟩
    · exact w.elim
  · exact w.elim
def slT (d : D) (lo hi : Option Int) (m : Store) : OD := match tupOf d with
  | some xs => some (mkTup (cutD xs lo hi), m)
  | none => none
theorem sl_T : SlR X (rOfS X.K slT) := by
  refine SlR.by_ sl_tupA fun x lo hi H Q w => ?_
  obtain ⟨c, m, dx, r, h1, w⟩ := w
  unfold slT at w
  split at w
  · rename_i xs hx
    obtain ⟨a, vs, e1, k1, k2⟩ := tupOf_ok h1 hx
    refine ⟨a, vs, e1, k1, fun hw => ?_, fun _ p hp => .inl (newTO_ok r (k2.cut lo hi) w p hp)⟩
    have e : cutV vs lo hi = vs := by
      unfold cutV
      rw [hw.1, hw.2]
      simp
    have k3 := k2.cut lo hi
    rw [e] at k3
    exact .inl (WantO.now r w (mkTup_ok k3 k1))
  · exact w.elim
variable {W : WX} {a b e : Expr} {fa f : FE} {pos : Pos}
def revE (z : Md) (f : FE) : FE := fun ρ m => (f ρ m).bind fun d m1 => match lstOf d m1 with
  | some xs => newL z xs.reverse m1
  | none => .stuck
theorem VDs.reverse {K : PySem.W.Frag} {H : Hp} {c : Anc} : ∀ {ds : List D} {vs : List V}, VDs K H c vs ds → VDs K H c vs.reverse ds.reverse
  | [], vs, h => by unfold VDs at h; subst h; simp [VDs]
  | d :: ds, vs, h => by
    unfold VDs at h
    obtain ⟨v, r, e1, h1, h2⟩ := h
    subst e1
    rw [List.reverse_cons, List.reverse_cons]
    exact (VDs.reverse h2).append (VDs.one h1)
theorem de_rev (z : Md) {k : Nat} {p1 p2 p3 : Pos} (h : DE X W e f) : DE X W (.Subscript e (.Slice none none (some (.UnaryOp .USub (.Constant (.int 1) k p1) p2)) p3) pos) (revE z f) := fun c ρ m σ H Q r s w =>
  WE.frz (we_of (pe_revL pe_w) (h.thenE r s w fun d m1 c1 v H1 r1 s1 g1 h1 w1 => by
    split at w1
    · rename_i xs hx
      obtain ⟨a, vs, e1, k1, k2⟩ := lstOf_ok r1 h1 hx
      exact ⟨a, vs, e1, RdL.sq k1, newL_ok r1 k2.reverse w1⟩
    · exact w1.elim))
end
end L2.Dn
namespace L2.Dn
open PySem PySem.Spec PyProof.Rows L2
/-! ### built-in functions -/
def absD : List D → Store → OD
  | [.p (.int i)], m => some (.p (.int (if i < 0 then -i else i)), m)
  | _, _ => none
def intD : List D → Store → OD
  | [.p (.int i)], m => some (.p (.int i), m)
  | [.p (.bool b)], m => some (.p (.int (if b then 1 else 0)), m)
  | _, _ => none
def lenD : List D → Store → OD
  | [.p (.str x)], m => if x.length ≤ sizeLine then some (.p (.int x.length), m) else none
  | [d], m => match tupOf d with
    | some xs => some (.p (.int xs.length), m)
    | none => match lstOf d m with
      | some xs => some (.p (.int xs.length), m)
      | none => none
  | _, _ => none
def bools : List D → Option (List Bool)
  | [] => some []
  | .p (.bool b) :: r => (bools r).map (b :: ·)
  | _ :: _ => none
def allD : List D → Store → OD
  | [d], m => match lstOf d m with
    | some xs => (bools xs).map fun bs => (.p (.bool (bs.all id)), m)
    | none => none
  | _, _ => none
def anyD : List D → Store → OD
  | [d], m => match lstOf d m with
    | some xs => (bools xs).map fun bs => (.p (.bool (bs.any id)), m)
    | none => none
  | _, _ => none
def tupleD : List D → Store → OD
  | [d], m => match tupOf d with
    | some _ => some (d, m)
    | none => match lstOf d m with
      | some xs => some (mkTup xs, m)
      | none => none
  | _, _ => none
def listD (z : Md) : List D → Store → OD
  | [d], m => match tupOf d with
    | some xs => newO z xs m
    | none => match lstOf d m with
      | some xs => newO z xs m
      | none => none
  | _, _ => none
/-- the name of the built-in type -/
def tyN : D → Store → Option String
  | .p .none, _ => some "NoneType"
  | .p (.bool _), _ => some "bool"
  | .p (.int _), _ => some "int"
  | .p (.str _), _ => some "str"
  | .p (.list _), _ => some "list"
  | .p (.tuple _), _ => some "tuple"
  | .p (.dict _), _ => some "dict"
  | .tup _, _ => some "tuple"
  | .lst _, _ => some "list"
  | .cell i, m => match m.at_ i with
    | some (.lst _) => some "list"
    | _ => none
  | .ty _, _ => none
def isiD : List D → Store → OD
  | [d, .ty n], m => match tyN d m with
    | some t => (kitB t n).map fun b => (.p (.bool b), m)
    | none => none
  | _, _ => none
section
variable {X : Cx} {c : Anc} {H : Hp} {m : Store}
theorem call_absD : CallR X (.builtin "abs") (rOfL X.K absD) := by
  refine CallR.by_ call_abs fun xs H Q w => ?_
  obtain ⟨c, m, ds, r, hv, w⟩ := w
  unfold absD at w
  split at w
  · obtain ⟨v, e, h⟩ := VDs.onlyOne hv
    cases VD.int.mp h
    exact ⟨_, e, .inl (WantO.now r w (VD.int.mpr rfl))⟩
  · exact w.elim
theorem call_intD : CallR X (.type "int") (rOfL X.K intD) := by
  refine CallR.by_ call_int1 fun xs H Q w => ?_
  obtain ⟨c, m, ds, r, hv, w⟩ := w
  unfold intD at w
  split at w
  · obtain ⟨v, e, h⟩ := VDs.onlyOne hv
    cases VD.int.mp h
    exact .inl ⟨_, e, .inl (WantO.now r w (VD.int.mpr rfl))⟩
  · obtain ⟨v, e, h⟩ := VDs.onlyOne hv
    cases VD.bl.mp h
    exact .inr ⟨_, e, .inl (WantO.now r w (VD.int.mpr rfl))⟩
  · exact w.elim
theorem call_lenD : CallR X (.builtin "len") (rOfL X.K lenD) := by
  refine CallR.by_ L2.call_len fun xs H Q w => ?_
  obtain ⟨c, m, ds, r, hv, w⟩ := w
  unfold lenD at w
  split at w
  · split at w
    · rename_i hz
      obtain ⟨v, e, h⟩ := VDs.onlyOne hv
      cases VD.str.mp h
      exact ⟨_, _, e, ⟨hz, rfl⟩, .inl (WantO.now r w (VD.int.mpr rfl))⟩
    · exact w.elim
  · obtain ⟨v, e, h⟩ := VDs.onlyOne hv
    split at w
    · rename_i xs hx
      obtain ⟨a, vs, e1, k1, k2⟩ := tupOf_ok h hx
      subst e1
      exact ⟨_, xs.length, e, .inr ⟨vs, k1, k2.length.symm⟩, .inl (WantO.now r w (VD.int.mpr rfl))⟩
    · split at w
      · rename_i xs hx
        obtain ⟨a, vs, e1, k1, k2⟩ := lstOf_ok r h hx
        subst e1
        exact ⟨_, xs.length, e, .inl ⟨vs, RdL.sq k1, k2.length.symm⟩, .inl (WantO.now r w (VD.int.mpr rfl))⟩
      · exact w.elim
  · exact w.elim
theorem bools_cons {d : D} {ds : List D} {bs : List Bool} (e : bools (d :: ds) = some bs) : ∃ k ks, d = .p (.bool k) ∧ bools ds = some ks ∧ bs = k :: ks := by
  match d, e with
  | .p (.bool k), e =>
    have e : (bools ds).map (k :: ·) = some bs := e
    simp only [Option.map_eq_some_iff] at e
    obtain ⟨ks, e1, e2⟩ := e
    exact ⟨k, ks, rfl, e1, e2.symm⟩
theorem bools_ok {K : PySem.W.Frag} : ∀ {ds : List D} {vs : List V} {bs : List Bool}, VDs K H c vs ds → bools ds = some bs → vs = bs.map V.bl
  | [], vs, bs, h, e => by unfold VDs at h; subst h; cases e; rfl
  | d :: ds, vs, bs, h, e => by
    unfold VDs at h
    obtain ⟨v, r, e1, h1, h2⟩ := h
    obtain ⟨k, ks, q1, q2, q3⟩ := bools_cons e
    subst e1 q1 q3
    rw [VD.bl.mp h1, bools_ok h2 q2]
    rfl
theorem call_allD (hc : X.calm = true) : CallR X (.builtin "all") (rOfL X.K allD) := by
  refine CallR.by_ (cr_all hc) fun xs H Q w => ?_
  obtain ⟨c, m, ds, r, hv, w⟩ := w
  unfold allD at w
  split at w
  · obtain ⟨v, e, h⟩ := VDs.onlyOne hv
    split at w
    · rename_i xs hx
      obtain ⟨a, vs, e1, k1, k2⟩ := lstOf_ok r h hx
      cases q : bools xs with
      | none => rw [q] at w; exact w.elim
      | some bs =>
        rw [q] at w
        have eb := bools_ok k2 q
        subst eb e1
        exact ⟨a, bs, e, RdL.sq k1, .inl (WantO.now r w (VD.bl.mpr rfl))⟩
    · exact w.elim
  · exact w.elim
theorem call_tupleD : CallR X (.type "tuple") (rOfL X.K tupleD) := by
  refine CallR.by_ call_tuple_of fun xs H Q w => ?_
  obtain ⟨c, m, ds, r, hv, w⟩ := w
  unfold tupleD at w
  split at w
  · obtain ⟨v, e, h⟩ := VDs.onlyOne hv
    split at w
    · rename_i xs hx
      obtain ⟨a, vs, e1, k1, k2⟩ := tupOf_ok h hx
      subst e1
      exact ⟨a, vs, e, .inr ⟨k1, .inl (WantO.now r w h)⟩⟩
    · split at w
      · rename_i xs hx
        obtain ⟨a, vs, e1, k1, k2⟩ := lstOf_ok r h hx
        subst e1
        exact ⟨a, vs, e, .inl ⟨RdL.sq k1, fun l hl => .inl (newTO_ok r k2 w l hl)⟩⟩
      · exact w.elim
  · exact w.elim
theorem call_listD (z : Md) : CallR X (.type "list") (rOfL X.K (listD z)) := by
  refine CallR.by_ call_list_of fun xs H Q w => ?_
  obtain ⟨c, m, ds, r, hv, w⟩ := w
  unfold listD at w
  split at w
  · obtain ⟨v, e, h⟩ := VDs.onlyOne hv
    split at w
    · rename_i xs hx
      obtain ⟨a, vs, e1, k1, k2⟩ := tupOf_ok h hx
      subst e1
      exact ⟨a, vs, e, .inr k1, newO_ok r k2 w⟩
    · split at w
      · rename_i xs hx
        obtain ⟨a, vs, e1, k1, k2⟩ := lstOf_ok r h hx
        subst e1
        exact ⟨a, vs, e, .inl (RdL.sq k1), newO_ok r k2 w⟩
      · exact w.elim
  · exact w.elim
theorem tyT {K : PySem.W.Frag} {a : Addr} {vs : List V} (h : SqT K H a vs) : TyX K H (.ref a) (.type "tuple") := by
  rcases h with (h | ⟨o, h⟩) | ⟨o, its, n, hk, hc, _⟩
  · exact .base (.tup h)
  · exact .fTuple h
  · exact .kTuple hk hc
theorem tyL {K : PySem.W.Frag} {a : Addr} {vs : List V} (h : FzL K H a vs) : TyX K H (.ref a) (.type "list") := by
  rcases h with ⟨o, h⟩ | ⟨its, n, hk, _⟩
  · exact .base (.frz h)
  · exact .kList hk rfl
theorem tyN_ok {v : V} {d : D} {t : String} (r : RelS X.K c m H) (h : VD X.K H c v d) (e : tyN d m = some t) : TyX X.K H v (.type t) := by
  unfold tyN at e
  split at e
  · cases e; cases VD.non.mp h; exact .base .non
  · cases e; cases VD.bl.mp h; exact .base (.bl _)
  · cases e; cases VD.int.mp h; exact .base (.int _)
  · cases e; cases VD.str.mp h; exact .base (.str _)
  · cases e
    unfold VD at h
    cases h with
    | lst f q => exact tyL f
  · cases e
    unfold VD at h
    cases h with
    | tup f q => exact tyT f
  · cases e
    unfold VD at h
    cases h with
    | dK f q z => exact .fDict f
  · cases e
    obtain ⟨a, vs, e1, h2, _⟩ := tupOf_ok h rfl
    subst e1
    exact tyT h2
  · cases e
    unfold VD at h
    obtain ⟨a, vs, e1, h2, _⟩ := h
    subst e1
    exact tyL h2
  · unfold VD at h
    obtain ⟨a, h1, e1⟩ := h
    subst e1
    split at e
    · rename_i xs hm
      cases e
      obtain ⟨ys, h2, _⟩ := r.at_ _ _ _ h1 hm
      exact .base (.lst h2)
    · cases e
  · cases e
theorem call_isiD : CallR X (.builtin "isinstance") (rOfL X.K isiD) := by
  refine CallR.by_ call_isi fun xs H Q w => ?_
  obtain ⟨c, m, ds, r, hv, w⟩ := w
  unfold isiD at w
  split at w
  · rename_i d n
    obtain ⟨v, v', e, h1, h2⟩ := VDs.two hv
    unfold VD at h2
    subst h2 e
    split at w
    · rename_i t ht
      cases q : kitB t n with
      | none => rw [q] at w; exact w.elim
      | some b =>
        rw [q] at w
        exact ⟨v, .ty n, .type t, .type n, b, rfl, .ty n, tyN_ok r h1 ht, kit_ty q, .inl (WantO.now r w (VD.bl.mpr rfl))⟩
    · exact w.elim
  · exact w.elim
/-! ### in -/
mutual
theorem DpA.dp {K : PySem.W.Frag} : ∀ {v : V} {d : PyData}, DpA K H v d → d.canLay0 = true → Dp K H v d
  | _, _, .non, _ => .non
  | _, _, .bl b, _ => .bl b
  | _, _, .int i, _ => .int i
  | _, _, .str x, _ => .str x
  | _, _, .lst h r, e => .lst (RdL.sq h) (DpAs.dp r (by simpa [PyData.canLay0] using e))
  | _, _, .tup h r, e => .tup h (DpAs.dp r (by simpa [PyData.canLay0] using e))
  | _, _, .dK h q r, e => by simp [PyData.canLay0] at e
theorem DpAs.dp {K : PySem.W.Frag} : ∀ {vs : List V} {ds : List PyData}, DpAs K H vs ds → PyData.canLayAll0 ds = true → DpAll K H vs ds
  | _, _, .nil, _ => .nil
  | _, _, .cons h r, e => by
    simp only [PyData.canLayAll0, Bool.and_eq_true] at e
    exact .cons (DpA.dp h e.1) (DpAs.dp r e.2)
end
def inL (neg : Bool) (x y : D) (m : Store) : OD := match whole m x, whole m y with
  | some p, some (.list qs) => if SeqAt.shaped p = true ∧ SeqAt.shaped (.list qs) = true then some (.p (.bool (if neg then !(qs.any fun z => PyData.eqv z p) else qs.any fun z => PyData.eqv z p)), m) else none
  | _, _ => none
theorem op_inL (hu : X.A.units + 65 < cLine) : OpR X (compareOp .In) (rOf X.K (inL false)) := by
  refine OpR.by_ (op_inD hu) fun x y H Q w => ?_
  obtain ⟨c, m, dx, dy, r, h1, h2, w⟩ := w
  unfold inL at w
  split at w
  · rename_i p qs e1 e2
    split at w
    · rename_i hs
      exact ⟨p, qs, (deep_ok r 8 _ _ _ h1 e1).dp (SeqAt.canLay_of_shaped hs.1), (deep_ok r 8 _ _ _ h2 e2).dp (SeqAt.canLay_of_shaped hs.2), hs.1, hs.2, .inl (WantO.now r w (VD.bl.mpr rfl))⟩
    · exact w.elim
  · exact w.elim
theorem op_notInL (hu : X.A.units + 65 < cLine) : OpR X (compareOp .NotIn) (rOf X.K (inL true)) := by
  refine OpR.by_ (op_notInD hu) fun x y H Q w => ?_
  obtain ⟨c, m, dx, dy, r, h1, h2, w⟩ := w
  unfold inL at w
  split at w
  · rename_i p qs e1 e2
    split at w
    · rename_i hs
      exact ⟨p, qs, (deep_ok r 8 _ _ _ h1 e1).dp (SeqAt.canLay_of_shaped hs.1), (deep_ok r 8 _ _ _ h2 e2).dp (SeqAt.canLay_of_shaped hs.2), hs.1, hs.2, .inl (WantO.now r w (VD.bl.mpr rfl))⟩
    · exact w.elim
  · exact w.elim
/-- a text in a tuple of texts -/
def strsOf : List PyData → Option (List Str)
  | [] => some []
  | .str x :: r => (strsOf r).map (x :: ·)
  | _ :: _ => none
def inTs (neg : Bool) (x y : D) (m : Store) : OD := match x, y with
  | .p (.str z), .p (.tuple qs) => (strsOf qs).map fun ys => (.p (.bool (if neg then !(ys.contains z) else ys.contains z)), m)
  | _, _ => none
theorem strs_cons {d : PyData} {ds : List PyData} {bs : List Str} (e : strsOf (d :: ds) = some bs) : ∃ k ks, d = .str k ∧ strsOf ds = some ks ∧ bs = k :: ks := by
  match d, e with
  | .str k, e =>
    have e : (strsOf ds).map (k :: ·) = some bs := e
    simp only [Option.map_eq_some_iff] at e
    obtain ⟨ks, e1, e2⟩ := e
    exact ⟨k, ks, rfl, e1, e2.symm⟩
theorem strs_ok {K : PySem.W.Frag} : ∀ {ds : List PyData} {vs : List V} {ys : List Str}, DpZs K H vs ds → strsOf ds = some ys → vs = ys.map V.str
  | _, _, ys, .nil, e => by cases e; rfl
  | _, _, ys, .cons (d := d) h r, e => by
    obtain ⟨k, ks, q1, q2, q3⟩ := strs_cons e
    subst q1 q3
    cases h
    rw [strs_ok r q2]
    rfl
theorem flat_strs : ∀ ys : List Str, (ys.map V.str).all flatV = true
  | [] => rfl
  | y :: ys => by simp [flatV, flat_strs ys]
theorem inV_strs (z : Str) : ∀ ys : List Str, inV (.str z) (ys.map V.str) = ys.contains z
  | [] => rfl
  | y :: ys => by
    have ih := inV_strs z ys
    unfold inV at ih ⊢
    rw [List.map_cons, List.any_cons, ih, List.contains_cons]
    congr 1
    show (y == z) = (z == y)
    exact Bool.beq_comm
theorem op_inTs : OpR X (compareOp .In) (rOf X.K (inTs false)) := by
  refine OpR.by_ op_in_seq fun x y H Q w => ?_
  obtain ⟨c, m, dx, dy, r, h1, h2, w⟩ := w
  unfold inTs at w
  split at w
  · rename_i z qs
    cases q : strsOf qs with
    | none => rw [q] at w; exact w.elim
    | some ys =>
      rw [q] at w
      unfold VD at h2
      cases h2 with
      | @tup a xs _ f k =>
        have e := strs_ok k q
        subst e
        refine ⟨a, _, rfl, .inr f, by rw [VD.str.mp h1]; rfl, flat_strs ys, .inl (WantO.now r w ?_)⟩
        rw [VD.str.mp h1, inV_strs]
        exact VD.bl.mpr rfl
  · exact w.elim
/-- one sign in a text -/
def inSg (neg : Bool) (x y : D) (m : Store) : OD := match x, y with
  | .p (.str y), .p (.str z) => match y.cps.toList with
    | [n] => some (.p (.bool (if neg then !decide (n ∈ z.cps.toList) else decide (n ∈ z.cps.toList))), m)
    | _ => none
  | _, _ => none
theorem one_sign {y : Str} {n : Nat} (e : y.cps.toList = [n]) : y = ⟨#[n]⟩ := by
  obtain ⟨⟨l⟩⟩ := y
  have e : l = [n] := e
  subst e
  rfl
theorem op_inSg : OpR X (compareOp .In) (rOf X.K (inSg false)) := by
  refine OpR.by_ op_in_sign fun x y H Q w => ?_
  obtain ⟨c, m, dx, dy, r, h1, h2, w⟩ := w
  unfold inSg at w
  split at w
  · split at w
    · rename_i hn
      exact ⟨_, _, by rw [VD.str.mp h1, one_sign hn], VD.str.mp h2, .inl (WantO.now r w (VD.bl.mpr rfl))⟩
    · exact w.elim
  · exact w.elim
theorem op_notInSg : OpR X (compareOp .NotIn) (rOf X.K (inSg true)) := by
  refine OpR.by_ op_notIn_sign fun x y H Q w => ?_
  obtain ⟨c, m, dx, dy, r, h1, h2, w⟩ := w
  unfold inSg at w
  split at w
  · split at w
    · rename_i hn
      exact ⟨_, _, by rw [VD.str.mp h1, one_sign hn], VD.str.mp h2, .inl (WantO.now r w (VD.bl.mpr rfl))⟩
    · exact w.elim
  · exact w.elim
/-! ### methods -/
def splitD (z : Md) : D → List D → Store → OD
  | .p (.str a), [.p (.str b)], m => if (b.length == 0) = false ∧ a.length + 2 ≤ sizeLine then newO z ((Txt.split a b).map fun t => .p (.str t)) m else none
  | _, _, _ => none
theorem VDs.strs {K : PySem.W.Frag} : ∀ ys : List Str, VDs K H c (ys.map V.str) (ys.map fun t => .p (.str t))
  | [] => by simp [VDs]
  | y :: ys => by
    simp only [List.map_cons]
    unfold VDs
    exact ⟨_, _, rfl, VD.str.mpr rfl, VDs.strs ys⟩
theorem mt_splitD (z : Md) : MtR X "str.split" (rOfM X.K (splitD z)) := by
  refine MtR.by_ mt_split fun x xs H Q w => ?_
  obtain ⟨c, m, dx, ds, r, h1, h2, w⟩ := w
  unfold splitD at w
  split at w
  · split at w
    · rename_i hz
      obtain ⟨v, e, h3⟩ := VDs.onlyOne h2
      cases VD.str.mp h3
      exact ⟨_, _, VD.str.mp h1, e, hz.1, hz.2, newO_ok r (VDs.strs _) w⟩
    · exact w.elim
  · exact w.elim
def upperD : D → List D → Store → OD
  | .p (.str a), [], m => if a.length ≤ 5592405 then some (.p (.str (Txt.upper a)), m) else none
  | _, _, _ => none
theorem mt_upperD : MtR X "str.upper" (rOfM X.K upperD) := by
  refine MtR.by_ mt_upper fun x xs H Q w => ?_
  obtain ⟨c, m, dx, ds, r, h1, h2, w⟩ := w
  unfold upperD at w
  split at w
  · split at w
    · rename_i hz
      unfold VDs at h2
      exact ⟨_, VD.str.mp h1, h2, hz, .inl (WantO.now r w (VD.str.mpr rfl))⟩
    · exact w.elim
  · exact w.elim
def appendD : D → List D → Store → OD
  | .cell i, [d], m => match m.at_ i with
    | some (.lst xs) => if xs.length < sizeLine ∧ okIn d i = true then some (.p .none, m.set (.lst (xs ++ [d])) i) else none
    | _ => none
  | _, _, _ => none
theorem mt_appendD : MtR X "list.append" (rOfM X.K appendD) := by
  refine MtR.by_ (show MtR X "list.append" rAppend from mt_append) fun x xs H Q w => ?_
  obtain ⟨c, m, dx, ds, r, h1, h2, w⟩ := w
  unfold appendD at w
  split at w
  · rename_i i d
    split at w
    · rename_i xs hm
      split at w
      · rename_i hz
        obtain ⟨v, e, h3⟩ := VDs.onlyOne h2
        unfold VD at h1
        obtain ⟨a, h4, h5⟩ := h1
        obtain ⟨vs, h6, h7⟩ := r.at_ _ _ _ h4 hm
        refine ⟨a, vs, v, h5, e, h6, by rw [h7.length]; exact hz.1, .inl ?_⟩
        exact w c .non _ (r.put h4 hm h6 (h7.append (VDs.one (VD.forI h3 hz.2)))) (VD.non.mpr rfl)
      · exact w.elim
    · exact w.elim
  · exact w.elim
end
end L2.Dn
namespace L2.Dn
open PySem PySem.Spec PyProof.Rows L2
section
variable {X : Cx} {W : WX} {a b e : Expr} {es : List Expr} {fa fb f : FE} {pos : Pos} {c : Anc} {ρ : Rho} {m : Store} {σ : St} {H : Hp}
/-! ### o[i] op= e, a list -/
def rGetL (K : PySem.W.Frag) : V → V → Hp → VK → Prop := fun o i H Q => ∃ p xs k v, o = .ref p ∧ i = .int k ∧ 0 ≤ k ∧ SqL K H p xs ∧ xs[k.toNat]? = some v ∧ Q v H
theorem get_listL : PGet X (rGetL X.K) := by
  intro pins s σ H o i ov iv Q I ro ri h
  obtain ⟨p, xs, k, v, rfl, rfl, h0, hq, hx, q⟩ := h
  cases ro
  obtain ⟨t, rfl⟩ := ri
  obtain ⟨its, r, pl, hz⟩ := I.list hq
  obtain ⟨u, e1, e2⟩ := r.get hx
  have hl : k.toNat < xs.length := (List.getElem?_eq_some_iff.mp hx).1
  have := line63
  exact wpAny_getItem_list pl.isList h0 (by omega) (by simpa using e1) ⟨v, H, I, e2, q⟩
def getL (o i : D) (m : Store) : Option D := match i with
  | .p (.int k) => if 0 ≤ k then (match lstOf o m with
    | some xs => xs[k.toNat]?
    | none => none) else none
  | _ => none
def augI (g : D → D → Store → OD) (fo fi fe : FE) : FS := fun ρ m => (fo ρ m).bindS ρ fun o m1 => (fi ρ m1).bindS ρ fun i m2 => match getL o i m2 with
  | some x => (fe ρ m2).bindS ρ fun y m3 => match g x y m3 with
    | some (z, m4) => (match setItemD o i z m4 with
      | some m5 => .nx ρ m5
      | none => .stuck)
    | none => .stuck
  | none => .stuck
theorem ds_augI {o i : Expr} {fo fi fe : FE} {op : Operator} {g : D → D → Store → OD} {tpos : Pos} (hp : PIp X op (rOf X.K g)) (ho : DE X W o fo) (hi : DE X W i fi) (he : DE X W e fe)
    (ha : ∀ ov iv new, augStore i ov iv new = (do holding [new, ov, iv] (setItem ov iv new); release [new, ov, iv] []; pure .next) := by intros; rfl) : DS X W (.AugAssign (.Subscript o i tpos) op e pos) (augI g fo fi fe) := fun c ρ m σ H En r s w =>
  wst_of (ps_augS pe_w pe_w get_listL pe_w hp set_list ha) (ho.thenS r s w fun o1 m1 c1 vo H1 r1 s1 g1 h1 w1 => hi.thenS r1 s1 w1 fun i1 m2 c2 vi H2 r2 s2 g2 h2 w2 => by
    split at w2
    · rename_i x hx
      unfold getL at hx
      split at hx
      · rename_i k
        split at hx
        · rename_i h0
          split at hx
          · rename_i xs hxs
            obtain ⟨a, vs, e1, k1, k2⟩ := lstOf_ok r2 (g2.vd h1) hxs
            obtain ⟨v, k3, k4⟩ := k2.get hx
            refine ⟨a, vs, k, v, e1, VD.int.mp h2, h0, RdL.sq k1, k3, ?_⟩
            refine he.thenS r2 s2 w2 fun y m3 c3 vy H3 r3 s3 g3 h3 w3 => ?_
            split at w3
            · rename_i z m4 hg
              refine ⟨c3, m3, x, y, r3, g3.vd k4, h3, ?_⟩
              rw [hg]
              intro c4 vz H4 g4 hz
              have w4 := WantS.shift g4 w3
              split at w4
              · rename_i m5 hs
                exact setItemD_ok g4.rel (g4.vd (g3.vd (g2.vd h1))) (g4.vd (g3.vd h2)) hz hs fun H' g5 => w4 c4 σ H' g5 (g5.slots (g4.slots s3))
              · exact w4.elim
            · exact w3.elim
          · cases hx
        · cases hx
      · cases hx
    · exact w2.elim)
theorem ip_addI : PIp X .Add (rOf X.K addI) := fun pins s σ H x y v u Q I rx ry h => by
  obtain ⟨c, m, dx, dy, r, h1, h2, w⟩ := h
  unfold addI intOp at w
  split at w
  · exact ip_add pins s σ H x y v u Q I rx ry ⟨_, _, VD.int.mp h1, VD.int.mp h2, WantO.now r w (VD.int.mpr rfl)⟩
  · exact w.elim
/-! ### NAME.index(e), NAME a tuple of texts of the module -/
def idxE (ys : List Str) (f : FE) : FE := fun ρ m => (f ρ m).bind fun d m1 => match d with
  | .p (.str z) => match ys.findIdx? (· == z) with
    | some j => .ok (.p (.int j)) m1
    | none => .stuck
  | _ => .stuck
theorem de_gIndex {x : Str} {t : Addr} {its : Array Value} {n : Nat} {sl : Array (Option Value)} {ys : List Str} {apos cpos p : Pos} (hg : Gl X x) (hm : X.mg x = some (.ref t)) (hk : X.K.lookup t = some ⟨.type "tuple", none, .seq its n, sl⟩) (hz : its.size ≤ sizeLine) (hv : Vals (ys.map V.str) its.toList) (he : DE X W e f)
    (hdb : (x == ("__debug__" : Str)) = false := by decide)
    (hbase : attributeBase (.Name x p) "index" X.env (eval (.Name x p) X.env) = eval (.Name x p) X.env := by rfl)
    (hfew : ((backTo cpos (starEach [e] X.env)).all (fun x => !x.1) && (backToKw cpos (keywordEach [] X.env)).all (fun x => x.1.isSome)
      && decide ([e].length + ([] : List Keyword).length + (if ([] : List Keyword).isEmpty then 0 else 1) < 30)) = true := by rfl)
    (hline : (apos.endLine == cpos.line) = true := by rfl) (hs : starEach [e] X.env = (false, eval e X.env) :: starEach [] X.env := by rfl) (hplain : (backTo cpos (starEach [] X.env)).any (·.1) = false := by rfl) :
    DE X W (.Call (.Attribute (.Name x p) "index" apos) [e] [] cpos) (idxE ys f) := fun c ρ m σ H Q r s w => by
  have sq : ∀ H, SqT X.K H t (ys.map V.str) := fun H => .inr ⟨_, its, n, hk, rfl, rfl, hz, hv⟩
  refine we_of (pe_bm (T := "tuple") (id := "tuple.index") PySem.F.plainAttrs_tuple PySem.F.slot_tuple_index PySem.F.type_tuple_index mt_tup_index (pe_glob hg hm (v := .ref t) rfl hdb) (pa_cons pe_w pa_nil hs) hbase hfew hline hs hplain) ?_
  refine ⟨.inr (.inl ⟨rfl, _, hk, rfl, rfl⟩), ?_⟩
  refine he.thenE r s w fun d m1 c1 v H1 r1 s1 g1 h1 w1 => ?_
  split at w1
  · rename_i z
    split at w1
    · rename_i j hj
      obtain ⟨hl, hy, hn⟩ := List.findIdx?_eq_some_iff_getElem.mp hj
      refine ⟨t, ys, z, j, rfl, by rw [VD.str.mp h1], sq H1, ?_, fun k hk q => ?_, w1.now r1 (VD.int.mpr rfl)⟩
      · rw [List.getElem?_eq_getElem hl, eq_of_beq hy]
      · have := hn k hk
        obtain ⟨hk', e'⟩ := List.getElem?_eq_some_iff.mp q
        rw [e'] at this
        simp at this
    · exact w1.elim
  · exact w1.elim
/-! ### {k: v} -/
theorem Inv.frzD {pins : List (Addr × Obj)} {s : Shared} (I : Inv X pins σ H s) {a : Addr} {kvs : List (Key × V)} (h : H a = some (.dK kvs)) : ∃ o, Inv X pins σ (upd H a (.frz o (.dK kvs))) s := by
  obtain ⟨z, hS, vs, r, o, es, ep, e, q⟩ := I.hok a _ h
  refine ⟨o, I.un (h' := s.heap) (t' := s.toks) (H' := upd H a (.frz o (.dK kvs))) ⟨fun b o q _ _ _ => q, fun b o q _ _ _ => ⟨o.slots, q⟩, fun b o q n _ => ?_, fun b o q _ => ⟨o, q⟩, fun b ys q => ?_, fun b o u q => ?_, fun b ps q => ⟨#[], ?_⟩⟩ ?_⟩
  · rw [upd_ne (fun z => by rw [z, h] at n; cases n)]
    exact n
  · rw [upd_ne (ne_of q h (by intro z; cases z))]
    exact q
  · rw [upd_ne (ne_of q h (by intro z; cases z))]
    exact q
  · rw [upd_ne (ne_of q h (by intro z; cases z)), q]
    simp
  · intro b ob qb
    by_cases hb : b = a
    · subst hb
      rw [upd_same] at qb
      cases qb
      exact ⟨e, z, hS, vs, r, o, es, ep, e, q⟩
    · rw [upd_ne hb] at qb
      refine (I.hok b ob qb).stay (fun c u _ q => q) (fun c q => ?_) fun c ys q => ?_
      · rw [upd_ne (ne_of q h (by intro z; cases z))]
        exact q
      · rw [upd_ne (ne_of q h (by intro z; cases z))]
        exact q
def QD (Q : VK) : VK := fun v H => ∃ a kvs, v = .ref a ∧ H a = some (.dK kvs) ∧ ∀ o, Q v (upd H a (.frz o (.dK kvs)))
theorem WE.frzD {Q : VK} (h : WE X e σ H (QD Q)) : WE X e σ H Q := fun pins s I => thn (h pins s I) fun u s' ⟨v, H', I', r, a, kvs, e, h1, q⟩ => by
  obtain ⟨o, I2⟩ := Inv.frzD I' h1
  exact ⟨v, _, I2, r, q o⟩
def keyD : D → Option Key
  | .p (.int i) => some (.inl i)
  | .p (.str x) => some (.inr x)
  | _ => none
def mk1D (k v : D) (m : Store) : Res D := match keyD k, v with
  | some kk, .p d => .ok (.p (.dict [(keyP kk, d)])) m
  | _, _ => .stuck
def dct1E (fk fv : FE) : FE := fun ρ m => (fk ρ m).bind fun k m1 => (fv ρ m1).bind fun v m2 => mk1D k v m2
theorem de_dict1 {k v : Expr} {fk fv : FE} (hk : DE X W k fk) (hv : DE X W v fv) : DE X W (.Dict [some k] [v] pos) (dct1E fk fv) := fun c ρ m σ H Q r s w => by
  refine WE.frzD (we_of (pe_disp (pps_cons pe_w pe_w pps_nil) rfl rfl (by simp) (by simp)) fun p hp => ?_)
  have g0 : Gd X.K c c m H (upd H p (.dK [])) := r.lay hp
  have np : ¬ Has c p := r.not hp
  unfold dct1E at w
  refine hk c ρ m σ _ _ g0.rel (g0.slots s) ?_
  cases q1 : fk ρ m with
  | stuck => rw [q1] at w; exact w.elim
  | exc x m1 => rw [q1] at w; exact fun c1 cls dd H1 g1 h1 => w c1 cls dd H1 (g0.trans g1) h1
  | ok dk m1 =>
    rw [q1] at w
    replace w : Want X W c H σ ((fv ρ m1).bind fun v m2 => mk1D dk v m2) Q := w
    intro c1 vk H1 g1 h1
    have p1 : H1 p = some (.dK []) := g1.frame p _ np upd_same
    have np1 : ¬ Has c1 p := fun z => (g1.new p z).elim np fun e => by rw [upd_same] at e; cases e
    refine hv c1 ρ m1 σ _ _ g1.rel (g1.slots (g0.slots s)) ?_
    cases q2 : fv ρ m1 with
    | stuck => rw [q2] at w; exact w.elim
    | exc x m2 => rw [q2] at w; exact fun c2 cls dd H2 g2 h2 => w c2 cls dd H2 ((g0.trans g1).trans g2) h2
    | ok dv m2 =>
      rw [q2] at w
      replace w : Want X W c H σ (mk1D dk dv m2) Q := w
      intro c2 vv H2 g2 h2
      have gg := (g0.trans g1).trans g2
      have p2 : H2 p = some (.dK []) := g2.frame p _ np1 p1
      unfold mk1D at w
      split at w
      · rename_i kk d hkk
        have ek : vk = kV kk := by
          unfold keyD at hkk
          split at hkk
          · cases hkk; exact VD.int.mp h1
          · cases hkk; exact VD.str.mp h1
          · cases hkk
        refine ⟨p2, [(kk, vv)], by rw [ek]; rfl, by simp, p, _, rfl, upd_same, fun o => ?_⟩
        rw [upd_upd]
        have ex : Ext H2 (upd H2 p (.frz o (.dK (mergeK [] [(kk, vv)])))) := ⟨fun b xs e => by rw [upd_ne (ne_of e p2 (by intro z; cases z))]; exact e, fun b u x e => by rw [upd_ne (ne_of e p2 (by intro z; cases z))]; exact e⟩
        have np2 : ¬ Has c2 p := fun z => (g2.new p z).elim np1 fun e => by rw [p1] at e; cases e
        have g3 : Gd X.K c c2 m2 H (upd H2 p (.frz o (.dK (mergeK [] [(kk, vv)])))) := by
          refine ⟨gg.pre, gg.ext.trans ex, gg.new, fun b u hb e => ?_, gg.rel.len, gg.rel.inj, fun i b x k1 k2 => (gg.rel.at_ i b x k1 k2).mono ex (Pre.refl _) fun zs e => ?_⟩
          · rw [upd_ne (fun z => by rw [z, hp] at e; cases e)]
            exact gg.frame b u hb e
          · rw [upd_ne (fun z => np2 ⟨i, by rw [← z]; exact k1⟩)]
            exact e
        refine w c2 _ _ g3 ?_
        unfold VD
        unfold VD at h2
        refine .dK (kvs := [(kk, vv)]) upd_same rfl ?_
        exact .cons (DpZ.ext ex h2) .nil
      · exact w.elim
end
end L2.Dn
namespace L2.Dn
open PySem PySem.Spec PyProof.Rows L2
/-! ### the law's own call -/
/-- the heap that tracks the script alone -/
def onlyAt (a : Addr) (vs : List Value) (ns : List Int) : Hp := fun b => if b = a then some (.frz { cls := .type "list", data := .seq vs.toArray } (.lst (ns.map V.int))) else none
theorem onlyAt_eq {a b : Addr} {vs : List Value} {ns : List Int} {o : HO} (h : onlyAt a vs ns b = some o) : b = a ∧ o = .frz { cls := .type "list", data := .seq vs.toArray } (.lst (ns.map V.int)) := by
  unfold onlyAt at h
  split at h
  · rename_i e
    exact ⟨e, (Option.some.inj h).symm⟩
  · cases h
def nums (ns : List Int) : D := .p (.list (ns.map PyData.int))
theorem nums_dp {K : PySem.W.Frag} {H : Hp} : ∀ ns : List Int, DpZs K H (ns.map V.int) (ns.map PyData.int)
  | [] => .nil
  | n :: ns => .cons (.int n) (nums_dp ns)
section
variable {P : Program} {w : World} {K : PySem.W.Frag} {mg mb : Str → Option Value} {k : Nat} {fa a : Addr} {fd : FuncData} {x : Str} {den : Den} {s₁ : Shared} {vs : List Value} {ns : List Int}
theorem law_run (H : Hp) (KX : K.In s₁.heap) (hns : s₁.heap.Ns mainGlobals mg) (hb : s₁.heap.Ns builtinsNs mb) (hbb : ∀ x : Str, x ≠ "__name__" → mb x = bootBuiltins x) (hlim : s₁.heap.NoLimit) (hg : s₁.gens = #[])
    (ha : s₁.heap.get? a = some { cls := .type "list", data := .seq vs.toArray }) (hr : Room k callerA)
    (F : ∀ base : Heap, K.In base → base.Ns mainGlobals mg → FnG P w K mg base k fa fd [x] (spD K mg 1 den)) (hbind : ∀ (s : Shared) (u : Value), BindsTo s fd ⟨[u], []⟩ [(x, u)])
    (hden : ∃ g, den [nums ns] [] = .ok (.p (.bool true)) g)
    (hH : ∀ b o, H b = some o → b = a ∧ o = .frz { cls := .type "list", data := .seq vs.toArray } (.lst (ns.map V.int))) (hf : FzL K H a (ns.map V.int)) (hok : HOk P w H s₁.heap) (hK : H a = none ∨ K.lookup a = none) :
    codeAny (model P w) callerA (.call (.ref fa) ⟨[.ref a], []⟩) (fun r s' => r = .ok (.ret (.bool true)) ∧ OldK s₁.heap s'.heap ∧ s'.os = s₁.os ∧ AllBare s'.gens) s₁ := by
  have free : ∀ b o, s₁.heap.get? b = some o → (∀ vs n, o.data ≠ .seq vs n) → H b = none := fun b o e nd => by
    cases q : H b with
    | none => rfl
    | some u =>
      obtain ⟨rfl, _⟩ := hH b u q
      rw [ha] at e
      cases e
      exact (nd _ _ rfl).elim
  have nsK : ∀ {b : Addr} {m : Str → Option Value}, s₁.heap.Ns b m → (hidT s₁.heap H).Ns b m := fun {b m} ⟨o, es, ep, e, d, r⟩ =>
    ⟨o, es, ep, hidT_get e (free b o e fun _ _ z => by rw [d] at z; cases z), d, r⟩
  have kb : K.In (hidT s₁.heap H) := fun b o e => hidT_get (KX b o e) (by
    cases q : H b with
    | none => rfl
    | some u =>
      obtain ⟨rfl, _⟩ := hH b u q
      rcases hK with z | z
      · rw [q] at z; cases z
      · rw [z] at e; cases e)
  have hM : Mod K mg (hidT s₁.heap H) := ⟨kb, nsK hns, ⟨mb, nsK hb, hbb⟩, let ⟨mc, h1, h2⟩ := hlim; ⟨mc, nsK h1, h2⟩⟩
  have e0 : Env0 P w K mg (hidT s₁.heap H) callerA [] s₁ H :=
    { frames := rfl, mod := hM, bs := fun b o e => of_hidT e, bsz := Nat.le_of_eq (hidT_size _ _), funs := trivial, frf := fun b hb => absurd (show b ∈ ([] : List Addr) from hb) List.not_mem_nil, hok := hok, bare := .of_eq hg }
  have R0 : RelS K ⟨[], []⟩ ⟨[], []⟩ H := by
    refine ⟨⟨rfl, rfl⟩, fun i j b x y h1 => ?_, fun i b x h1 => ?_⟩
    · cases i <;> cases h1
    · cases i <;> cases h1
  have want : spD K mg 1 den [.ref a] H (fun v _ => v = .bl true) (fun _ _ _ => False) := by
    obtain ⟨g, e⟩ := hden
    refine ⟨[], [nums ns], [], rfl, R0, VDs.one (by unfold nums VD; exact .lst hf (nums_dp ns)), ?_⟩
    rw [e]
    exact fun cg' v H' _ hv => VD.bl.mp hv
  refine codeAny_mono ((F _ kb (nsK hns)).go callerA [] s₁ H ⟨[.ref a], []⟩ [.ref a] [.ref a] _ _ rfl hr e0 (hbind s₁ (.ref a)) (.cons rfl .nil) want) fun out s' q => ?_
  match out, q with
  | .error e, q => obtain ⟨_, _, _, _, _, _, _, _, _, _, _, _, z⟩ := q; exact z.elim
  | .ok (.ret u), q =>
    obtain ⟨v, H', os, bare, un, hok', rv, ev⟩ := q
    have ev : v = .bl true := ev
    subst ev
    obtain rfl : u = Value.bool true := rv
    refine ⟨rfl, OldK.of_keep fun b o e => ?_, os, bare⟩
    cases q : H b with
    | none => exact un.keep b o e q (fun z => absurd (show b ∈ ([] : List Addr) from z) List.not_mem_nil) List.not_mem_nil
    | some u =>
      obtain ⟨_, rfl⟩ := hH b u q
      have z1 := (hok b _ q).1
      have z2 := (hok' b _ (un.frzs b _ _ q)).1
      rw [e] at z1
      rw [z2, z1]
theorem law_den (KX : K.In s₁.heap) (hns : s₁.heap.Ns mainGlobals mg) (hb : s₁.heap.Ns builtinsNs mb) (hbb : ∀ x : Str, x ≠ "__name__" → mb x = bootBuiltins x) (hlim : s₁.heap.NoLimit) (hg : s₁.gens = #[])
    (ha : s₁.heap.get? a = some { cls := .type "list", data := .seq vs.toArray }) (hi : IntsAre vs ns) (hl : ns.length ≤ sizeLine) (hr : Room k callerA)
    (F : ∀ base : Heap, K.In base → base.Ns mainGlobals mg → FnG P w K mg base k fa fd [x] (spD K mg 1 den)) (hbind : ∀ (s : Shared) (u : Value), BindsTo s fd ⟨[u], []⟩ [(x, u)])
    (hden : ∃ g, den [nums ns] [] = .ok (.p (.bool true)) g) :
    codeAny (model P w) callerA (.call (.ref fa) ⟨[.ref a], []⟩) (fun r s' => r = .ok (.ret (.bool true)) ∧ OldK s₁.heap s'.heap ∧ s'.os = s₁.os ∧ AllBare s'.gens) s₁ := by
  have rv := vals_ints hi
  have lv := hi.length
  cases hk : K.lookup a with
  | some o =>
    have e := KX a o hk
    rw [ha] at e
    cases e
    refine law_run (fun _ => none) KX hns hb hbb hlim hg ha hr F hbind hden (fun b o z => nomatch z) (.inr ⟨vs.toArray, 0, hk, ?_, by simpa using rv⟩) (fun b o z => nomatch z) (.inl rfl)
    rw [List.size_toArray, lv]
    exact hl
  | none =>
    have ta : onlyAt a vs ns a = some (.frz { cls := .type "list", data := .seq vs.toArray } (.lst (ns.map V.int))) := if_pos rfl
    refine law_run (onlyAt a vs ns) KX hns hb hbb hlim hg ha hr F hbind hden (fun b o z => onlyAt_eq z) (.inl ⟨_, ta⟩) (fun b o z => ?_) (.inr hk)
    obtain ⟨rfl, rfl⟩ := onlyAt_eq z
    exact ⟨ha, by rw [List.length_map]; exact hl, vs, _, rv, ha⟩
end
/-- the goal that k_head leaves, from the law's denotation -/
theorem walk_den {l : PySem.W.OpenLaw} {n k : Nat} {q : Program} {loose : List Str} {XP : (Str → Option Value) → Heap → Prop} {YP : World → Heap → Prop} {d : DefRec} {K : Params → PySem.W.Frag} {den : Den} {x : Str}
    (hn : l.most = some n) (hn2 : n ≤ sizeLine) (hdf : d.params.defaults = []) (hr : Room k callerA) (hY : ∀ (w : World) (h : Heap), YP w h → (K w.params).In h)
    (F : ∀ (w : World) (mg : Str → Option Value) (fa : Addr) (h : Heap), (K w.params).In h → h.Ns mainGlobals mg → mg d.name = some (.ref fa) →
      ∃ fd : FuncData, (∀ (s : Shared) (u : Value), BindsTo s fd ⟨[u], []⟩ [(x, u)]) ∧ ∀ base : Heap, (K w.params).In base → base.Ns mainGlobals mg → FnG l.prog w (K w.params) mg base k fa fd [x] (spD (K w.params) mg 1 den))
    (hden : ∀ ns : List Int, ns.length ≤ n → ∃ g, den [nums ns] [] = .ok (.p (.bool true)) g) : PySem.W.WalkO q loose XP YP l.row.toRowW d [] (fun f vs => PySem.call f vs) := by
  refine Att.attach_call hn hdf fun w s₀ s₁ mg mb fa o pm cd doc a vs ns G Y _ _ _ hmg hobj hints hlen hg => ?_
  obtain ⟨fd, hb, hF⟩ := F w mg fa _ (hY w _ Y) G.T.g hmg
  exact law_den (hY w _ Y) G.T.g G.T.b G.T.builtins G.T.nolimit hg hobj hints (Nat.le_trans hlen hn2) hr hF hb (hden ns hlen)
end L2.Dn
namespace L2.Dn
open PySem PySem.Spec PyProof.Rows L2
/-! ### one operation of several kinds -/
def altO (g h : D → D → Store → OD) : D → D → Store → OD := fun x y m => match g x y m with
  | some r => some r
  | none => h x y m
def altS (g h : D → Option Int → Option Int → Store → OD) : D → Option Int → Option Int → Store → OD := fun x lo hi m => match g x lo hi m with
  | some r => some r
  | none => h x lo hi m
section
variable {X : Cx}
theorem rOf_alt {K : PySem.W.Frag} {g h : D → D → Store → OD} {x y : V} {H : Hp} {Q : VK} (w : rOf K (altO g h) x y H Q) : rOf K g x y H Q ∨ rOf K h x y H Q := by
  obtain ⟨c, m, dx, dy, r, h1, h2, w⟩ := w
  unfold altO at w
  cases q : g dx dy m with
  | some z => rw [q] at w; exact .inl ⟨c, m, dx, dy, r, h1, h2, by rw [q]; exact w⟩
  | none => rw [q] at w; exact .inr ⟨c, m, dx, dy, r, h1, h2, w⟩
theorem OpR.alt {fn : Value → Value → Sem Value} {g h : D → D → Store → OD} (a : OpR X fn (rOf X.K g)) (b : OpR X fn (rOf X.K h)) : OpR X fn (rOf X.K (altO g h)) := fun pins s σ H x y v u Q I rx ry w =>
  (rOf_alt w).elim (a pins s σ H x y v u Q I rx ry) (b pins s σ H x y v u Q I rx ry)
theorem SlR.alt {g h : D → Option Int → Option Int → Store → OD} (a : SlR X (rOfS X.K g)) (b : SlR X (rOfS X.K h)) : SlR X (rOfS X.K (altS g h)) := fun pins s σ H x v vl vu lo hi sl Q I rx hs pl pu w => by
  obtain ⟨c, m, dx, r, h1, w⟩ := w
  unfold altS at w
  cases q : g dx lo hi m with
  | some z => rw [q] at w; exact a pins s σ H x v vl vu lo hi sl Q I rx hs pl pu ⟨c, m, dx, r, h1, by rw [q]; exact w⟩
  | none => rw [q] at w; exact b pins s σ H x v vl vu lo hi sl Q I rx hs pl pu ⟨c, m, dx, r, h1, w⟩
def addD (z : Md) := altO addI (altO addS (altO (addL z) addT))
theorem op_addD (z : Md) : OpR X (binaryOp .Add) (rOf X.K (addD z)) := OpR.alt op_addI (OpR.alt op_addS (OpR.alt (op_addL z) op_addT))
def mulD := altO mulI mulS
theorem op_mulD : OpR X (binaryOp .Mult) (rOf X.K mulD) := OpR.alt op_mulI op_mulS
def slD (z : Md) := altS (slL z) (altS slS slT)
theorem sl_D (z : Md) : SlR X (rOfS X.K (slD z)) := SlR.alt (sl_L z) (SlR.alt sl_S sl_T)
/-- two texts, whatever they hold; else deep data -/
def eqS (neg : Bool) : D → D → Store → OD
  | .p (.str x), .p (.str y), m => some (.p (.bool (if neg then !(x == y) else x == y)), m)
  | _, _, _ => none
theorem op_eqS : OpR X (compareOp .Eq) (rOf X.K (eqS false)) := by
  refine OpR.by_ L2.op_eq fun x y H Q w => ?_
  obtain ⟨c, m, dx, dy, r, h1, h2, w⟩ := w
  unfold eqS at w
  split at w
  · cases VD.str.mp h1
    cases VD.str.mp h2
    exact ⟨rfl, by rw [dec_str]; exact .inl (WantO.now r w (VD.bl.mpr rfl))⟩
  · exact w.elim
theorem op_neS : OpR X (compareOp .NotEq) (rOf X.K (eqS true)) := by
  refine OpR.by_ L2.op_ne fun x y H Q w => ?_
  obtain ⟨c, m, dx, dy, r, h1, h2, w⟩ := w
  unfold eqS at w
  split at w
  · cases VD.str.mp h1
    cases VD.str.mp h2
    exact ⟨rfl, by rw [dec_str]; exact .inl (WantO.now r w (VD.bl.mpr rfl))⟩
  · exact w.elim
def eqG (neg : Bool) := altO (eqS neg) (eqP neg)
theorem op_eqG' (hu : X.A.units + 64 < cLine) : OpR X (compareOp .Eq) (rOf X.K (eqG false)) := OpR.alt op_eqS (op_eqP hu)
theorem op_neG' (hu : X.A.units + 64 < cLine) : OpR X (compareOp .NotEq) (rOf X.K (eqG true)) := OpR.alt op_neS (op_neP hu)
def inD := altO (inSg false) (altO (inTs false) (inL false))
theorem op_inD' (hu : X.A.units + 65 < cLine) : OpR X (compareOp .In) (rOf X.K inD) := OpR.alt op_inSg (OpR.alt op_inTs (op_inL hu))
def notInD := altO (inSg true) (inL true)
theorem op_notInD' (hu : X.A.units + 65 < cLine) : OpR X (compareOp .NotIn) (rOf X.K notInD) := OpR.alt op_notInSg (op_notInL hu)
theorem u65 {k : Nat} {A : Around} (hr : Room k A) : A.units + 65 < cLine := by have := hr.un; omega
theorem u64 {k : Nat} {A : Around} (hr : Room k A) : A.units + 64 < cLine := by have := hr.un; omega
end
/-- a tuple of texts of the module -/
structure KTup (K : PySem.W.Frag) (mg : Str → Option Value) (x : Str) (ys : List Str) (t : Addr) (its : Array Value) (n : Nat) (sl : Array (Option Value)) : Prop where
  g : mg x = some (.ref t)
  k : K.lookup t = some ⟨.type "tuple", none, .seq its n, sl⟩
  z : its.size ≤ sizeLine
  v : Vals (ys.map V.str) its.toList
theorem strs_dp {K : PySem.W.Frag} {H : Hp} : ∀ ys : List Str, DpZs K H (ys.map V.str) (ys.map PyData.str)
  | [] => .nil
  | y :: ys => .cons (.str y) (strs_dp ys)
theorem KTup.dp {K : PySem.W.Frag} {mg : Str → Option Value} {x : Str} {ys : List Str} {t : Addr} {its : Array Value} {n : Nat} {sl : Array (Option Value)} (h : KTup K mg x ys t its n sl) (H : Hp) : DpZ K H (.ref t) (.tuple (ys.map PyData.str)) :=
  .tup (.inr ⟨_, its, n, h.k, rfl, rfl, h.z, h.v⟩) (strs_dp ys)
section
variable {X : Cx} {W : WX} {pos : Pos} {x : Str}
theorem de_gStr {z : Str} (h : ∃ t, X.mg x = some (.str z t)) (hg : Gl X x := by rfl) (hd : (x == ("__debug__" : Str)) = false := by decide) : DE X W (.Name x pos) (cE (.str z)) := by
  obtain ⟨t, h⟩ := h
  exact de_glob (v := .str z) hg h ⟨t, rfl⟩ (fun _ => .str z) hd
theorem de_gInt {z : Int} (h : ∃ t, X.mg x = some (.int z t)) (hg : Gl X x := by rfl) (hd : (x == ("__debug__" : Str)) = false := by decide) : DE X W (.Name x pos) (cE (.int z)) := by
  obtain ⟨t, h⟩ := h
  exact de_glob (v := .int z) hg h ⟨t, rfl⟩ (fun _ => .int z) hd
theorem de_gTup {ys : List Str} {t : Addr} {its : Array Value} {n : Nat} {sl : Array (Option Value)} (h : KTup X.K X.mg x ys t its n sl) (hg : Gl X x := by rfl) (hd : (x == ("__debug__" : Str)) = false := by decide) : DE X W (.Name x pos) (cE (.tuple (ys.map .str))) :=
  de_glob (v := .ref t) hg h.g rfl h.dp hd
theorem blk_by {N : List Str} {sc scope : Scope} {own : List (Str × Nat)} (h : blkC N sc scope own = true) : blkC N sc scope own = true := h
end
end L2.Dn
namespace L2.Dn
open PySem PySem.Spec PyProof.Rows L2
/-! ### evaluation: what the operations do on data of known form -/
variable {m : Store} {z : Md}
theorem eqP_int (n : Bool) (i j : Int) : eqP n (.p (.int i)) (.p (.int j)) m = some (.p (.bool (if n then !(i == j) else (i == j))), m) := by
  simp only [eqP, whole_p, SeqAt.shaped, PyData.canLay0, PyData.depth, PyData.eqv]
  rfl
theorem eqG_int (n : Bool) (i j : Int) : eqG n (.p (.int i)) (.p (.int j)) m = some (.p (.bool (if n then !(i == j) else (i == j))), m) := eqP_int n i j
theorem eqG_str (n : Bool) (x y : Str) : eqG n (.p (.str x)) (.p (.str y)) m = some (.p (.bool (if n then !(x == y) else (x == y))), m) := rfl
theorem addD_int (i j : Int) : addD z (.p (.int i)) (.p (.int j)) m = some (.p (.int (i + j)), m) := rfl
theorem subI_int (i j : Int) : subI (.p (.int i)) (.p (.int j)) m = some (.p (.int (i - j)), m) := rfl
theorem ltI_int (i j : Int) : ltI (.p (.int i)) (.p (.int j)) m = some (.p (.bool (decide (i < j))), m) := rfl
theorem leI_int (i j : Int) : leI (.p (.int i)) (.p (.int j)) m = some (.p (.bool (decide (i ≤ j))), m) := rfl
theorem gtI_int (i j : Int) : gtI (.p (.int i)) (.p (.int j)) m = some (.p (.bool (decide (j < i))), m) := rfl
theorem geI_int (i j : Int) : geI (.p (.int i)) (.p (.int j)) m = some (.p (.bool (decide (j ≤ i))), m) := rfl
theorem mulD_int {i j : Int} (h : (small i || small j) = true) : mulD (.p (.int i)) (.p (.int j)) m = some (.p (.int (i * j)), m) := by
  simp only [mulD, altO, mulI, intOp, h, if_true]
theorem modI_int {i j : Int} (h : 0 < j) : modI (.p (.int i)) (.p (.int j)) m = some (.p (.int (i % j)), m) := by
  simp only [modI, intOp, decide_eq_true h, if_true]
theorem fdivI_int {i j : Int} (h : 0 < j) (h2 : j < 2 ^ 64) : fdivI (.p (.int i)) (.p (.int j)) m = some (.p (.int (i / j)), m) := by
  simp only [fdivI, intOp, decide_eq_true h, decide_eq_true h2, Bool.and_self, if_true]
theorem intD_int (i : Int) : intD [.p (.int i)] m = some (.p (.int i), m) := rfl
theorem absD_int (i : Int) : absD [.p (.int i)] m = some (.p (.int (if i < 0 then -i else i)), m) := rfl
theorem negI_int (i : Int) : negI (.p (.int i)) m = some (.p (.int (-i)), m) := rfl
theorem lenD_list (ds : List PyData) : lenD [.p (.list ds)] m = some (.p (.int ds.length), m) := by
  simp only [lenD, tupOf, lstOf, List.length_map]
theorem lenD_tuple (ds : List PyData) : lenD [.p (.tuple ds)] m = some (.p (.int ds.length), m) := by
  simp only [lenD, tupOf, List.length_map]
theorem ixN_nat {n k : Nat} (h : k < n) : ixN n (k : Int) = some k := by
  unfold ixN
  rw [if_pos (by omega), if_pos (by omega)]
  simp
theorem atI_at {α : Type} {xs : List α} {k : Int} (h0 : 0 ≤ k) : L2.atI xs k = xs[k.toNat]? := by
  unfold L2.atI ixN
  rw [if_pos h0]
  split
  · rfl
  · rw [List.getElem?_eq_none (by omega)]
    rfl
theorem ixD_list {ds : List PyData} {k : Int} (h : 0 ≤ k) : ixD (.p (.list ds)) (.p (.int k)) m = (ds[k.toNat]?).map fun d => (.p d, m) := by
  simp only [ixD, tupOf, lstOf, atI_at h, List.getElem?_map, Option.map_map]
  rfl
theorem ixD_cell {i : Ix} {xs : List D} {k : Int} (e : m.at_ i = some (.lst xs)) (h : 0 ≤ k) : ixD (.cell i) (.p (.int k)) m = (xs[k.toNat]?).map fun d => (d, m) := by
  simp only [ixD, tupOf, lstOf, e, atI_at h]
theorem setItemD_cell {i : Ix} {xs : List D} {k : Int} {d : D} (e : m.at_ i = some (.lst xs)) (h : 0 ≤ k) (hl : k < xs.length) (hd : okIn d i = true) : setItemD (.cell i) (.p (.int k)) d m = some (m.set (.lst (xs.set k.toNat d)) i) := by
  have e1 : ixN xs.length k = some k.toNat := by
    unfold ixN
    rw [if_pos h, if_pos hl]
  simp only [setItemD, e, e1, hd, if_true]
theorem getL_cell {i : Ix} {xs : List D} {k : Int} (e : m.at_ i = some (.lst xs)) (h : 0 ≤ k) : getL (.cell i) (.p (.int k)) m = xs[k.toNat]? := by
  simp only [getL, if_pos h, lstOf, e]
/-! ### the bag of draws -/
structure Bag where
  b0 : Int
  b1 : Int
  b2 : Int
  cs : List Int
def Bag.cell (b : Bag) : Cell := .lst [.p (.int b.b0), .p (.int b.b1), .p (.int b.b2), .p (.list (b.cs.map .int))]
structure Bag.Ok (b : Bag) : Prop where
  h0 : 0 ≤ b.b0
  h1 : 0 ≤ b.b1
  h1' : b.b1 < 2147483647
  h2 : 0 ≤ b.b2
  hc : ∀ c ∈ b.cs, 0 ≤ c
/-! ### the combinators on results of known form -/
section
variable {α β : Type} {a : α} {x : Exn} {ρ : Rho} {d : D}
theorem bind_ok {k : α → Store → Res β} : (Res.ok a m).bind k = k a m := rfl
theorem bind_exc {k : α → Store → Res β} : (Res.exc x m : Res α).bind k = .exc x m := rfl
theorem bindS_ok {k : α → Store → SRes} : (Res.ok a m).bindS ρ k = k a m := rfl
theorem bindS_exc {k : α → Store → SRes} : (Res.exc x m : Res α).bindS ρ k = .exc x ρ m := rfl
theorem lift_some : lift (some (d, m)) = .ok d m := rfl
theorem testR_ok {b : Bool} : testR (.ok (.p (.bool b)) m) = .ok b m := rfl
theorem seq_nx {k : FS} : (SRes.nx ρ m).seq k = k ρ m := rfl
theorem seq_rt {k : FS} : (SRes.rt d m).seq k = .rt d m := rfl
theorem seq_bk {k : FS} : (SRes.bk ρ m).seq k = .bk ρ m := rfl
theorem seq_ct {k : FS} : (SRes.ct ρ m).seq k = .ct ρ m := rfl
theorem fin_rt {d : PyData} : fin (.rt (.p d) m) = .ok (.p d) m.g := rfl
theorem fin_cell {i : Nat} : fin (.rt (.cell (.g i)) m) = .ok (.cell (.g i)) m.g := rfl
theorem res_ok {d : D} {g l : List Cell} : (RG.ok d g).res l = .ok d ⟨g, l⟩ := rfl
theorem opE_eq (g : D → D → Store → OD) (fa fb : FE) : opE g fa fb ρ m = (fa ρ m).bind fun x m1 => (fb ρ m1).bind fun y m2 => lift (g x y m2) := rfl
theorem vE_0 {r : Rho} : vE 0 (some d :: r) m = .ok d m := rfl
theorem vE_s {i : Nat} {o : Option D} {r : Rho} : vE (i + 1) (o :: r) m = vE i r m := by
  unfold vE
  rw [List.getElem?_cons_succ]
theorem mapO_some {γ δ : Type} (f : γ → δ) (c : γ) : Option.map f (some c) = some (f c) := rfl
theorem gset {g l : List Cell} {c : Cell} {i : Nat} : (⟨g, l⟩ : Store).set c (.g i) = ⟨g.set i c, l⟩ := rfl
theorem gat {g l : List Cell} {i : Nat} : (⟨g, l⟩ : Store).at_ (.g i) = g[i]? := rfl
theorem lat {g l : List Cell} {i : Nat} : (⟨g, l⟩ : Store).at_ (.l i) = l[i]? := rfl
theorem okIn_p {d : PyData} {i : Ix} : okIn (.p d) i = true := by cases i <;> rfl
theorem ite_tt {γ : Type} {a b : γ} : (if true = true then a else b) = a := rfl
theorem ite_ff {γ : Type} {a b : γ} : (if false = true then a else b) = b := rfl
end
end L2.Dn
namespace L2.Dn
open PySem PySem.Spec PyProof.Rows L2
/-! ### the bag and the draws: the same text in every law -/
def takeB : FS := (seqS (ifS (testE (opE (eqG false) (opE ixD (vE 0) (cE (.int 0))) (cE (.int 0)))) (seqS (setS 2 (cE (.int 0)))
  (seqS (ifS (testE (opE ltI (opE ixD (vE 0) (cE (.int 2))) (calE lenD (consA (opE ixD (vE 0) (cE (.int 3))) nilA)))) (setS 2 (opE ixD (opE ixD (vE 0) (cE (.int 3))) (opE ixD (vE 0) (cE (.int 2))))) nilS)
  (seqS (augI addI (vE 0) (cE (.int 2)) (cE (.int 1)))
  (seqS (ifS (testE (opE geI (vE 2) (opE powI (cE (.int 10)) (cE (.int 18))))) (asgS (vE 2) (subG (vE 0) (cE (.int 0)))) nilS)
  (seqS (setS 3 (opE (addD .z) (opE (addD .z) (opE mulD (opE ixD (vE 0) (cE (.int 1))) (cE (.int 48271))) (opE modI (calE intD (consA (vE 2) nilA)) (cE (.int 2147483647)))) (opE mulD (cE (.int 7919)) (opE ixD (vE 0) (cE (.int 2))))))
  (asgS (opE modI (calE intD (consA (vE 3) nilA)) (cE (.int 2147483647))) (subG (vE 0) (cE (.int 1))))))))) nilS)
  (seqS (ifS (testE (opE gtI (opE ixD (vE 0) (cE (.int 0))) (cE (.int 0)))) (seqS (setS 4 (opE modI (calE intD (consA (opE ixD (vE 0) (cE (.int 0))) nilA)) (vE 1)))
  (seqS (asgS (opE fdivI (calE intD (consA (opE ixD (vE 0) (cE (.int 0))) nilA)) (vE 1)) (subG (vE 0) (cE (.int 0))))
  (retS (vE 4)))) nilS)
  (seqS (setS 5 (opE modI (calE intD (consA (opE mulD (opE (addD .z) (opE ixD (vE 0) (cE (.int 1))) (cE (.int 1))) (cE (.int 39373))) nilA)) (cE (.int 1000000007))))
  (seqS (setS 6 (opE modI (calE intD (consA (opE mulD (vE 5) (vE 5)) nilA)) (cE (.int 998244353))))
  (seqS (setS 6 (opE modI (calE intD (consA (opE mulD (vE 6) (cE (.int 30011))) nilA)) (cE (.int 998244353))))
  (seqS (ifS (testE (opE gtI (vE 1) (cE (.int 1000000)))) (retS (opE modI (calE intD (consA (opE (addD .z) (opE mulD (vE 6) (cE (.int 1000000007))) (vE 5)) nilA)) (vE 1))) nilS)
  (retS (opE modI (calE intD (consA (opE fdivI (vE 6) (cE (.int 7))) nilA)) (vE 1)))))))))
def bagB : FS := (retS (lstE .g (consA (cE (.int 0)) (consA (cE (.int 1234567891)) (consA (cE (.int 0)) (consA (lcE .z [1] (walkI (slE (slD .z) (vE 0) noO (someO (cE (.int 63))))) (oneG 1) yesT (calE absD (consA (vE 1) nilA))) nilA))))))
def alikeB : FS := (retS (andE (opE (eqG false) (vE 0) (vE 1)) (opE (eqG false) (calE reprD (consA (vE 0) nilA)) (calE reprD (consA (vE 1) nilA)))))
/-- the bag's list, at the store's head -/
def bagC (a b c : Int) (cs : List PyData) : Cell := .lst [.p (.int a), .p (.int b), .p (.int c), .p (.list cs)]
section
variable {a b c d : Int} {cs : List PyData} {g l : List Cell}
theorem bix0 : ixD (.cell (.g 0)) (.p (.int 0)) ⟨bagC a b c cs :: g, l⟩ = some (.p (.int a), ⟨bagC a b c cs :: g, l⟩) := rfl
theorem bix1 : ixD (.cell (.g 0)) (.p (.int 1)) ⟨bagC a b c cs :: g, l⟩ = some (.p (.int b), ⟨bagC a b c cs :: g, l⟩) := rfl
theorem bix2 : ixD (.cell (.g 0)) (.p (.int 2)) ⟨bagC a b c cs :: g, l⟩ = some (.p (.int c), ⟨bagC a b c cs :: g, l⟩) := rfl
theorem bix3 : ixD (.cell (.g 0)) (.p (.int 3)) ⟨bagC a b c cs :: g, l⟩ = some (.p (.list cs), ⟨bagC a b c cs :: g, l⟩) := rfl
theorem bset0 : setItemD (.cell (.g 0)) (.p (.int 0)) (.p (.int d)) ⟨bagC a b c cs :: g, l⟩ = some ⟨bagC d b c cs :: g, l⟩ := rfl
theorem bset1 : setItemD (.cell (.g 0)) (.p (.int 1)) (.p (.int d)) ⟨bagC a b c cs :: g, l⟩ = some ⟨bagC a d c cs :: g, l⟩ := rfl
theorem bset2 : setItemD (.cell (.g 0)) (.p (.int 2)) (.p (.int d)) ⟨bagC a b c cs :: g, l⟩ = some ⟨bagC a b d cs :: g, l⟩ := rfl
theorem bget2 : getL (.cell (.g 0)) (.p (.int 2)) ⟨bagC a b c cs :: g, l⟩ = some (.p (.int c)) := rfl
end
theorem addI_int {m : Store} (i j : Int) : addI (.p (.int i)) (.p (.int j)) m = some (.p (.int (i + j)), m) := rfl
theorem mul_r {m : Store} {i j : Int} (h : small j = true) : mulD (.p (.int i)) (.p (.int j)) m = some (.p (.int (i * j)), m) := mulD_int (by rw [h, Bool.or_true])
theorem mul_l {m : Store} {i j : Int} (h : small i = true) : mulD (.p (.int i)) (.p (.int j)) m = some (.p (.int (i * j)), m) := mulD_int (by rw [h]; rfl)
theorem small_of {i : Int} (h0 : 0 ≤ i) (h : i < 2 ^ 64) : small i = true := by
  have h1 : -(2 ^ 64) < i := by omega
  simp only [small, decide_eq_true h1, decide_eq_true h, Bool.and_self]
theorem pow18 {m : Store} : powI (.p (.int 10)) (.p (.int 18)) m = some (.p (.int 1000000000000000000), m) := rfl
local macro_rules | `(tactic| walk_at "ev") => `(tactic| try simp only [seqS, ifS, setS, asgS, subG, augI, retS, exprS, nilS, testE, opE_eq, calE, consA, nilA, cE, vE_0, vE_s, bind_ok, bindS_ok, lift_some, testR_ok, seq_nx, seq_rt, fin_rt, res_ok, List.set_cons_zero, List.set_cons_succ,
  bix0, bix1, bix2, bix3, bset0, bset1, bset2, bget2, addI_int, pow18, ite_tt, ite_ff, addD_int, subI_int, ltI_int, leI_int, gtI_int, geI_int, eqG_int, intD_int, lenD_list, Bool.false_eq_true, if_false, if_true])
/-- the bag holds whole numbers, none below 0 -/
structure BagOk (a b c : Int) (cs : List PyData) : Prop where
  h0 : 0 ≤ a
  h1 : 0 ≤ b
  h1' : b < 2147483647
  h2 : 0 ≤ c
  hc : ∀ x ∈ cs, ∃ i : Int, x = .int i ∧ 0 ≤ i
/-- the draw's second half -/
def takeT : FS := (seqS (ifS (testE (opE gtI (opE ixD (vE 0) (cE (.int 0))) (cE (.int 0)))) (seqS (setS 4 (opE modI (calE intD (consA (opE ixD (vE 0) (cE (.int 0))) nilA)) (vE 1)))
  (seqS (asgS (opE fdivI (calE intD (consA (opE ixD (vE 0) (cE (.int 0))) nilA)) (vE 1)) (subG (vE 0) (cE (.int 0))))
  (retS (vE 4)))) nilS)
  (seqS (setS 5 (opE modI (calE intD (consA (opE mulD (opE (addD .z) (opE ixD (vE 0) (cE (.int 1))) (cE (.int 1))) (cE (.int 39373))) nilA)) (cE (.int 1000000007))))
  (seqS (setS 6 (opE modI (calE intD (consA (opE mulD (vE 5) (vE 5)) nilA)) (cE (.int 998244353))))
  (seqS (setS 6 (opE modI (calE intD (consA (opE mulD (vE 6) (cE (.int 30011))) nilA)) (cE (.int 998244353))))
  (seqS (ifS (testE (opE gtI (vE 1) (cE (.int 1000000)))) (retS (opE modI (calE intD (consA (opE (addD .z) (opE mulD (vE 6) (cE (.int 1000000007))) (vE 5)) nilA)) (vE 1))) nilS)
  (retS (opE modI (calE intD (consA (opE fdivI (vE 6) (cE (.int 7))) nilA)) (vE 1))))))))
def takeS : FS := (ifS (testE (opE (eqG false) (opE ixD (vE 0) (cE (.int 0))) (cE (.int 0)))) (seqS (setS 2 (cE (.int 0)))
  (seqS (ifS (testE (opE ltI (opE ixD (vE 0) (cE (.int 2))) (calE lenD (consA (opE ixD (vE 0) (cE (.int 3))) nilA)))) (setS 2 (opE ixD (opE ixD (vE 0) (cE (.int 3))) (opE ixD (vE 0) (cE (.int 2))))) nilS)
  (seqS (augI addI (vE 0) (cE (.int 2)) (cE (.int 1)))
  (seqS (ifS (testE (opE geI (vE 2) (opE powI (cE (.int 10)) (cE (.int 18))))) (asgS (vE 2) (subG (vE 0) (cE (.int 0)))) nilS)
  (seqS (setS 3 (opE (addD .z) (opE (addD .z) (opE mulD (opE ixD (vE 0) (cE (.int 1))) (cE (.int 48271))) (opE modI (calE intD (consA (vE 2) nilA)) (cE (.int 2147483647)))) (opE mulD (cE (.int 7919)) (opE ixD (vE 0) (cE (.int 2))))))
  (asgS (opE modI (calE intD (consA (vE 3) nilA)) (cE (.int 2147483647))) (subG (vE 0) (cE (.int 1))))))))) nilS)
theorem takeB_eq : takeB = seqS takeS takeT := rfl
theorem takeT_ok {a b c n : Int} {cs : List PyData} {g l : List Cell} {o2 o3 : Option D} (hb : BagOk a b c cs) (h0 : 0 < n) (h1 : n < 2 ^ 64) :
    ∃ r a', 0 ≤ r ∧ r < n ∧ BagOk a' b c cs ∧ fin (takeT [some (.cell (.g 0)), some (.p (.int n)), o2, o3, none, none, none] ⟨bagC a b c cs :: g, l⟩) = .ok (.p (.int r)) (bagC a' b c cs :: g) := by
  unfold takeT
  by_cases hz : 0 < a
  · refine ⟨a % n, a / n, Int.emod_nonneg _ (by omega), Int.emod_lt_of_pos _ h0, ⟨Int.ediv_nonneg hb.h0 (by omega), hb.h1, hb.h1', hb.h2, hb.hc⟩, ?_⟩
    walk_at "ev"
    simp only [decide_eq_true hz, if_true]
    walk_at "ev"
    simp only [modI_int h0, fdivI_int h0 h1]
    walk_at "ev"
    simp only [fdivI_int h0 h1]
    walk_at "ev"
  · have d0 : (0 : Int) < 1000000007 := by decide
    have d1 : (0 : Int) < 998244353 := by decide
    have d7 : (0 : Int) < 7 := by decide
    have d8 : (7 : Int) < 2 ^ 64 := by decide
    have s0 : small 39373 = true := by decide
    have s1 : small 30011 = true := by decide
    have s2 : small 1000000007 = true := by decide
    have s3 : small ((b + 1) * 39373 % 1000000007) = true := small_of (Int.emod_nonneg _ (by decide)) (Int.lt_trans (Int.emod_lt_of_pos _ d0) (by decide))
    by_cases hm : 1000000 < n
    · refine ⟨(((((b + 1) * 39373 % 1000000007) * ((b + 1) * 39373 % 1000000007) % 998244353) * 30011 % 998244353) * 1000000007 + ((b + 1) * 39373 % 1000000007)) % n, a, Int.emod_nonneg _ (by omega), Int.emod_lt_of_pos _ h0, hb, ?_⟩
      walk_at "ev"
      simp only [decide_eq_false hz, Bool.false_eq_true, if_false]
      walk_at "ev"
      simp only [mul_r s0]
      walk_at "ev"
      simp only [modI_int d0]
      walk_at "ev"
      simp only [mul_r s3]
      walk_at "ev"
      simp only [modI_int d1]
      walk_at "ev"
      simp only [mul_r s1]
      walk_at "ev"
      simp only [modI_int d1]
      walk_at "ev"
      simp only [decide_eq_true hm, if_true]
      walk_at "ev"
      simp only [mul_r s2]
      walk_at "ev"
      simp only [modI_int h0]
      walk_at "ev"
    · refine ⟨((((b + 1) * 39373 % 1000000007) * ((b + 1) * 39373 % 1000000007) % 998244353) * 30011 % 998244353) / 7 % n, a, Int.emod_nonneg _ (by omega), Int.emod_lt_of_pos _ h0, hb, ?_⟩
      walk_at "ev"
      simp only [decide_eq_false hz, Bool.false_eq_true, if_false]
      walk_at "ev"
      simp only [mul_r s0]
      walk_at "ev"
      simp only [modI_int d0]
      walk_at "ev"
      simp only [mul_r s3]
      walk_at "ev"
      simp only [modI_int d1]
      walk_at "ev"
      simp only [mul_r s1]
      walk_at "ev"
      simp only [modI_int d1]
      walk_at "ev"
      simp only [decide_eq_false hm, Bool.false_eq_true, if_false]
      walk_at "ev"
      simp only [fdivI_int d7 d8]
      walk_at "ev"
      simp only [modI_int h0]
      walk_at "ev"
theorem bag_cell {a b c : Int} {cs : List PyData} (hb : BagOk a b c cs) {m : Store} (h : c < cs.length) : ∃ i : Int, 0 ≤ i ∧ ixD (.p (.list cs)) (.p (.int c)) m = some (.p (.int i), m) := by
  have hl : c.toNat < cs.length := by have := hb.h2; omega
  obtain ⟨i, e, hi⟩ := hb.hc cs[c.toNat] (List.getElem_mem hl)
  refine ⟨i, hi, ?_⟩
  rw [ixD_list hb.h2, List.getElem?_eq_getElem hl, e]
  rfl
theorem takeS_ok {a b c n : Int} {cs : List PyData} {g l : List Cell} (hb : BagOk a b c cs) :
    ∃ a' b' c' o2 o3, BagOk a' b' c' cs ∧ takeS [some (.cell (.g 0)), some (.p (.int n)), none, none, none, none, none] ⟨bagC a b c cs :: g, l⟩ = .nx [some (.cell (.g 0)), some (.p (.int n)), o2, o3, none, none, none] ⟨bagC a' b' c' cs :: g, l⟩ := by
  unfold takeS
  by_cases hz : (a == 0) = true
  · have s0 : small 48271 = true := by decide
    have s1 : small 7919 = true := by decide
    have d0 : (0 : Int) < 2147483647 := by decide
    have key : ∀ x : Int, 0 ≤ x → ∃ a' b' c' o2 o3, BagOk a' b' c' cs ∧ (seqS (augI addI (vE 0) (cE (.int 2)) (cE (.int 1)))
  (seqS (ifS (testE (opE geI (vE 2) (opE powI (cE (.int 10)) (cE (.int 18))))) (asgS (vE 2) (subG (vE 0) (cE (.int 0)))) nilS)
  (seqS (setS 3 (opE (addD .z) (opE (addD .z) (opE mulD (opE ixD (vE 0) (cE (.int 1))) (cE (.int 48271))) (opE modI (calE intD (consA (vE 2) nilA)) (cE (.int 2147483647)))) (opE mulD (cE (.int 7919)) (opE ixD (vE 0) (cE (.int 2))))))
  (asgS (opE modI (calE intD (consA (vE 3) nilA)) (cE (.int 2147483647))) (subG (vE 0) (cE (.int 1))))))) [some (.cell (.g 0)), some (.p (.int n)), some (.p (.int x)), none, none, none, none] ⟨bagC a b c cs :: g, l⟩ = .nx [some (.cell (.g 0)), some (.p (.int n)), o2, o3, none, none, none] ⟨bagC a' b' c' cs :: g, l⟩ := by
      intro x hx
      by_cases hw : (1000000000000000000 : Int) ≤ x
      · refine ⟨x, (b * 48271 + x % 2147483647 + 7919 * (c + 1)) % 2147483647, c + 1, some (.p (.int x)), some (.p (.int (b * 48271 + x % 2147483647 + 7919 * (c + 1)))), ⟨hx, Int.emod_nonneg _ (by decide), Int.emod_lt_of_pos _ d0, by have := hb.h2; omega, hb.hc⟩, ?_⟩
        walk_at "ev"
        simp only [decide_eq_true hw, if_true]
        walk_at "ev"
        simp only [mul_r s0, mul_l s1, modI_int d0]
        walk_at "ev"
        simp only [mul_r s0, mul_l s1, modI_int d0]
        walk_at "ev"
        simp only [mul_r s0, mul_l s1, modI_int d0]
        walk_at "ev"
      · refine ⟨a, (b * 48271 + x % 2147483647 + 7919 * (c + 1)) % 2147483647, c + 1, some (.p (.int x)), some (.p (.int (b * 48271 + x % 2147483647 + 7919 * (c + 1)))), ⟨hb.h0, Int.emod_nonneg _ (by decide), Int.emod_lt_of_pos _ d0, by have := hb.h2; omega, hb.hc⟩, ?_⟩
        walk_at "ev"
        simp only [decide_eq_false hw, Bool.false_eq_true, if_false]
        walk_at "ev"
        simp only [mul_r s0, mul_l s1, modI_int d0]
        walk_at "ev"
        simp only [mul_r s0, mul_l s1, modI_int d0]
        walk_at "ev"
        simp only [mul_r s0, mul_l s1, modI_int d0]
        walk_at "ev"
    by_cases hi : c < (cs.length : Int)
    · obtain ⟨i, hi0, e⟩ := bag_cell hb (m := ⟨bagC a b c cs :: g, l⟩) hi
      obtain ⟨a', b', c', o2, o3, k1, k2⟩ := key i hi0
      refine ⟨a', b', c', o2, o3, k1, ?_⟩
      rw [← k2]
      simp only [ifS, testE, opE_eq, seqS, setS, cE, vE_0, vE_s, bind_ok, bindS_ok, bix0, bix2, bix3, lift_some, eqG_int, testR_ok, hz, if_true, Bool.false_eq_true, if_false, ite_tt, ite_ff, seq_nx, calE, consA, nilA, lenD_list, ltI_int, decide_eq_true hi, e, List.set_cons_zero, List.set_cons_succ]
    · obtain ⟨a', b', c', o2, o3, k1, k2⟩ := key 0 (by decide)
      refine ⟨a', b', c', o2, o3, k1, ?_⟩
      rw [← k2]
      simp only [ifS, testE, opE_eq, seqS, setS, cE, vE_0, vE_s, bind_ok, bindS_ok, bix0, bix2, bix3, lift_some, eqG_int, testR_ok, hz, if_true, Bool.false_eq_true, if_false, ite_tt, ite_ff, seq_nx, calE, consA, nilA, lenD_list, ltI_int, decide_eq_false hi, List.set_cons_zero, List.set_cons_succ, nilS]
  · have hz' : (a == 0) = false := by simpa using hz
    refine ⟨a, b, c, none, none, hb, ?_⟩
    simp only [ifS, testE, opE_eq, cE, vE_0, bind_ok, bindS_ok, bix0, lift_some, eqG_int, testR_ok, hz', Bool.false_eq_true, if_false, ite_ff, nilS]
def bagsOk (cs : List PyData) (C : Cell) : Prop := ∃ a b c, BagOk a b c cs ∧ C = bagC a b c cs
/-- a draw below n leaves a number below n and a bag -/
theorem take_ok {n : Int} {cs : List PyData} {g : List Cell} {C : Cell} (hC : bagsOk cs C) (h0 : 0 < n) (h1 : n < 2 ^ 64) :
    ∃ r C', 0 ≤ r ∧ r < n ∧ bagsOk cs C' ∧ fnD 7 takeB [.cell (.g 0), .p (.int n)] (C :: g) = .ok (.p (.int r)) (C' :: g) := by
  obtain ⟨a, b, c, hb, rfl⟩ := hC
  obtain ⟨a', b', c', o2, o3, k1, k2⟩ := takeS_ok (n := n) (g := g) (l := []) hb
  obtain ⟨r, a2, r0, r1, k3, k4⟩ := takeT_ok (g := g) (l := []) (o2 := o2) (o3 := o3) k1 h0 h1
  refine ⟨r, _, r0, r1, ⟨a2, b', c', k3, rfl⟩, ?_⟩
  change fin (seqS takeS takeT [some (.cell (.g 0)), some (.p (.int n)), none, none, none, none, none] ⟨bagC a b c cs :: g, []⟩) = _
  unfold seqS
  rw [k2]
  exact k4
end L2.Dn
namespace L2.Dn
open PySem PySem.Spec PyProof.Rows L2
/-! ### loops and comprehensions, by what each round does -/
section
variable {g : D → Rho → Option Rho} {t : Rho → Store → Res Bool} {fe : FE} {ρ : Rho}
theorem lcM_pick {f : D → D} {p : D → Bool} {m : Store} : ∀ {ds : List D}, (∀ d ∈ ds, ∃ ρ1, g d ρ = some ρ1 ∧ t ρ1 m = .ok (p d) m ∧ (p d = true → fe ρ1 m = .ok (f d) m)) → lcM g t fe ρ ds m = .ok ((ds.filter p).map f) m
  | [], _ => rfl
  | d :: ds, h => by
    obtain ⟨ρ1, h1, h2, h3⟩ := h d (List.mem_cons_self ..)
    have ih := lcM_pick (f := f) (p := p) (m := m) (ds := ds) fun x hx => h x (List.mem_cons_of_mem _ hx)
    unfold lcM
    rw [h1]
    simp only [h2, noX, bind_ok]
    cases hp : p d with
    | true =>
      rw [hp] at h2
      simp only [h3 hp, if_true, noX, bind_ok, ih, List.filter_cons_of_pos hp, List.map_cons]
    | false => simp only [Bool.false_eq_true, if_false, ih, List.filter_cons_of_neg (show ¬ p d = true by rw [hp]; exact Bool.false_ne_true)]
theorem lcM_map {f : D → D} {m : Store} {ds : List D} (h : ∀ d ∈ ds, ∃ ρ1, g d ρ = some ρ1 ∧ t ρ1 m = .ok true m ∧ fe ρ1 m = .ok (f d) m) : lcM g t fe ρ ds m = .ok (ds.map f) m := by
  have := lcM_pick (g := g) (t := t) (fe := fe) (ρ := ρ) (f := f) (p := fun _ => true) (m := m) (ds := ds) fun d hd => by
    obtain ⟨ρ1, h1, h2, h3⟩ := h d hd
    exact ⟨ρ1, h1, h2, fun _ => h3⟩
  rw [this, List.filter_eq_self.mpr fun _ _ => rfl]
/-- each round keeps I and yields an item that P holds of -/
theorem lcM_inv {I : Store → Prop} {P : D → Prop} : ∀ {ds : List D} {m : Store}, I m → (∀ d ∈ ds, ∀ m, I m → ∃ ρ1 y m', g d ρ = some ρ1 ∧ t ρ1 m = .ok true m ∧ fe ρ1 m = .ok y m' ∧ I m' ∧ P y) → ∃ ys m', lcM g t fe ρ ds m = .ok ys m' ∧ I m' ∧ (∀ y ∈ ys, P y) ∧ ys.length = ds.length
  | [], m, hI, _ => ⟨[], m, rfl, hI, by simp, rfl⟩
  | d :: ds, m, hI, h => by
    obtain ⟨ρ1, y, m1, h1, h2, h3, h4, h5⟩ := h d (List.mem_cons_self ..) m hI
    obtain ⟨ys, m2, k1, k2, k3, k4⟩ := lcM_inv (ds := ds) h4 fun x hx => h x (List.mem_cons_of_mem _ hx)
    refine ⟨y :: ys, m2, ?_, k2, ?_, by simp [k4]⟩
    · unfold lcM
      rw [h1]
      simp only [h2, noX, bind_ok, if_true, h3, k1]
    · intro z hz
      rcases List.mem_cons.mp hz with e | hz
      · rw [e]; exact h5
      · exact k3 z hz
end
/-- each round ends well and keeps R -/
theorem forS_inv {g : FG} {body : FS} {R : Rho → Store → Prop} : ∀ {ds : List D} {ρ : Rho} {m : Store}, R ρ m → (∀ d ∈ ds, ∀ ρ m, R ρ m → ∃ ρ' m', (g d ρ m).seq body = .nx ρ' m' ∧ R ρ' m') → ∃ ρ' m', forS g body ds ρ m = .nx ρ' m' ∧ R ρ' m'
  | [], ρ, m, hR, _ => ⟨ρ, m, rfl, hR⟩
  | d :: ds, ρ, m, hR, h => by
    obtain ⟨ρ1, m1, h1, h2⟩ := h d (List.mem_cons_self ..) ρ m hR
    obtain ⟨ρ2, m2, k1, k2⟩ := forS_inv (ds := ds) h2 fun x hx => h x (List.mem_cons_of_mem _ hx)
    refine ⟨ρ2, m2, ?_, k2⟩
    unfold forS
    rw [h1]
    exact k1
/-! ### the bag as the script gives it -/
theorem abs_ok (i : Int) : 0 ≤ (if i < 0 then -i else i) := by split <;> omega
theorem bag_ok (ns : List Int) (hl : ns.length ≤ 63) : ∃ cs C, bagsOk cs C ∧ fnD 2 bagB [nums ns] [] = .ok (.cell (.g 0)) [C] := by
  have h1 : slD .z (nums ns) none (some 63) ⟨[], []⟩ = some (.p (.list (ns.map .int)), ⟨[], []⟩) := by
    show some (mkLst (cutD ((ns.map PyData.int).map D.p) none (some 63)), _) = _
    have : cutD ((ns.map PyData.int).map D.p) none (some 63) = (ns.map PyData.int).map D.p := by
      unfold cutD
      have e1 : HT.sIx ((ns.map PyData.int).map D.p).length 0 none = 0 := rfl
      have e2 : HT.sIx ((ns.map PyData.int).map D.p).length ((ns.map PyData.int).map D.p).length (some 63) = ns.length := by
        simp only [List.length_map, HT.sIx]
        rw [if_neg (by decide)]
        have : (63 : Int).toNat = 63 := rfl
        omega
      rw [e1, e2, List.drop_zero, Nat.sub_zero, List.take_of_length_le (by simp)]
    rw [this, mkLst_p]
  have h2 : lcM (oneG 1) yesT (calE absD (consA (vE 1) nilA)) [some (nums ns), none] ((ns.map PyData.int).map D.p) ⟨[], []⟩ = .ok ((ns.map fun i => PyData.int (if i < 0 then -i else i)).map D.p) ⟨[], []⟩ := by
    have := lcM_map (g := oneG 1) (t := yesT) (fe := calE absD (consA (vE 1) nilA)) (ρ := [some (nums ns), none]) (m := ⟨[], []⟩) (ds := (ns.map PyData.int).map D.p) (f := fun d => match d with | .p (.int i) => .p (.int (if i < 0 then -i else i)) | d => d) fun d hd => by
      obtain ⟨q, hq, rfl⟩ := List.mem_map.mp hd
      obtain ⟨i, _, rfl⟩ := List.mem_map.mp hq
      exact ⟨[some (nums ns), some (.p (.int i))], rfl, rfl, rfl⟩
    rw [this]
    simp only [List.map_map]
    rfl
  refine ⟨ns.map fun i => PyData.int (if i < 0 then -i else i), _, ⟨0, 1234567891, 0, ⟨by decide, by decide, by decide, by decide, fun x hx => ?_⟩, rfl⟩, ?_⟩
  · simp only [List.mem_map] at hx
    obtain ⟨i, _, rfl⟩ := hx
    exact ⟨_, rfl, abs_ok i⟩
  · change fin (bagB [some (nums ns), none] ⟨[], []⟩) = _
    have hs : ((ns.map PyData.int).map D.p).length ≤ sizeLine := by
      rw [sizeLine_eq]
      simp only [List.length_map]
      omega
    have h3 : lcE .z [1] (walkI (slE (slD .z) (vE 0) noO (someO (cE (.int 63))))) (oneG 1) yesT (calE absD (consA (vE 1) nilA)) [some (nums ns), none] ⟨[], []⟩ = .ok (.p (.list (ns.map fun i => PyData.int (if i < 0 then -i else i)))) ⟨[], []⟩ := by
      simp only [lcE, walkI, slE, vE_0, noO, someO, cE, bind_ok, h1, lift_some, itemsZ, wipeR, List.set_cons_zero, List.set_cons_succ, if_pos hs, h2, newL, mkLst_p]
    simp only [bagB, retS, lstE, consA, cE, nilA, bind_ok, h3]
    rfl
/-! ### alike -/
/-- data that repr and == take, whatever stands around -/
def fine (p : PyData) : Bool := SeqAt.shaped p && p.showable && decide (p.shown.length ≤ sizeLine) && decide (p.depth ≤ 60)
theorem repr_fine {p : PyData} {m : Store} (h1 : p.showable = true) (h2 : p.shown.length ≤ sizeLine) (h3 : p.depth ≤ 60) : reprD [.p p] m = some (.p (.str p.shown), m) := by
  simp only [reprD, whole_p, if_pos (And.intro h1 (And.intro h2 h3))]
theorem eqG_fine {p : PyData} {m : Store} (h : SeqAt.shaped p = true) : eqG false (.p p) (.p p) m = some (.p (.bool true), m) := by
  have e : PyData.eqv p p = true := by
    simp only [SeqAt.shaped, Bool.and_eq_true] at h
    exact SeqAt.eqv_refl p h.1
  have e2 : eqP false (.p p) (.p p) m = some (.p (.bool true), m) := by
    simp only [eqP, whole_p, if_pos (And.intro h h), e]
    rfl
  cases p with
  | str x => simp [eqG, altO, eqS]
  | _ => exact e2
theorem alike_fine {p : PyData} {g : List Cell} (h : fine p = true) : fnD 2 alikeB [.p p, .p p] g = .ok (.p (.bool true)) g := by
  simp only [fine, Bool.and_eq_true, decide_eq_true_eq] at h
  change fin (alikeB [some (.p p), some (.p p)] ⟨g, []⟩) = _
  simp only [alikeB, retS, andE, opE_eq, calE, consA, nilA, vE_0, vE_s, bind_ok, bindS_ok, eqG_fine h.1.1.1, lift_some, repr_fine h.1.1.2 h.1.2 h.2, eqG_str, beq_self_eq_true]
  rfl
end L2.Dn
namespace L2.Dn
open PySem PySem.Spec PyProof.Rows L2
/-! ### lists and texts, frozen -/
section
variable {m : Store}
def cut {α : Type} (xs : List α) (lo hi : Option Int) : List α := (xs.drop (HT.sIx xs.length 0 lo)).take (HT.sIx xs.length xs.length hi - HT.sIx xs.length 0 lo)
theorem cutD_map (ds : List PyData) (lo hi : Option Int) : cutD (ds.map D.p) lo hi = (cut ds lo hi).map D.p := by
  simp only [cutD, cut, List.length_map, List.map_take, List.map_drop]
theorem cut_mem {α : Type} {xs : List α} {lo hi : Option Int} {x : α} (h : x ∈ cut xs lo hi) : x ∈ xs := List.mem_of_mem_drop (List.mem_of_mem_take h)
theorem cut_len {α : Type} (xs : List α) (lo hi : Option Int) : (cut xs lo hi).length = min (HT.sIx xs.length xs.length hi - HT.sIx xs.length 0 lo) (xs.length - HT.sIx xs.length 0 lo) := by
  simp only [cut, List.length_take, List.length_drop]
theorem slD_list (ds : List PyData) (lo hi : Option Int) : slD .z (.p (.list ds)) lo hi m = some (.p (.list (cut ds lo hi)), m) := by
  show some (mkLst (cutD (ds.map D.p) lo hi), m) = _
  rw [cutD_map, mkLst_p]
theorem slD_str {x : Str} (h : x.length ≤ sizeLine) (lo hi : Option Int) : slD .z (.p (.str x)) lo hi m = some (.p (.str (cutS x lo hi)), m) := by
  simp only [slD, altS, slL, lstOf, slS, if_pos h]
theorem addD_list {xs ys : List PyData} (h : xs.length + ys.length ≤ sizeLine) : addD .z (.p (.list xs)) (.p (.list ys)) m = some (.p (.list (xs ++ ys)), m) := by
  have : addD .z (.p (.list xs)) (.p (.list ys)) m = match addL .z (.p (.list xs)) (.p (.list ys)) m with
    | some r => some r
    | none => addT (.p (.list xs)) (.p (.list ys)) m := rfl
  rw [this]
  simp only [addL, lstOf, List.length_map, if_pos h, newO, ← List.map_append, mkLst_p]
theorem addD_str {x y : Str} (h : x.length + y.length ≤ sizeLine) : addD .z (.p (.str x)) (.p (.str y)) m = some (.p (.str (x ++ y)), m) := by
  have : addD .z (.p (.str x)) (.p (.str y)) m = match addS (.p (.str x)) (.p (.str y)) m with
    | some r => some r
    | none => (altO (addL .z) addT) (.p (.str x)) (.p (.str y)) m := rfl
  rw [this]
  simp only [addS, if_pos h]
theorem mulD_str {x : Str} {n : Int} (h : (decide (-1000000 ≤ n) && decide (n ≤ 1000000) && decide (x.length ≤ 16)) = true) : mulD (.p (.str x)) (.p (.int n)) m = some (.p (.str (Txt.mul x n)), m) := by
  have : mulD (.p (.str x)) (.p (.int n)) m = mulS (.p (.str x)) (.p (.int n)) m := rfl
  rw [this]
  simp only [mulS, h, if_true]
theorem ixD_str {x : Str} {k : Int} (h : x.length ≤ sizeLine) (h0 : 0 ≤ k) : ixD (.p (.str x)) (.p (.int k)) m = (x.cps.toList[k.toNat]?).map fun n => (.p (.str ⟨#[n]⟩), m) := by
  simp only [ixD, if_pos h, atI_at h0]
  cases x.cps.toList[k.toNat]? <;> rfl
theorem lenD_str {x : Str} (h : x.length ≤ sizeLine) : lenD [.p (.str x)] m = some (.p (.int x.length), m) := by
  simp only [lenD, if_pos h]
theorem upperD_str {x : Str} (h : x.length ≤ 5592405) : upperD (.p (.str x)) [] m = some (.p (.str (Txt.upper x)), m) := by
  simp only [upperD, if_pos h]
theorem splitD_z {a b : Str} (h : (b.length == 0) = false ∧ a.length + 2 ≤ sizeLine) : splitD .z (.p (.str a)) [.p (.str b)] m = some (.p (.list ((Txt.split a b).map .str)), m) := by
  simp only [splitD, if_pos h, newO]
  rw [show (Txt.split a b).map (fun t => D.p (.str t)) = ((Txt.split a b).map PyData.str).map D.p by rw [List.map_map]; rfl, mkLst_p]
theorem bind_pure {α β : Type} {r : Res α} {a : α} {k : α → Store → Res β} (h : r = .ok a m) : r.bind k = k a m := by rw [h]; rfl
/-- items that are texts -/
theorem strs_of {P : Str → Prop} : ∀ {ys : List D}, (∀ y ∈ ys, ∃ x, y = .p (.str x) ∧ P x) → ∃ xs : List Str, ys = (xs.map PyData.str).map D.p ∧ (∀ x ∈ xs, P x) ∧ xs.length = ys.length
  | [], _ => ⟨[], rfl, by simp, rfl⟩
  | y :: ys, h => by
    obtain ⟨x, e, hx⟩ := h y (List.mem_cons_self ..)
    obtain ⟨xs, k1, k2, k3⟩ := strs_of (ys := ys) fun z hz => h z (List.mem_cons_of_mem _ hz)
    refine ⟨x :: xs, by rw [e, k1]; rfl, ?_, by simp [k3]⟩
    intro z hz
    rcases List.mem_cons.mp hz with q | hz
    · rw [q]; exact hx
    · exact k2 z hz
/-- items that are data -/
theorem data_of {P : PyData → Prop} : ∀ {ys : List D}, (∀ y ∈ ys, ∃ x, y = .p x ∧ P x) → ∃ xs : List PyData, ys = xs.map D.p ∧ (∀ x ∈ xs, P x) ∧ xs.length = ys.length
  | [], _ => ⟨[], rfl, by simp, rfl⟩
  | y :: ys, h => by
    obtain ⟨x, e, hx⟩ := h y (List.mem_cons_self ..)
    obtain ⟨xs, k1, k2, k3⟩ := data_of (ys := ys) fun z hz => h z (List.mem_cons_of_mem _ hz)
    refine ⟨x :: xs, by rw [e, k1]; rfl, ?_, by simp [k3]⟩
    intro z hz
    rcases List.mem_cons.mp hz with q | hz
    · rw [q]; exact hx
    · exact k2 z hz
end
/-! ### signs of a text -/
theorem ok_iff {x : Str} : PyData.strOk x = true ↔ ∀ c ∈ x.cps.toList, c < 0x110000 := by
  obtain ⟨⟨l⟩⟩ := x
  simp [PyData.strOk]
theorem ok_cut {x : Str} (h : PyData.strOk x = true) (lo hi : Option Int) : PyData.strOk (cutS x lo hi) = true :=
  ok_iff.mpr fun c hc => ok_iff.mp h c (List.mem_of_mem_drop (List.mem_of_mem_take hc))
theorem len_cps (x : Str) : x.length = x.cps.toList.length := by obtain ⟨⟨l⟩⟩ := x; rfl
theorem len_cut (x : Str) (lo hi : Option Int) : (cutS x lo hi).length ≤ x.length := by
  rw [len_cps, len_cps]
  show ((x.cps.toList.drop _).take _).length ≤ _
  simp only [List.length_take, List.length_drop]
  omega
theorem app_cps (x y : Str) : (x ++ y).cps.toList = x.cps.toList ++ y.cps.toList := by
  show (x.cps ++ y.cps).toList = _
  simp
theorem ok_app {x y : Str} (h : PyData.strOk x = true) (h2 : PyData.strOk y = true) : PyData.strOk (x ++ y) = true :=
  ok_iff.mpr fun c hc => by
    rw [app_cps] at hc
    exact (List.mem_append.mp hc).elim (ok_iff.mp h c) (ok_iff.mp h2 c)
theorem len_app (x y : Str) : (x ++ y).length = x.length + y.length := by
  rw [len_cps, len_cps, len_cps, app_cps, List.length_append]
end L2.Dn
namespace K11
open PySem PySem.Spec PyProof.Rows L2 L2.Dn
def k_KINDS : List Str := [Str.ofString "fixed", Str.ofString "stable", Str.ofString "changing", Str.ofString "effect"]
def body_is_integer : FS := (retS (andE (calE isiD (consA (vE 0) (consA (tyE "int") nilA))) (notE (calE isiD (consA (vE 0) (consA (tyE "bool") nilA))))))
def den_is_integer : Den := fnD 1 body_is_integer
theorem eq_is_integer (x0 : D) (g : List Cell) : den_is_integer [x0] g = fin (body_is_integer [some x0] ⟨g, []⟩) := rfl
def body_is_name : FS := (seqS (ifS (orT (notT (truE (calE isiD (consA (vE 0) (consA (tyE "str") nilA))))) (notT (testE (chE leI leI (cE (.int 1)) (calE lenD (consA (vE 0) nilA)) (cE (.int 8)))))) (retS (cE (.bool false))) nilS)
  (retS (calE allD (consA (lcE .z [1] (walkI (vE 0)) (oneG 1) yesT (opE inD (vE 1) (cE (.str (Str.ofString "abcdefghijklmnopqrstuvwxyz"))))) nilA))))
def den_is_name : Den := fnD 2 body_is_name
theorem eq_is_name (x0 : D) (g : List Cell) : den_is_name [x0] g = fin (body_is_name [some x0, none] ⟨g, []⟩) := rfl
def body_is_kind : FS := (retS (andE (calE isiD (consA (vE 0) (consA (tyE "str") nilA))) (opE inD (vE 0) (cE (.tuple (k_KINDS.map .str))))))
def den_is_kind : Den := fnD 1 body_is_kind
theorem eq_is_kind (x0 : D) (g : List Cell) : den_is_kind [x0] g = fin (body_is_kind [some x0] ⟨g, []⟩) := rfl
def body_freer : FS := (retS (opE gtI (idxE k_KINDS (vE 0)) (idxE k_KINDS (vE 1))))
def den_freer : Den := fnD 2 body_freer
theorem eq_freer (x0 x1 : D) (g : List Cell) : den_freer [x0, x1] g = fin (body_freer [some x0, some x1] ⟨g, []⟩) := rfl
def body_as_free : FS := (retS (opE geI (idxE k_KINDS (vE 0)) (idxE k_KINDS (vE 1))))
def den_as_free : Den := fnD 2 body_as_free
theorem eq_as_free (x0 x1 : D) (g : List Cell) : den_as_free [x0, x1] g = fin (body_as_free [some x0, some x1] ⟨g, []⟩) := rfl
def body__law_bag : FS := (retS (lstE .g (consA (cE (.int 0)) (consA (cE (.int 1234567891)) (consA (cE (.int 0)) (consA (lcE .z [1] (walkI (slE (slD .z) (vE 0) noO (someO (cE (.int 63))))) (oneG 1) yesT (calE absD (consA (vE 1) nilA))) nilA))))))
def den__law_bag : Den := fnD 2 body__law_bag
theorem eq__law_bag (x0 : D) (g : List Cell) : den__law_bag [x0] g = fin (body__law_bag [some x0, none] ⟨g, []⟩) := rfl
def body__law_take : FS := (seqS (ifS (testE (opE (eqG false) (opE ixD (vE 0) (cE (.int 0))) (cE (.int 0)))) (seqS (setS 2 (cE (.int 0)))
  (seqS (ifS (testE (opE ltI (opE ixD (vE 0) (cE (.int 2))) (calE lenD (consA (opE ixD (vE 0) (cE (.int 3))) nilA)))) (setS 2 (opE ixD (opE ixD (vE 0) (cE (.int 3))) (opE ixD (vE 0) (cE (.int 2))))) nilS)
  (seqS (augI addI (vE 0) (cE (.int 2)) (cE (.int 1)))
  (seqS (ifS (testE (opE geI (vE 2) (opE powI (cE (.int 10)) (cE (.int 18))))) (asgS (vE 2) (subG (vE 0) (cE (.int 0)))) nilS)
  (seqS (setS 3 (opE (addD .z) (opE (addD .z) (opE mulD (opE ixD (vE 0) (cE (.int 1))) (cE (.int 48271))) (opE modI (calE intD (consA (vE 2) nilA)) (cE (.int 2147483647)))) (opE mulD (cE (.int 7919)) (opE ixD (vE 0) (cE (.int 2))))))
  (asgS (opE modI (calE intD (consA (vE 3) nilA)) (cE (.int 2147483647))) (subG (vE 0) (cE (.int 1))))))))) nilS)
  (seqS (ifS (testE (opE gtI (opE ixD (vE 0) (cE (.int 0))) (cE (.int 0)))) (seqS (setS 4 (opE modI (calE intD (consA (opE ixD (vE 0) (cE (.int 0))) nilA)) (vE 1)))
  (seqS (asgS (opE fdivI (calE intD (consA (opE ixD (vE 0) (cE (.int 0))) nilA)) (vE 1)) (subG (vE 0) (cE (.int 0))))
  (retS (vE 4)))) nilS)
  (seqS (setS 5 (opE modI (calE intD (consA (opE mulD (opE (addD .z) (opE ixD (vE 0) (cE (.int 1))) (cE (.int 1))) (cE (.int 39373))) nilA)) (cE (.int 1000000007))))
  (seqS (setS 6 (opE modI (calE intD (consA (opE mulD (vE 5) (vE 5)) nilA)) (cE (.int 998244353))))
  (seqS (setS 6 (opE modI (calE intD (consA (opE mulD (vE 6) (cE (.int 30011))) nilA)) (cE (.int 998244353))))
  (seqS (ifS (testE (opE gtI (vE 1) (cE (.int 1000000)))) (retS (opE modI (calE intD (consA (opE (addD .z) (opE mulD (vE 6) (cE (.int 1000000007))) (vE 5)) nilA)) (vE 1))) nilS)
  (retS (opE modI (calE intD (consA (opE fdivI (vE 6) (cE (.int 7))) nilA)) (vE 1)))))))))
def den__law_take : Den := fnD 7 body__law_take
theorem eq__law_take (x0 x1 : D) (g : List Cell) : den__law_take [x0, x1] g = fin (body__law_take [some x0, some x1, none, none, none, none, none] ⟨g, []⟩) := rfl
def body__law_alike : FS := (retS (andE (opE (eqG false) (vE 0) (vE 1)) (opE (eqG false) (calE reprD (consA (vE 0) nilA)) (calE reprD (consA (vE 1) nilA)))))
def den__law_alike : Den := fnD 2 body__law_alike
theorem eq__law_alike (x0 x1 : D) (g : List Cell) : den__law_alike [x0, x1] g = fin (body__law_alike [some x0, some x1] ⟨g, []⟩) := rfl
def body__law_names : FS := (seqS (setS 2 (metE "str" (splitD .z) (cE (.str (Str.ofString "a b each call same unlike use kept show mark put"))) (consA (cE (.str (Str.ofString " "))) nilA)))
  (seqS (setS 2 (opE (addD .z) (vE 2) (metE "str" (splitD .z) (cE (.str (Str.ofString "take move keep kind end fixed effect plan log x"))) (consA (cE (.str (Str.ofString " "))) nilA))))
  (seqS (setS 3 (cE (.str (Str.ofString "abcdefghijklmnopqrstuvwxyz"))))
  (seqS (asgS (tupE (consA (callE den__law_take (consA (vE 0) (consA (cE (.int 4)) nilA))) (consA (callE den__law_take (consA (vE 0) (consA (cE (.int 21)) nilA))) nilA))) (tupG 2 (consG (nameG 4) (consG (nameG 5) nilG))))
  (seqS (ifS (testE (opE ltI (vE 4) (cE (.int 2)))) (retS (slE (slD .z) (opE (addD .z) (slE (slD .z) (vE 2) (someO (vE 5)) noO) (slE (slD .z) (vE 2) noO (someO (vE 5)))) noO (someO (vE 1)))) nilS)
  (seqS (ifS (testE (opE (eqG false) (vE 4) (cE (.int 2)))) (retS (lcE .z [6] (rng1I (consA (vE 1) nilA)) (oneG 6) yesT (opE ixD (vE 3) (opE modI (calE intD (consA (opE (addD .z) (vE 5) (opE mulD (cE (.int 3)) (vE 6))) nilA)) (cE (.int 26)))))) nilS)
  (retS (lcE .z [6] (rng1I (consA (vE 1) nilA)) (oneG 6) yesT (opE mulD (opE ixD (vE 3) (vE 5)) (opE subI (cE (.int 8)) (vE 6)))))))))))
def den__law_names : Den := fnD 7 body__law_names
theorem eq__law_names (x0 x1 : D) (g : List Cell) : den__law_names [x0, x1] g = fin (body__law_names [some x0, some x1, none, none, none, none, none] ⟨g, []⟩) := rfl
def body__law_kinds : FS := (retS (lstE .z (consA (cE (.str (Str.ofString "fixed"))) (consA (cE (.str (Str.ofString "stable"))) (consA (cE (.str (Str.ofString "changing"))) (consA (cE (.str (Str.ofString "effect"))) nilA))))))
def den__law_kinds : Den := fnD 0 body__law_kinds
theorem eq__law_kinds (g : List Cell) : den__law_kinds [] g = fin (body__law_kinds [] ⟨g, []⟩) := rfl
def body__law_thing : FS := (seqS (setS 2 (opE ixD (opE (addD .z) (vE 1) (callE den__law_kinds nilA)) (callE den__law_take (consA (vE 0) (consA (opE (addD .z) (calE lenD (consA (vE 1) nilA)) (cE (.int 4))) nilA)))))
  (seqS (parS 3 4 (consA (callE den__law_take (consA (vE 0) (consA (opE (addD .z) (calE lenD (consA (vE 2) nilA)) (cE (.int 1))) nilA))) (consA (opE ixD (cE (.str (Str.ofString " _-!0Aa\n`{."))) (callE den__law_take (consA (vE 0) (consA (cE (.int 11)) nilA)))) nilA)))
  (seqS (setS 5 (lstE .z (consA (vE 2) (consA (opE (addD .z) (opE (addD .z) (slE (slD .z) (vE 2) noO (someO (vE 3))) (vE 4)) (slE (slD .z) (vE 2) (someO (vE 3)) noO)) (consA (opE (addD .z) (slE (slD .z) (vE 2) noO (someO (vE 3))) (slE (slD .z) (vE 2) (someO (opE (addD .z) (vE 3) (cE (.int 1)))) noO)) (consA (opE mulD (vE 2) (cE (.int 2))) (consA (metE "str" upperD (vE 2) nilA) (consA (cE (.str (Str.ofString ""))) nilA))))))))
  (seqS (setS 5 (opE (addD .z) (vE 5) (lstE .z (consA (cE (.int 0)) (consA (unE negI (cE (.int 1))) (consA (opE (addD .z) (opE powI (cE (.int 10)) (cE (.int 60))) (callE den__law_take (consA (vE 0) (consA (cE (.int 9)) nilA)))) (consA (unE negI (opE powI (cE (.int 10)) (cE (.int 30)))) (consA (cE (.bool true)) (consA (cE (.bool false)) (consA (cE .none) nilA))))))))))
  (seqS (setS 5 (opE (addD .z) (vE 5) (lstE .z (consA (lstE .z (consA (vE 2) nilA)) (consA (tupE (consA (vE 2) nilA)) (consA (dct1E (vE 2) (cE (.int 1))) (consA (lstE .z nilA) nilA)))))))
  (retS (opE ixD (vE 5) (callE den__law_take (consA (vE 0) (consA (cE (.int 17)) nilA))))))))))
def den__law_thing : Den := fnD 6 body__law_thing
theorem eq__law_thing (x0 x1 : D) (g : List Cell) : den__law_thing [x0, x1] g = fin (body__law_thing [some x0, some x1, none, none, none, none] ⟨g, []⟩) := rfl
def body__law_due : FS := (seqS (setS 1 (andE (calE isiD (consA (vE 0) (consA (tyE "int") nilA))) (notE (calE isiD (consA (vE 0) (consA (tyE "bool") nilA))))))
  (seqS (setS 2 (andE (calE isiD (consA (vE 0) (consA (tyE "str") nilA))) (chE ltI ltI (cE (.int 0)) (calE lenD (consA (vE 0) nilA)) (cE (.int 9)))))
  (seqS (ifS (truE (vE 2)) (setS 2 (opE (eqG false) (lcE .z [3] (walkI (vE 0)) (oneG 3) (testE (opE notInD (vE 3) (cE (.str (Str.ofString "abcdefghijklmnopqrstuvwxyz"))))) (vE 3)) (lstE .z nilA))) nilS)
  (retS (lstE .z (consA (vE 1) (consA (vE 2) (consA (andE (calE isiD (consA (vE 0) (consA (tyE "str") nilA))) (opE inD (vE 0) (callE den__law_kinds nilA))) nilA))))))))
def den__law_due : Den := fnD 4 body__law_due
theorem eq__law_due (x0 : D) (g : List Cell) : den__law_due [x0] g = fin (body__law_due [some x0, none, none, none] ⟨g, []⟩) := rfl
def body_law : FS := (seqS (setS 1 (callE den__law_bag (consA (vE 0) nilA)))
  (seqS (setS 2 (callE den__law_names (consA (vE 1) (consA (cE (.int 3)) nilA))))
  (seqS (setS 3 (lcE .z [11] (rng1I (consA (cE (.int 24)) nilA)) (oneG 11) yesT (callE den__law_thing (consA (vE 1) (consA (vE 2) nilA)))))
  (seqS (forE (walkI (opE (addD .z) (vE 3) (revE .z (vE 3)))) (nameG 4) (seqS (setS 5 (calE reprD (consA (vE 4) nilA)))
  (seqS (setS 6 (lstE .z (consA (callE den_is_integer (consA (vE 4) nilA)) (consA (callE den_is_name (consA (vE 4) nilA)) (consA (callE den_is_kind (consA (vE 4) nilA)) nilA)))))
  (ifS (orT (notT (truE (callE den__law_alike (consA (vE 6) (consA (callE den__law_due (consA (vE 4) nilA)) nilA))))) (testE (opE (eqG true) (calE reprD (consA (vE 4) nilA)) (vE 5)))) (retS (cE (.bool false))) nilS))))
  (seqS (forE (enumI (consA (callE den__law_kinds nilA) nilA)) (tupG 2 (consG (nameG 7) (consG (nameG 8) nilG))) (forE (enumI (consA (callE den__law_kinds nilA) nilA)) (tupG 2 (consG (nameG 9) (consG (nameG 10) nilG))) (ifS (notT (truE (callE den__law_alike (consA (lstE .z (consA (callE den_freer (consA (vE 8) (consA (vE 10) nilA))) (consA (callE den_as_free (consA (vE 8) (consA (vE 10) nilA))) nilA))) (consA (lstE .z (consA (opE gtI (vE 7) (vE 9)) (consA (opE geI (vE 7) (vE 9)) nilA))) nilA))))) (retS (cE (.bool false))) nilS)))
  (retS (callE den__law_alike (consA (cE (.tuple (k_KINDS.map .str))) (consA (calE tupleD (consA (callE den__law_kinds nilA) nilA)) nilA)))))))))
def den_law : Den := fnD 12 body_law
theorem eq_law (x0 : D) (g : List Cell) : den_law [x0] g = fin (body_law [some x0, none, none, none, none, none, none, none, none, none, none, none] ⟨g, []⟩) := rfl
end K11
namespace K11
open PySem PySem.Spec PyProof.Rows L2 L2.Dn
def topS (i : Nat) : Stmt := PySem.Challenge.pw_plancalls_k11_kinds_known.main.body.getD i (.Pass ⟨0, 0, 0, 0⟩)
abbrev s_is_integer : Stmt := topS 4
theorem sc_is_integer : FnScope ["thing"] ["thing"] (defScope s_is_integer) := ⟨rfl, rfl, rfl, by decide +kernel, rfl, by decide +kernel, by decide +kernel⟩
abbrev s_is_name : Stmt := topS 5
theorem sc_is_name : FnScope ["thing", "sign"] ["thing"] (defScope s_is_name) := ⟨rfl, rfl, rfl, by decide +kernel, rfl, by decide +kernel, by decide +kernel⟩
abbrev s_is_kind : Stmt := topS 6
theorem sc_is_kind : FnScope ["thing"] ["thing"] (defScope s_is_kind) := ⟨rfl, rfl, rfl, by decide +kernel, rfl, by decide +kernel, by decide +kernel⟩
abbrev s_freer : Stmt := topS 7
theorem sc_freer : FnScope ["one", "other"] ["one", "other"] (defScope s_freer) := ⟨rfl, rfl, rfl, by decide +kernel, rfl, by decide +kernel, by decide +kernel⟩
abbrev s_as_free : Stmt := topS 8
theorem sc_as_free : FnScope ["one", "other"] ["one", "other"] (defScope s_as_free) := ⟨rfl, rfl, rfl, by decide +kernel, rfl, by decide +kernel, by decide +kernel⟩
abbrev s__law_bag : Stmt := topS 10
theorem sc__law_bag : FnScope ["_law_script", "_law_cell"] ["_law_script"] (defScope s__law_bag) := ⟨rfl, rfl, rfl, by decide +kernel, rfl, by decide +kernel, by decide +kernel⟩
abbrev s__law_take : Stmt := topS 11
theorem sc__law_take : FnScope ["_law_bag_here", "_law_most", "_law_cell", "_law_mixed", "_law_drawn", "_law_begin", "_law_second"] ["_law_bag_here", "_law_most"] (defScope s__law_take) := ⟨rfl, rfl, rfl, by decide +kernel, rfl, by decide +kernel, by decide +kernel⟩
abbrev s__law_alike : Stmt := topS 12
theorem sc__law_alike : FnScope ["_law_one", "_law_other"] ["_law_one", "_law_other"] (defScope s__law_alike) := ⟨rfl, rfl, rfl, by decide +kernel, rfl, by decide +kernel, by decide +kernel⟩
abbrev s__law_names : Stmt := topS 13
theorem sc__law_names : FnScope ["_law_bag_here", "_law_many", "_law_menu", "_law_letters", "_law_way", "_law_turn", "_law_k"] ["_law_bag_here", "_law_many"] (defScope s__law_names) := ⟨rfl, rfl, rfl, by decide +kernel, rfl, by decide +kernel, by decide +kernel⟩
abbrev s__law_kinds : Stmt := topS 14
theorem sc__law_kinds : FnScope [] [] (defScope s__law_kinds) := ⟨rfl, rfl, rfl, by decide +kernel, rfl, by decide +kernel, by decide +kernel⟩
abbrev s__law_thing : Stmt := topS 15
theorem sc__law_thing : FnScope ["_law_bag_here", "_law_names_here", "_law_label", "_law_at", "_law_sign", "_law_some"] ["_law_bag_here", "_law_names_here"] (defScope s__law_thing) := ⟨rfl, rfl, rfl, by decide +kernel, rfl, by decide +kernel, by decide +kernel⟩
abbrev s__law_due : Stmt := topS 16
theorem sc__law_due : FnScope ["_law_thing_here", "_law_whole", "_law_named", "_law_sign"] ["_law_thing_here"] (defScope s__law_due) := ⟨rfl, rfl, rfl, by decide +kernel, rfl, by decide +kernel, by decide +kernel⟩
abbrev s_law : Stmt := topS 17
theorem sc_law : FnScope ["_law_script", "_law_bag_here", "_law_names_here", "_law_things", "_law_thing_here", "_law_text", "_law_found", "_law_at", "_law_one", "_law_spot", "_law_other", "_law_k"] ["_law_script"] (defScope s_law) := ⟨rfl, rfl, rfl, by decide +kernel, rfl, by decide +kernel, by decide +kernel⟩
/-- where the defs and constants stand -/
structure Ad where
  a_is_integer : Addr
  fd_is_integer : FuncData
  a_is_name : Addr
  fd_is_name : FuncData
  a_is_kind : Addr
  fd_is_kind : FuncData
  a_freer : Addr
  fd_freer : FuncData
  a_as_free : Addr
  fd_as_free : FuncData
  a__law_bag : Addr
  fd__law_bag : FuncData
  a__law_take : Addr
  fd__law_take : FuncData
  a__law_alike : Addr
  fd__law_alike : FuncData
  a__law_names : Addr
  fd__law_names : FuncData
  a__law_kinds : Addr
  fd__law_kinds : FuncData
  a__law_thing : Addr
  fd__law_thing : FuncData
  a__law_due : Addr
  fd__law_due : FuncData
  a_law : Addr
  fd_law : FuncData
  t_KINDS : Addr
  i_KINDS : Array Value
  n_KINDS : Nat
  l_KINDS : Array (Option Value)
structure Txt (K : PySem.W.Frag) (mg : Str → Option Value) (A : Ad) : Prop where
  F_is_integer : Fun K "is_integer" "is_integer" s_is_integer A.a_is_integer A.fd_is_integer
  g_is_integer : mg "is_integer" = some (.ref A.a_is_integer)
  b_is_integer : Binds K A.fd_is_integer ["thing"] []
  F_is_name : Fun K "is_name" "is_name" s_is_name A.a_is_name A.fd_is_name
  g_is_name : mg "is_name" = some (.ref A.a_is_name)
  b_is_name : Binds K A.fd_is_name ["thing"] []
  F_is_kind : Fun K "is_kind" "is_kind" s_is_kind A.a_is_kind A.fd_is_kind
  g_is_kind : mg "is_kind" = some (.ref A.a_is_kind)
  b_is_kind : Binds K A.fd_is_kind ["thing"] []
  F_freer : Fun K "freer" "freer" s_freer A.a_freer A.fd_freer
  g_freer : mg "freer" = some (.ref A.a_freer)
  b_freer : Binds K A.fd_freer ["one", "other"] []
  F_as_free : Fun K "as_free" "as_free" s_as_free A.a_as_free A.fd_as_free
  g_as_free : mg "as_free" = some (.ref A.a_as_free)
  b_as_free : Binds K A.fd_as_free ["one", "other"] []
  F__law_bag : Fun K "_law_bag" "_law_bag" s__law_bag A.a__law_bag A.fd__law_bag
  g__law_bag : mg "_law_bag" = some (.ref A.a__law_bag)
  b__law_bag : Binds K A.fd__law_bag ["_law_script"] []
  F__law_take : Fun K "_law_take" "_law_take" s__law_take A.a__law_take A.fd__law_take
  g__law_take : mg "_law_take" = some (.ref A.a__law_take)
  b__law_take : Binds K A.fd__law_take ["_law_bag_here", "_law_most"] []
  F__law_alike : Fun K "_law_alike" "_law_alike" s__law_alike A.a__law_alike A.fd__law_alike
  g__law_alike : mg "_law_alike" = some (.ref A.a__law_alike)
  b__law_alike : Binds K A.fd__law_alike ["_law_one", "_law_other"] []
  F__law_names : Fun K "_law_names" "_law_names" s__law_names A.a__law_names A.fd__law_names
  g__law_names : mg "_law_names" = some (.ref A.a__law_names)
  b__law_names : Binds K A.fd__law_names ["_law_bag_here", "_law_many"] []
  F__law_kinds : Fun K "_law_kinds" "_law_kinds" s__law_kinds A.a__law_kinds A.fd__law_kinds
  g__law_kinds : mg "_law_kinds" = some (.ref A.a__law_kinds)
  b__law_kinds : Binds K A.fd__law_kinds [] []
  F__law_thing : Fun K "_law_thing" "_law_thing" s__law_thing A.a__law_thing A.fd__law_thing
  g__law_thing : mg "_law_thing" = some (.ref A.a__law_thing)
  b__law_thing : Binds K A.fd__law_thing ["_law_bag_here", "_law_names_here"] []
  F__law_due : Fun K "_law_due" "_law_due" s__law_due A.a__law_due A.fd__law_due
  g__law_due : mg "_law_due" = some (.ref A.a__law_due)
  b__law_due : Binds K A.fd__law_due ["_law_thing_here"] []
  F_law : Fun K "law" "law" s_law A.a_law A.fd_law
  g_law : mg "law" = some (.ref A.a_law)
  b_law : Binds K A.fd_law ["_law_script"] []
  m_abs : mg "abs" = none
  m_all : mg "all" = none
  m_bool : mg "bool" = none
  m_enumerate : mg "enumerate" = none
  m_int : mg "int" = none
  m_isinstance : mg "isinstance" = none
  m_len : mg "len" = none
  m_range : mg "range" = none
  m_repr : mg "repr" = none
  m_str : mg "str" = none
  m_tuple : mg "tuple" = none
  c_KINDS : KTup K mg "KINDS" k_KINDS A.t_KINDS A.i_KINDS A.n_KINDS A.l_KINDS
  c_LETTERS : ∃ t, mg "LETTERS" = some (.str (Str.ofString "abcdefghijklmnopqrstuvwxyz") t)
  c_LONGEST_NAME : ∃ t, mg "LONGEST_NAME" = some (.int 8 t)
section
variable {P : Program} {w : World} {K : PySem.W.Frag} {mg : Str → Option Value} {base : Heap} {A : Ad}
theorem ok_is_integer (T : Txt K mg A) : FnG P w K mg base 1 A.a_is_integer A.fd_is_integer ["thing"] (spD K mg 1 den_is_integer) := by
  refine fn_denG (body := body_is_integer) T.F_is_integer sc_is_integer rfl rfl (by decide) fun cdv A outer s H E hG hr => ?_
  exact (dss_one (ds_ret (de_and (de_callB call_isiD (by rfl) T.m_isinstance (by decide +kernel) (da_cons (de_var 0) (da_cons (de_ty (by rfl) T.m_int (by decide +kernel)) da_nil))) (de_one (de_not (de_callB call_isiD (by rfl) T.m_isinstance (by decide +kernel) (da_cons (de_var 0) (da_cons (de_ty (by rfl) T.m_bool (by decide +kernel)) da_nil))))))))
theorem ok_is_name (T : Txt K mg A) : FnG P w K mg base 1 A.a_is_name A.fd_is_name ["thing"] (spD K mg 1 den_is_name) := by
  refine fn_denG (body := body_is_name) T.F_is_name sc_is_name rfl rfl (by decide) fun cdv A outer s H E hG hr => ?_
  exact (dss_cons (ds_if (DW.dt (dw_or (dt_not (dt_val (de_callB call_isiD (by rfl) T.m_isinstance (by decide +kernel) (da_cons (de_var 0) (da_cons (de_ty (by rfl) T.m_str (by decide +kernel)) da_nil))))) (dw_or1 (dt_not (dt_chain op_leI op_leI de_int (de_callB call_lenD (by rfl) T.m_len (by decide +kernel) (da_cons (de_var 0) da_nil)) (de_gInt T.c_LONGEST_NAME)))))) (dss_one (ds_ret de_bl)) dss_nil)
      (dss_one (ds_ret (de_callB (call_allD rfl) (by rfl) T.m_all (by decide +kernel) (da_cons (de_lc .z [("sign", 1)] sc_is_name.nd (di_val (de_var 0)) (blk_by (N := ["thing", "sign"]) (sc := defScope s_is_name) (by decide +kernel)) (fun _ _ _ _ _ => (dl_one 1 sc_is_name.nd)) (fun _ _ _ _ _ => dts_nil) (fun _ _ _ _ _ => (de_cmp (op_inD' (u65 hr)) (de_var 1) (de_gStr T.c_LETTERS)))) da_nil)))))
theorem ok_is_kind (T : Txt K mg A) : FnG P w K mg base 1 A.a_is_kind A.fd_is_kind ["thing"] (spD K mg 1 den_is_kind) := by
  refine fn_denG (body := body_is_kind) T.F_is_kind sc_is_kind rfl rfl (by decide) fun cdv A outer s H E hG hr => ?_
  exact (dss_one (ds_ret (de_and (de_callB call_isiD (by rfl) T.m_isinstance (by decide +kernel) (da_cons (de_var 0) (da_cons (de_ty (by rfl) T.m_str (by decide +kernel)) da_nil))) (de_one (de_cmp (op_inD' (u65 hr)) (de_var 0) (de_gTup T.c_KINDS))))))
theorem ok_freer (T : Txt K mg A) : FnG P w K mg base 1 A.a_freer A.fd_freer ["one", "other"] (spD K mg 2 den_freer) := by
  refine fn_denG (body := body_freer) T.F_freer sc_freer rfl rfl (by decide) fun cdv A outer s H E hG hr => ?_
  exact (dss_one (ds_ret (de_cmp op_gtI (de_gIndex (by rfl) T.c_KINDS.g T.c_KINDS.k T.c_KINDS.z T.c_KINDS.v (de_var 0)) (de_gIndex (by rfl) T.c_KINDS.g T.c_KINDS.k T.c_KINDS.z T.c_KINDS.v (de_var 1)))))
theorem ok_as_free (T : Txt K mg A) : FnG P w K mg base 1 A.a_as_free A.fd_as_free ["one", "other"] (spD K mg 2 den_as_free) := by
  refine fn_denG (body := body_as_free) T.F_as_free sc_as_free rfl rfl (by decide) fun cdv A outer s H E hG hr => ?_
  exact (dss_one (ds_ret (de_cmp op_geI (de_gIndex (by rfl) T.c_KINDS.g T.c_KINDS.k T.c_KINDS.z T.c_KINDS.v (de_var 0)) (de_gIndex (by rfl) T.c_KINDS.g T.c_KINDS.k T.c_KINDS.z T.c_KINDS.v (de_var 1)))))
theorem ok__law_bag (T : Txt K mg A) : FnG P w K mg base 1 A.a__law_bag A.fd__law_bag ["_law_script"] (spD K mg 1 den__law_bag) := by
  refine fn_denG (body := body__law_bag) T.F__law_bag sc__law_bag rfl rfl (by decide) fun cdv A outer s H E hG hr => ?_
  exact (dss_one (ds_ret (de_lst .g (da_cons de_int (da_cons de_int (da_cons de_int (da_cons (de_lc .z [("_law_cell", 1)] sc__law_bag.nd (di_val (de_slice (sl_D .z) (de_var 0) do_none (do_some de_int))) (blk_by (N := ["_law_script", "_law_cell"]) (sc := defScope s__law_bag) (by decide +kernel)) (fun _ _ _ _ _ => (dl_one 1 sc__law_bag.nd)) (fun _ _ _ _ _ => dts_nil) (fun _ _ _ _ _ => (de_callB call_absD (by rfl) T.m_abs (by decide +kernel) (da_cons (de_var 1) da_nil)))) da_nil)))))))
theorem ok__law_take (T : Txt K mg A) : FnG P w K mg base 1 A.a__law_take A.fd__law_take ["_law_bag_here", "_law_most"] (spD K mg 2 den__law_take) := by
  refine fn_denG (body := body__law_take) T.F__law_take sc__law_take rfl rfl (by decide) fun cdv A outer s H E hG hr => ?_
  exact (dss_cons (ds_if (dt_cmp (op_eqG' (u64 hr)) (de_ix ix_D (de_var 0) de_int) de_int) (dss_cons (ds_set 2 sc__law_take.nd de_int)
      (dss_cons (ds_if (dt_cmp op_ltI (de_ix ix_D (de_var 0) de_int) (de_callB call_lenD (by rfl) T.m_len (by decide +kernel) (da_cons (de_ix ix_D (de_var 0) de_int) da_nil))) (dss_one (ds_set 2 sc__law_take.nd (de_ix ix_D (de_ix ix_D (de_var 0) de_int) (de_ix ix_D (de_var 0) de_int)))) dss_nil)
      (dss_cons (ds_augI ip_addI (de_var 0) de_int de_int)
      (dss_cons (ds_if (dt_cmp op_geI (de_var 2) (de_op op_powI de_int de_int)) (dss_one (ds_asg (de_var 2) (dg_sub (de_var 0) de_int))) dss_nil)
      (dss_cons (ds_set 3 sc__law_take.nd (de_op (op_addD .z) (de_op (op_addD .z) (de_op op_mulD (de_ix ix_D (de_var 0) de_int) de_int) (de_op op_modI (de_callTy call_intD (by rfl) T.m_int (by decide +kernel) (da_cons (de_var 2) da_nil)) de_int)) (de_op op_mulD de_int (de_ix ix_D (de_var 0) de_int))))
      (dss_one (ds_asg (de_op op_modI (de_callTy call_intD (by rfl) T.m_int (by decide +kernel) (da_cons (de_var 3) da_nil)) de_int) (dg_sub (de_var 0) de_int)))))))) dss_nil)
      (dss_cons (ds_if (dt_cmp op_gtI (de_ix ix_D (de_var 0) de_int) de_int) (dss_cons (ds_set 4 sc__law_take.nd (de_op op_modI (de_callTy call_intD (by rfl) T.m_int (by decide +kernel) (da_cons (de_ix ix_D (de_var 0) de_int) da_nil)) (de_var 1)))
      (dss_cons (ds_asg (de_op op_fdivI (de_callTy call_intD (by rfl) T.m_int (by decide +kernel) (da_cons (de_ix ix_D (de_var 0) de_int) da_nil)) (de_var 1)) (dg_sub (de_var 0) de_int))
      (dss_one (ds_ret (de_var 4))))) dss_nil)
      (dss_cons (ds_set 5 sc__law_take.nd (de_op op_modI (de_callTy call_intD (by rfl) T.m_int (by decide +kernel) (da_cons (de_op op_mulD (de_op (op_addD .z) (de_ix ix_D (de_var 0) de_int) de_int) de_int) da_nil)) de_int))
      (dss_cons (ds_set 6 sc__law_take.nd (de_op op_modI (de_callTy call_intD (by rfl) T.m_int (by decide +kernel) (da_cons (de_op op_mulD (de_var 5) (de_var 5)) da_nil)) de_int))
      (dss_cons (ds_set 6 sc__law_take.nd (de_op op_modI (de_callTy call_intD (by rfl) T.m_int (by decide +kernel) (da_cons (de_op op_mulD (de_var 6) de_int) da_nil)) de_int))
      (dss_cons (ds_if (dt_cmp op_gtI (de_var 1) de_int) (dss_one (ds_ret (de_op op_modI (de_callTy call_intD (by rfl) T.m_int (by decide +kernel) (da_cons (de_op (op_addD .z) (de_op op_mulD (de_var 6) de_int) (de_var 5)) da_nil)) (de_var 1)))) dss_nil)
      (dss_one (ds_ret (de_op op_modI (de_callTy call_intD (by rfl) T.m_int (by decide +kernel) (da_cons (de_op op_fdivI (de_var 6) de_int) da_nil)) (de_var 1))))))))))
theorem ok__law_alike (T : Txt K mg A) : FnG P w K mg base 1 A.a__law_alike A.fd__law_alike ["_law_one", "_law_other"] (spD K mg 2 den__law_alike) := by
  refine fn_denG (body := body__law_alike) T.F__law_alike sc__law_alike rfl rfl (by decide) fun cdv A outer s H E hG hr => ?_
  exact (dss_one (ds_ret (de_and (de_cmp (op_eqG' (u64 hr)) (de_var 0) (de_var 1)) (de_one (de_cmp (op_eqG' (u64 hr)) (de_callB (call_repr hG (u64 hr)) (by rfl) T.m_repr (by decide +kernel) (da_cons (de_var 0) da_nil)) (de_callB (call_repr hG (u64 hr)) (by rfl) T.m_repr (by decide +kernel) (da_cons (de_var 1) da_nil)))))))
theorem ok__law_names (T : Txt K mg A) : FnG P w K mg base 2 A.a__law_names A.fd__law_names ["_law_bag_here", "_law_many"] (spD K mg 2 den__law_names) := by
  have G__law_take := ok__law_take (P := P) (w := w) (base := base) T
  refine fn_denG (body := body__law_names) T.F__law_names sc__law_names rfl rfl (by decide) fun cdv A outer s H E hG hr => ?_
  exact (dss_cons (ds_set 2 sc__law_names.nd (de_bm PySem.F.plainAttrs_str PySem.F.slot_str_split PySem.F.type_str_split (mt_splitD .z) de_str (da_cons de_str da_nil)))
      (dss_cons (ds_set 2 sc__law_names.nd (de_op (op_addD .z) (de_var 2) (de_bm PySem.F.plainAttrs_str PySem.F.slot_str_split PySem.F.type_str_split (mt_splitD .z) de_str (da_cons de_str da_nil))))
      (dss_cons (ds_set 3 sc__law_names.nd de_str)
      (dss_cons (ds_asg (de_tup (da_cons (de_callG G__law_take hG (hr.mono (by decide)) T.g__law_take T.F__law_take.kp T.b__law_take (takes_of rfl rfl rfl rfl) (da_cons (de_var 0) (da_cons de_int da_nil)) (lenA_cons (lenA_cons lenA_nil))) (da_cons (de_callG G__law_take hG (hr.mono (by decide)) T.g__law_take T.F__law_take.kp T.b__law_take (takes_of rfl rfl rfl rfl) (da_cons (de_var 0) (da_cons de_int da_nil)) (lenA_cons (lenA_cons lenA_nil))) da_nil))) (dg_tup (dgs_cons (dg_name 4 sc__law_names.nd) (dgs_cons (dg_name 5 sc__law_names.nd) dgs_nil))))
      (dss_cons (ds_if (dt_cmp op_ltI (de_var 4) de_int) (dss_one (ds_ret (de_slice (sl_D .z) (de_op (op_addD .z) (de_slice (sl_D .z) (de_var 2) (do_some (de_var 5)) do_none) (de_slice (sl_D .z) (de_var 2) do_none (do_some (de_var 5)))) do_none (do_some (de_var 1))))) dss_nil)
      (dss_cons (ds_if (dt_cmp (op_eqG' (u64 hr)) (de_var 4) de_int) (dss_one (ds_ret (de_lc .z [("_law_k", 6)] sc__law_names.nd (di_range1 (by rfl) T.m_range (da_cons (de_var 1) da_nil)) (blk_by (N := ["_law_bag_here", "_law_many", "_law_menu", "_law_letters", "_law_way", "_law_turn", "_law_k"]) (sc := defScope s__law_names) (by decide +kernel)) (fun _ _ _ _ _ => (dl_one 6 sc__law_names.nd)) (fun _ _ _ _ _ => dts_nil) (fun _ _ _ _ _ => (de_ix ix_D (de_var 3) (de_op op_modI (de_callTy call_intD (by rfl) T.m_int (by decide +kernel) (da_cons (de_op (op_addD .z) (de_var 5) (de_op op_mulD de_int (de_var 6))) da_nil)) de_int)))))) dss_nil)
      (dss_one (ds_ret (de_lc .z [("_law_k", 6)] sc__law_names.nd (di_range1 (by rfl) T.m_range (da_cons (de_var 1) da_nil)) (blk_by (N := ["_law_bag_here", "_law_many", "_law_menu", "_law_letters", "_law_way", "_law_turn", "_law_k"]) (sc := defScope s__law_names) (by decide +kernel)) (fun _ _ _ _ _ => (dl_one 6 sc__law_names.nd)) (fun _ _ _ _ _ => dts_nil) (fun _ _ _ _ _ => (de_op op_mulD (de_ix ix_D (de_var 3) (de_var 5)) (de_op op_subI de_int (de_var 6)))))))))))))
theorem ok__law_kinds (T : Txt K mg A) : FnG P w K mg base 1 A.a__law_kinds A.fd__law_kinds [] (spD K mg 0 den__law_kinds) := by
  refine fn_denG (body := body__law_kinds) T.F__law_kinds sc__law_kinds rfl rfl (by decide) fun cdv A outer s H E hG hr => ?_
  exact (dss_one (ds_ret (de_lst .z (da_cons de_str (da_cons de_str (da_cons de_str (da_cons de_str da_nil)))))))
theorem ok__law_thing (T : Txt K mg A) : FnG P w K mg base 2 A.a__law_thing A.fd__law_thing ["_law_bag_here", "_law_names_here"] (spD K mg 2 den__law_thing) := by
  have G__law_kinds := ok__law_kinds (P := P) (w := w) (base := base) T
  have G__law_take := ok__law_take (P := P) (w := w) (base := base) T
  refine fn_denG (body := body__law_thing) T.F__law_thing sc__law_thing rfl rfl (by decide) fun cdv A outer s H E hG hr => ?_
  exact (dss_cons (ds_set 2 sc__law_thing.nd (de_ix ix_D (de_op (op_addD .z) (de_var 1) (de_callG0 G__law_kinds hG (hr.mono (by decide)) T.g__law_kinds T.F__law_kinds.kp T.b__law_kinds (takes_of rfl rfl rfl rfl))) (de_callG G__law_take hG (hr.mono (by decide)) T.g__law_take T.F__law_take.kp T.b__law_take (takes_of rfl rfl rfl rfl) (da_cons (de_var 0) (da_cons (de_op (op_addD .z) (de_callB call_lenD (by rfl) T.m_len (by decide +kernel) (da_cons (de_var 1) da_nil)) de_int) da_nil)) (lenA_cons (lenA_cons lenA_nil)))))
      (dss_cons (ds_par 3 4 sc__law_thing.nd (da_cons (de_callG G__law_take hG (hr.mono (by decide)) T.g__law_take T.F__law_take.kp T.b__law_take (takes_of rfl rfl rfl rfl) (da_cons (de_var 0) (da_cons (de_op (op_addD .z) (de_callB call_lenD (by rfl) T.m_len (by decide +kernel) (da_cons (de_var 2) da_nil)) de_int) da_nil)) (lenA_cons (lenA_cons lenA_nil))) (da_cons (de_ix ix_D de_str (de_callG G__law_take hG (hr.mono (by decide)) T.g__law_take T.F__law_take.kp T.b__law_take (takes_of rfl rfl rfl rfl) (da_cons (de_var 0) (da_cons de_int da_nil)) (lenA_cons (lenA_cons lenA_nil)))) da_nil)))
      (dss_cons (ds_set 5 sc__law_thing.nd (de_lst .z (da_cons (de_var 2) (da_cons (de_op (op_addD .z) (de_op (op_addD .z) (de_slice (sl_D .z) (de_var 2) do_none (do_some (de_var 3))) (de_var 4)) (de_slice (sl_D .z) (de_var 2) (do_some (de_var 3)) do_none)) (da_cons (de_op (op_addD .z) (de_slice (sl_D .z) (de_var 2) do_none (do_some (de_var 3))) (de_slice (sl_D .z) (de_var 2) (do_some (de_op (op_addD .z) (de_var 3) de_int)) do_none)) (da_cons (de_op op_mulD (de_var 2) de_int) (da_cons (de_bm0 PySem.F.plainAttrs_str PySem.F.slot_str_upper PySem.F.type_str_upper mt_upperD (de_var 2)) (da_cons de_str da_nil))))))))
      (dss_cons (ds_set 5 sc__law_thing.nd (de_op (op_addD .z) (de_var 5) (de_lst .z (da_cons de_int (da_cons (de_un un_negI de_int) (da_cons (de_op (op_addD .z) (de_op op_powI de_int de_int) (de_callG G__law_take hG (hr.mono (by decide)) T.g__law_take T.F__law_take.kp T.b__law_take (takes_of rfl rfl rfl rfl) (da_cons (de_var 0) (da_cons de_int da_nil)) (lenA_cons (lenA_cons lenA_nil)))) (da_cons (de_un un_negI (de_op op_powI de_int de_int)) (da_cons de_bl (da_cons de_bl (da_cons de_non da_nil))))))))))
      (dss_cons (ds_set 5 sc__law_thing.nd (de_op (op_addD .z) (de_var 5) (de_lst .z (da_cons (de_lst .z (da_cons (de_var 2) da_nil)) (da_cons (de_tup (da_cons (de_var 2) da_nil)) (da_cons (de_dict1 (de_var 2) de_int) (da_cons (de_lst .z da_nil) da_nil)))))))
      (dss_one (ds_ret (de_ix ix_D (de_var 5) (de_callG G__law_take hG (hr.mono (by decide)) T.g__law_take T.F__law_take.kp T.b__law_take (takes_of rfl rfl rfl rfl) (da_cons (de_var 0) (da_cons de_int da_nil)) (lenA_cons (lenA_cons lenA_nil)))))))))))
theorem ok__law_due (T : Txt K mg A) : FnG P w K mg base 2 A.a__law_due A.fd__law_due ["_law_thing_here"] (spD K mg 1 den__law_due) := by
  have G__law_kinds := ok__law_kinds (P := P) (w := w) (base := base) T
  refine fn_denG (body := body__law_due) T.F__law_due sc__law_due rfl rfl (by decide) fun cdv A outer s H E hG hr => ?_
  exact (dss_cons (ds_set 1 sc__law_due.nd (de_and (de_callB call_isiD (by rfl) T.m_isinstance (by decide +kernel) (da_cons (de_var 0) (da_cons (de_ty (by rfl) T.m_int (by decide +kernel)) da_nil))) (de_one (de_not (de_callB call_isiD (by rfl) T.m_isinstance (by decide +kernel) (da_cons (de_var 0) (da_cons (de_ty (by rfl) T.m_bool (by decide +kernel)) da_nil)))))))
      (dss_cons (ds_set 2 sc__law_due.nd (de_and (de_callB call_isiD (by rfl) T.m_isinstance (by decide +kernel) (da_cons (de_var 0) (da_cons (de_ty (by rfl) T.m_str (by decide +kernel)) da_nil))) (de_one (de_chain op_ltI op_ltI de_int (de_callB call_lenD (by rfl) T.m_len (by decide +kernel) (da_cons (de_var 0) da_nil)) de_int))))
      (dss_cons (ds_if (dt_val (de_var 2)) (dss_one (ds_set 2 sc__law_due.nd (de_cmp (op_eqG' (u64 hr)) (de_lc .z [("_law_sign", 3)] sc__law_due.nd (di_val (de_var 0)) (blk_by (N := ["_law_thing_here", "_law_whole", "_law_named", "_law_sign"]) (sc := defScope s__law_due) (by decide +kernel)) (fun _ _ _ _ _ => (dl_one 3 sc__law_due.nd)) (fun _ _ _ _ _ => (dts_one (dt_cmp (op_notInD' (u65 hr)) (de_var 3) de_str))) (fun _ _ _ _ _ => (de_var 3))) (de_lst .z da_nil)))) dss_nil)
      (dss_one (ds_ret (de_lst .z (da_cons (de_var 1) (da_cons (de_var 2) (da_cons (de_and (de_callB call_isiD (by rfl) T.m_isinstance (by decide +kernel) (da_cons (de_var 0) (da_cons (de_ty (by rfl) T.m_str (by decide +kernel)) da_nil))) (de_one (de_cmp (op_inD' (u65 hr)) (de_var 0) (de_callG0 G__law_kinds hG (hr.mono (by decide)) T.g__law_kinds T.F__law_kinds.kp T.b__law_kinds (takes_of rfl rfl rfl rfl))))) da_nil)))))))))
theorem ok_law (T : Txt K mg A) : FnG P w K mg base 3 A.a_law A.fd_law ["_law_script"] (spD K mg 1 den_law) := by
  have G__law_alike := ok__law_alike (P := P) (w := w) (base := base) T
  have G__law_bag := ok__law_bag (P := P) (w := w) (base := base) T
  have G__law_due := ok__law_due (P := P) (w := w) (base := base) T
  have G__law_kinds := ok__law_kinds (P := P) (w := w) (base := base) T
  have G__law_names := ok__law_names (P := P) (w := w) (base := base) T
  have G__law_thing := ok__law_thing (P := P) (w := w) (base := base) T
  have G_as_free := ok_as_free (P := P) (w := w) (base := base) T
  have G_freer := ok_freer (P := P) (w := w) (base := base) T
  have G_is_integer := ok_is_integer (P := P) (w := w) (base := base) T
  have G_is_kind := ok_is_kind (P := P) (w := w) (base := base) T
  have G_is_name := ok_is_name (P := P) (w := w) (base := base) T
  refine fn_denG (body := body_law) T.F_law sc_law rfl rfl (by decide) fun cdv A outer s H E hG hr => ?_
  exact (dss_cons (ds_set 1 sc_law.nd (de_callG G__law_bag hG (hr.mono (by decide)) T.g__law_bag T.F__law_bag.kp T.b__law_bag (takes_of rfl rfl rfl rfl) (da_cons (de_var 0) da_nil) (lenA_cons lenA_nil)))
      (dss_cons (ds_set 2 sc_law.nd (de_callG G__law_names hG (hr.mono (by decide)) T.g__law_names T.F__law_names.kp T.b__law_names (takes_of rfl rfl rfl rfl) (da_cons (de_var 1) (da_cons de_int da_nil)) (lenA_cons (lenA_cons lenA_nil))))
      (dss_cons (ds_setLc .z 3 [("_law_k", 11)] sc_law.nd (di_range1 (by rfl) T.m_range (da_cons de_int da_nil)) (blk_by (N := ["_law_script", "_law_bag_here", "_law_names_here", "_law_things", "_law_thing_here", "_law_text", "_law_found", "_law_at", "_law_one", "_law_spot", "_law_other", "_law_k"]) (sc := defScope s_law) (by decide +kernel)) (fun _ _ _ _ _ => (dl_one 11 sc_law.nd)) (fun _ _ _ _ _ => dts_nil) (fun _ _ _ _ _ => (de_callG G__law_thing hG (hr.mono (by decide)) T.g__law_thing T.F__law_thing.kp T.b__law_thing takes0 (da_cons (de_var 1) (da_cons (de_var 2) da_nil)) (lenA_cons (lenA_cons lenA_nil)))) (sw_true rfl rfl rfl (by decide +kernel)))
      (dss_cons (ds_for (passes_of rfl) (di_val (de_op (op_addD .z) (de_var 3) (de_rev .z (de_var 3)))) (dg_name 4 sc_law.nd) (dss_cons (ds_set 5 sc_law.nd (de_callB (call_repr hG (u64 hr)) (by rfl) T.m_repr (by decide +kernel) (da_cons (de_var 4) da_nil)))
      (dss_cons (ds_set 6 sc_law.nd (de_lst .z (da_cons (de_callG G_is_integer hG (hr.mono (by decide)) T.g_is_integer T.F_is_integer.kp T.b_is_integer (takes_of rfl rfl rfl rfl) (da_cons (de_var 4) da_nil) (lenA_cons lenA_nil)) (da_cons (de_callG G_is_name hG (hr.mono (by decide)) T.g_is_name T.F_is_name.kp T.b_is_name (takes_of rfl rfl rfl rfl) (da_cons (de_var 4) da_nil) (lenA_cons lenA_nil)) (da_cons (de_callG G_is_kind hG (hr.mono (by decide)) T.g_is_kind T.F_is_kind.kp T.b_is_kind (takes_of rfl rfl rfl rfl) (da_cons (de_var 4) da_nil) (lenA_cons lenA_nil)) da_nil)))))
      (dss_one (ds_if (DW.dt (dw_or (dt_not (dt_val (de_callG G__law_alike hG (hr.mono (by decide)) T.g__law_alike T.F__law_alike.kp T.b__law_alike (takes_of rfl rfl rfl rfl) (da_cons (de_var 6) (da_cons (de_callG G__law_due hG (hr.mono (by decide)) T.g__law_due T.F__law_due.kp T.b__law_due (takes_of rfl rfl rfl rfl) (da_cons (de_var 4) da_nil) (lenA_cons lenA_nil)) da_nil)) (lenA_cons (lenA_cons lenA_nil))))) (dw_or1 (dt_cmp (op_neG' (u64 hr)) (de_callB (call_repr hG (u64 hr)) (by rfl) T.m_repr (by decide +kernel) (da_cons (de_var 4) da_nil)) (de_var 5))))) (dss_one (ds_ret de_bl)) dss_nil)))))
      (dss_cons (ds_for (passes_of rfl) (di_enum (by rfl) T.m_enumerate (da_cons (de_callG0 G__law_kinds hG (hr.mono (by decide)) T.g__law_kinds T.F__law_kinds.kp T.b__law_kinds (takes_of rfl rfl rfl rfl)) da_nil)) (dg_tup (dgs_cons (dg_name 7 sc_law.nd) (dgs_cons (dg_name 8 sc_law.nd) dgs_nil))) (dss_one (ds_for (passes_of rfl) (di_enum (by rfl) T.m_enumerate (da_cons (de_callG0 G__law_kinds hG (hr.mono (by decide)) T.g__law_kinds T.F__law_kinds.kp T.b__law_kinds (takes_of rfl rfl rfl rfl)) da_nil)) (dg_tup (dgs_cons (dg_name 9 sc_law.nd) (dgs_cons (dg_name 10 sc_law.nd) dgs_nil))) (dss_one (ds_if (dt_not (dt_val (de_callG G__law_alike hG (hr.mono (by decide)) T.g__law_alike T.F__law_alike.kp T.b__law_alike (takes_of rfl rfl rfl rfl) (da_cons (de_lst .z (da_cons (de_callG G_freer hG (hr.mono (by decide)) T.g_freer T.F_freer.kp T.b_freer (takes_of rfl rfl rfl rfl) (da_cons (de_var 8) (da_cons (de_var 10) da_nil)) (lenA_cons (lenA_cons lenA_nil))) (da_cons (de_callG G_as_free hG (hr.mono (by decide)) T.g_as_free T.F_as_free.kp T.b_as_free (takes_of rfl rfl rfl rfl) (da_cons (de_var 8) (da_cons (de_var 10) da_nil)) (lenA_cons (lenA_cons lenA_nil))) da_nil))) (da_cons (de_lst .z (da_cons (de_cmp op_gtI (de_var 7) (de_var 9)) (da_cons (de_cmp op_geI (de_var 7) (de_var 9)) da_nil))) da_nil)) (lenA_cons (lenA_cons lenA_nil))))) (dss_one (ds_ret de_bl)) dss_nil)))))
      (dss_one (ds_ret (de_callG G__law_alike hG (hr.mono (by decide)) T.g__law_alike T.F__law_alike.kp T.b__law_alike (takes_of rfl rfl rfl rfl) (da_cons (de_gTup T.c_KINDS) (da_cons (de_callTy call_tupleD (by rfl) T.m_tuple (by decide +kernel) (da_cons (de_callG0 G__law_kinds hG (hr.mono (by decide)) T.g__law_kinds T.F__law_kinds.kp T.b__law_kinds (takes_of rfl rfl rfl rfl)) da_nil)) da_nil)) (lenA_cons (lenA_cons lenA_nil))))))))))
end
theorem all_mk {l : PySem.W.OpenLaw} {w : World} {K : PySem.W.Frag} {h : Heap} {mg : Str → Option Value} {fa : Addr} (X : K.In h) (G : h.Ns mainGlobals mg) (hfa : mg "law" = some (.ref fa))
    {f_is_integer : Addr} {od_is_integer an_is_integer : Option Addr} {sl_is_integer : Array (Option Value)} {oc_is_integer kV_is_integer dc_is_integer pm_is_integer cd_is_integer ct_is_integer : Value}
    (p1_is_integer : PySem.W.nsIn K mainGlobals "is_integer" = some (some (.ref f_is_integer))) (p2_is_integer : K.lookup f_is_integer = some ⟨oc_is_integer, od_is_integer, .func (PySem.W.fnOf "is_integer" "is_integer" (defArgs s_is_integer) (defBody s_is_integer) (defScope s_is_integer) .none kV_is_integer dc_is_integer pm_is_integer an_is_integer cd_is_integer ct_is_integer), sl_is_integer⟩) (p3_is_integer : PySem.W.codeIn K cd_is_integer "is_integer" = true) (p4_is_integer : PySem.W.keepIn K (.ref f_is_integer) = true)
    {f_is_name : Addr} {od_is_name an_is_name : Option Addr} {sl_is_name : Array (Option Value)} {oc_is_name kV_is_name dc_is_name pm_is_name cd_is_name ct_is_name : Value}
    (p1_is_name : PySem.W.nsIn K mainGlobals "is_name" = some (some (.ref f_is_name))) (p2_is_name : K.lookup f_is_name = some ⟨oc_is_name, od_is_name, .func (PySem.W.fnOf "is_name" "is_name" (defArgs s_is_name) (defBody s_is_name) (defScope s_is_name) .none kV_is_name dc_is_name pm_is_name an_is_name cd_is_name ct_is_name), sl_is_name⟩) (p3_is_name : PySem.W.codeIn K cd_is_name "is_name" = true) (p4_is_name : PySem.W.keepIn K (.ref f_is_name) = true)
    {f_is_kind : Addr} {od_is_kind an_is_kind : Option Addr} {sl_is_kind : Array (Option Value)} {oc_is_kind kV_is_kind dc_is_kind pm_is_kind cd_is_kind ct_is_kind : Value}
    (p1_is_kind : PySem.W.nsIn K mainGlobals "is_kind" = some (some (.ref f_is_kind))) (p2_is_kind : K.lookup f_is_kind = some ⟨oc_is_kind, od_is_kind, .func (PySem.W.fnOf "is_kind" "is_kind" (defArgs s_is_kind) (defBody s_is_kind) (defScope s_is_kind) .none kV_is_kind dc_is_kind pm_is_kind an_is_kind cd_is_kind ct_is_kind), sl_is_kind⟩) (p3_is_kind : PySem.W.codeIn K cd_is_kind "is_kind" = true) (p4_is_kind : PySem.W.keepIn K (.ref f_is_kind) = true)
    {f_freer : Addr} {od_freer an_freer : Option Addr} {sl_freer : Array (Option Value)} {oc_freer kV_freer dc_freer pm_freer cd_freer ct_freer : Value}
    (p1_freer : PySem.W.nsIn K mainGlobals "freer" = some (some (.ref f_freer))) (p2_freer : K.lookup f_freer = some ⟨oc_freer, od_freer, .func (PySem.W.fnOf "freer" "freer" (defArgs s_freer) (defBody s_freer) (defScope s_freer) .none kV_freer dc_freer pm_freer an_freer cd_freer ct_freer), sl_freer⟩) (p3_freer : PySem.W.codeIn K cd_freer "freer" = true) (p4_freer : PySem.W.keepIn K (.ref f_freer) = true)
    {f_as_free : Addr} {od_as_free an_as_free : Option Addr} {sl_as_free : Array (Option Value)} {oc_as_free kV_as_free dc_as_free pm_as_free cd_as_free ct_as_free : Value}
    (p1_as_free : PySem.W.nsIn K mainGlobals "as_free" = some (some (.ref f_as_free))) (p2_as_free : K.lookup f_as_free = some ⟨oc_as_free, od_as_free, .func (PySem.W.fnOf "as_free" "as_free" (defArgs s_as_free) (defBody s_as_free) (defScope s_as_free) .none kV_as_free dc_as_free pm_as_free an_as_free cd_as_free ct_as_free), sl_as_free⟩) (p3_as_free : PySem.W.codeIn K cd_as_free "as_free" = true) (p4_as_free : PySem.W.keepIn K (.ref f_as_free) = true)
    {f__law_bag : Addr} {od__law_bag an__law_bag : Option Addr} {sl__law_bag : Array (Option Value)} {oc__law_bag kV__law_bag dc__law_bag pm__law_bag cd__law_bag ct__law_bag : Value}
    (p1__law_bag : PySem.W.nsIn K mainGlobals "_law_bag" = some (some (.ref f__law_bag))) (p2__law_bag : K.lookup f__law_bag = some ⟨oc__law_bag, od__law_bag, .func (PySem.W.fnOf "_law_bag" "_law_bag" (defArgs s__law_bag) (defBody s__law_bag) (defScope s__law_bag) .none kV__law_bag dc__law_bag pm__law_bag an__law_bag cd__law_bag ct__law_bag), sl__law_bag⟩) (p3__law_bag : PySem.W.codeIn K cd__law_bag "_law_bag" = true) (p4__law_bag : PySem.W.keepIn K (.ref f__law_bag) = true)
    {f__law_take : Addr} {od__law_take an__law_take : Option Addr} {sl__law_take : Array (Option Value)} {oc__law_take kV__law_take dc__law_take pm__law_take cd__law_take ct__law_take : Value}
    (p1__law_take : PySem.W.nsIn K mainGlobals "_law_take" = some (some (.ref f__law_take))) (p2__law_take : K.lookup f__law_take = some ⟨oc__law_take, od__law_take, .func (PySem.W.fnOf "_law_take" "_law_take" (defArgs s__law_take) (defBody s__law_take) (defScope s__law_take) .none kV__law_take dc__law_take pm__law_take an__law_take cd__law_take ct__law_take), sl__law_take⟩) (p3__law_take : PySem.W.codeIn K cd__law_take "_law_take" = true) (p4__law_take : PySem.W.keepIn K (.ref f__law_take) = true)
    {f__law_alike : Addr} {od__law_alike an__law_alike : Option Addr} {sl__law_alike : Array (Option Value)} {oc__law_alike kV__law_alike dc__law_alike pm__law_alike cd__law_alike ct__law_alike : Value}
    (p1__law_alike : PySem.W.nsIn K mainGlobals "_law_alike" = some (some (.ref f__law_alike))) (p2__law_alike : K.lookup f__law_alike = some ⟨oc__law_alike, od__law_alike, .func (PySem.W.fnOf "_law_alike" "_law_alike" (defArgs s__law_alike) (defBody s__law_alike) (defScope s__law_alike) .none kV__law_alike dc__law_alike pm__law_alike an__law_alike cd__law_alike ct__law_alike), sl__law_alike⟩) (p3__law_alike : PySem.W.codeIn K cd__law_alike "_law_alike" = true) (p4__law_alike : PySem.W.keepIn K (.ref f__law_alike) = true)
    {f__law_names : Addr} {od__law_names an__law_names : Option Addr} {sl__law_names : Array (Option Value)} {oc__law_names kV__law_names dc__law_names pm__law_names cd__law_names ct__law_names : Value}
    (p1__law_names : PySem.W.nsIn K mainGlobals "_law_names" = some (some (.ref f__law_names))) (p2__law_names : K.lookup f__law_names = some ⟨oc__law_names, od__law_names, .func (PySem.W.fnOf "_law_names" "_law_names" (defArgs s__law_names) (defBody s__law_names) (defScope s__law_names) .none kV__law_names dc__law_names pm__law_names an__law_names cd__law_names ct__law_names), sl__law_names⟩) (p3__law_names : PySem.W.codeIn K cd__law_names "_law_names" = true) (p4__law_names : PySem.W.keepIn K (.ref f__law_names) = true)
    {f__law_kinds : Addr} {od__law_kinds an__law_kinds : Option Addr} {sl__law_kinds : Array (Option Value)} {oc__law_kinds kV__law_kinds dc__law_kinds pm__law_kinds cd__law_kinds ct__law_kinds : Value}
    (p1__law_kinds : PySem.W.nsIn K mainGlobals "_law_kinds" = some (some (.ref f__law_kinds))) (p2__law_kinds : K.lookup f__law_kinds = some ⟨oc__law_kinds, od__law_kinds, .func (PySem.W.fnOf "_law_kinds" "_law_kinds" (defArgs s__law_kinds) (defBody s__law_kinds) (defScope s__law_kinds) .none kV__law_kinds dc__law_kinds pm__law_kinds an__law_kinds cd__law_kinds ct__law_kinds), sl__law_kinds⟩) (p3__law_kinds : PySem.W.codeIn K cd__law_kinds "_law_kinds" = true) (p4__law_kinds : PySem.W.keepIn K (.ref f__law_kinds) = true)
    {f__law_thing : Addr} {od__law_thing an__law_thing : Option Addr} {sl__law_thing : Array (Option Value)} {oc__law_thing kV__law_thing dc__law_thing pm__law_thing cd__law_thing ct__law_thing : Value}
    (p1__law_thing : PySem.W.nsIn K mainGlobals "_law_thing" = some (some (.ref f__law_thing))) (p2__law_thing : K.lookup f__law_thing = some ⟨oc__law_thing, od__law_thing, .func (PySem.W.fnOf "_law_thing" "_law_thing" (defArgs s__law_thing) (defBody s__law_thing) (defScope s__law_thing) .none kV__law_thing dc__law_thing pm__law_thing an__law_thing cd__law_thing ct__law_thing), sl__law_thing⟩) (p3__law_thing : PySem.W.codeIn K cd__law_thing "_law_thing" = true) (p4__law_thing : PySem.W.keepIn K (.ref f__law_thing) = true)
    {f__law_due : Addr} {od__law_due an__law_due : Option Addr} {sl__law_due : Array (Option Value)} {oc__law_due kV__law_due dc__law_due pm__law_due cd__law_due ct__law_due : Value}
    (p1__law_due : PySem.W.nsIn K mainGlobals "_law_due" = some (some (.ref f__law_due))) (p2__law_due : K.lookup f__law_due = some ⟨oc__law_due, od__law_due, .func (PySem.W.fnOf "_law_due" "_law_due" (defArgs s__law_due) (defBody s__law_due) (defScope s__law_due) .none kV__law_due dc__law_due pm__law_due an__law_due cd__law_due ct__law_due), sl__law_due⟩) (p3__law_due : PySem.W.codeIn K cd__law_due "_law_due" = true) (p4__law_due : PySem.W.keepIn K (.ref f__law_due) = true)
    {f_law : Addr} {od_law an_law : Option Addr} {sl_law : Array (Option Value)} {oc_law kV_law dc_law pm_law cd_law ct_law : Value}
    (p1_law : PySem.W.nsIn K mainGlobals "law" = some (some (.ref f_law))) (p2_law : K.lookup f_law = some ⟨oc_law, od_law, .func (PySem.W.fnOf "law" "law" (defArgs s_law) (defBody s_law) (defScope s_law) .none kV_law dc_law pm_law an_law cd_law ct_law), sl_law⟩) (p3_law : PySem.W.codeIn K cd_law "law" = true) (p4_law : PySem.W.keepIn K (.ref f_law) = true)
    (z_abs : PySem.W.nsIn K mainGlobals "abs" = some none)
    (z_all : PySem.W.nsIn K mainGlobals "all" = some none)
    (z_bool : PySem.W.nsIn K mainGlobals "bool" = some none)
    (z_enumerate : PySem.W.nsIn K mainGlobals "enumerate" = some none)
    (z_int : PySem.W.nsIn K mainGlobals "int" = some none)
    (z_isinstance : PySem.W.nsIn K mainGlobals "isinstance" = some none)
    (z_len : PySem.W.nsIn K mainGlobals "len" = some none)
    (z_range : PySem.W.nsIn K mainGlobals "range" = some none)
    (z_repr : PySem.W.nsIn K mainGlobals "repr" = some none)
    (z_str : PySem.W.nsIn K mainGlobals "str" = some none)
    (z_tuple : PySem.W.nsIn K mainGlobals "tuple" = some none)
    {t_KINDS : Addr} {i_KINDS : Array Value} {n_KINDS : Nat} {l_KINDS : Array (Option Value)} (q1_KINDS : PySem.W.nsIn K mainGlobals "KINDS" = some (some (.ref t_KINDS))) (q2_KINDS : K.lookup t_KINDS = some ⟨.type "tuple", none, .seq i_KINDS n_KINDS, l_KINDS⟩) (q3_KINDS : i_KINDS.size ≤ sizeLine) (q4_KINDS : Vals (k_KINDS.map V.str) i_KINDS.toList)
    {tk_LETTERS : Tok} (q1_LETTERS : PySem.W.nsIn K mainGlobals "LETTERS" = some (some (.str (Str.ofString "abcdefghijklmnopqrstuvwxyz") tk_LETTERS)))
    {tk_LONGEST_NAME : Tok} (q1_LONGEST_NAME : PySem.W.nsIn K mainGlobals "LONGEST_NAME" = some (some (.int 8 tk_LONGEST_NAME)))
    : ∃ fd : FuncData, (∀ (s : Shared) (v : Value), BindsTo s fd ⟨[v], []⟩ [("_law_script", v)]) ∧ ∀ base : Heap, K.In base → base.Ns mainGlobals mg → FnG l.prog w K mg base 3 fa fd ["_law_script"] (spD K mg 1 den_law) := by
  have e := hfa.symm.trans (PySem.W.mg_of X G p1_law)
  cases e
  have F_is_integer := fun_mk (st := s_is_integer) p2_is_integer p3_is_integer p4_is_integer
  have b_is_integer := F_is_integer.binds (ps := ["thing"]) fun _ _ _ _ _ _ us hl => match us, hl with | [_], _ => rfl
  have F_is_name := fun_mk (st := s_is_name) p2_is_name p3_is_name p4_is_name
  have b_is_name := F_is_name.binds (ps := ["thing"]) fun _ _ _ _ _ _ us hl => match us, hl with | [_], _ => rfl
  have F_is_kind := fun_mk (st := s_is_kind) p2_is_kind p3_is_kind p4_is_kind
  have b_is_kind := F_is_kind.binds (ps := ["thing"]) fun _ _ _ _ _ _ us hl => match us, hl with | [_], _ => rfl
  have F_freer := fun_mk (st := s_freer) p2_freer p3_freer p4_freer
  have b_freer := F_freer.binds (ps := ["one", "other"]) fun _ _ _ _ _ _ us hl => match us, hl with | [_, _], _ => rfl
  have F_as_free := fun_mk (st := s_as_free) p2_as_free p3_as_free p4_as_free
  have b_as_free := F_as_free.binds (ps := ["one", "other"]) fun _ _ _ _ _ _ us hl => match us, hl with | [_, _], _ => rfl
  have F__law_bag := fun_mk (st := s__law_bag) p2__law_bag p3__law_bag p4__law_bag
  have b__law_bag := F__law_bag.binds (ps := ["_law_script"]) fun _ _ _ _ _ _ us hl => match us, hl with | [_], _ => rfl
  have F__law_take := fun_mk (st := s__law_take) p2__law_take p3__law_take p4__law_take
  have b__law_take := F__law_take.binds (ps := ["_law_bag_here", "_law_most"]) fun _ _ _ _ _ _ us hl => match us, hl with | [_, _], _ => rfl
  have F__law_alike := fun_mk (st := s__law_alike) p2__law_alike p3__law_alike p4__law_alike
  have b__law_alike := F__law_alike.binds (ps := ["_law_one", "_law_other"]) fun _ _ _ _ _ _ us hl => match us, hl with | [_, _], _ => rfl
  have F__law_names := fun_mk (st := s__law_names) p2__law_names p3__law_names p4__law_names
  have b__law_names := F__law_names.binds (ps := ["_law_bag_here", "_law_many"]) fun _ _ _ _ _ _ us hl => match us, hl with | [_, _], _ => rfl
  have F__law_kinds := fun_mk (st := s__law_kinds) p2__law_kinds p3__law_kinds p4__law_kinds
  have b__law_kinds := F__law_kinds.binds (ps := []) fun _ _ _ _ _ _ us hl => match us, hl with | [], _ => rfl
  have F__law_thing := fun_mk (st := s__law_thing) p2__law_thing p3__law_thing p4__law_thing
  have b__law_thing := F__law_thing.binds (ps := ["_law_bag_here", "_law_names_here"]) fun _ _ _ _ _ _ us hl => match us, hl with | [_, _], _ => rfl
  have F__law_due := fun_mk (st := s__law_due) p2__law_due p3__law_due p4__law_due
  have b__law_due := F__law_due.binds (ps := ["_law_thing_here"]) fun _ _ _ _ _ _ us hl => match us, hl with | [_], _ => rfl
  have F_law := fun_mk (st := s_law) p2_law p3_law p4_law
  have b_law := F_law.binds (ps := ["_law_script"]) fun _ _ _ _ _ _ us hl => match us, hl with | [_], _ => rfl
  have T : Txt K mg ⟨f_is_integer, _, f_is_name, _, f_is_kind, _, f_freer, _, f_as_free, _, f__law_bag, _, f__law_take, _, f__law_alike, _, f__law_names, _, f__law_kinds, _, f__law_thing, _, f__law_due, _, fa, _, t_KINDS, i_KINDS, n_KINDS, l_KINDS⟩ := ⟨F_is_integer, PySem.W.mg_of X G p1_is_integer, b_is_integer, F_is_name, PySem.W.mg_of X G p1_is_name, b_is_name, F_is_kind, PySem.W.mg_of X G p1_is_kind, b_is_kind, F_freer, PySem.W.mg_of X G p1_freer, b_freer, F_as_free, PySem.W.mg_of X G p1_as_free, b_as_free, F__law_bag, PySem.W.mg_of X G p1__law_bag, b__law_bag, F__law_take, PySem.W.mg_of X G p1__law_take, b__law_take, F__law_alike, PySem.W.mg_of X G p1__law_alike, b__law_alike, F__law_names, PySem.W.mg_of X G p1__law_names, b__law_names, F__law_kinds, PySem.W.mg_of X G p1__law_kinds, b__law_kinds, F__law_thing, PySem.W.mg_of X G p1__law_thing, b__law_thing, F__law_due, PySem.W.mg_of X G p1__law_due, b__law_due, F_law, PySem.W.mg_of X G p1_law, b_law, PySem.W.mg_none_of X G z_abs, PySem.W.mg_none_of X G z_all, PySem.W.mg_none_of X G z_bool, PySem.W.mg_none_of X G z_enumerate, PySem.W.mg_none_of X G z_int, PySem.W.mg_none_of X G z_isinstance, PySem.W.mg_none_of X G z_len, PySem.W.mg_none_of X G z_range, PySem.W.mg_none_of X G z_repr, PySem.W.mg_none_of X G z_str, PySem.W.mg_none_of X G z_tuple, ⟨PySem.W.mg_of X G q1_KINDS, q2_KINDS, q3_KINDS, q4_KINDS⟩, ⟨_, PySem.W.mg_of X G q1_LETTERS⟩, ⟨_, PySem.W.mg_of X G q1_LONGEST_NAME⟩⟩
  exact ⟨_, fun s v => .of_eq rfl, fun base _ _ => ok_law T⟩
end K11
namespace K11
open PySem L2 L2.Dn
/-! ### names -/
def menu1 : List Str := Txt.split (Str.ofString "a b each call same unlike use kept show mark put") (Str.ofString " ")
def menu2 : List Str := Txt.split (Str.ofString "take move keep kind end fixed effect plan log x") (Str.ofString " ")
def letters : Str := Str.ofString "abcdefghijklmnopqrstuvwxyz"
def fits (p : PyData) : Bool := p.showable && decide (p.shown.length ≤ sizeLine) && decide (p.depth ≤ 60)
/-- what the law's labels have in common -/
def Lb (x : Str) : Bool := PyData.strOk x && decide (1 ≤ x.length) && decide (x.length ≤ 8) && PyData.strOk (Txt.upper x) && PyData.strOk (Txt.mul x 2) && decide ((Txt.mul x 2).length ≤ 16) && fits (.list [.str x]) && fits (.tuple [.str x]) && fits (.dict [(.str x, .int 1)])
theorem menu_ok : ((menu1 ++ menu2).all Lb && ((menu1 ++ menu2).length == 21)) = true := by decide +kernel
theorem letter_ok : (letters.cps.toList.all fun n => Lb ⟨#[n]⟩ && Lb (Txt.mul ⟨#[n]⟩ 8) && Lb (Txt.mul ⟨#[n]⟩ 7) && Lb (Txt.mul ⟨#[n]⟩ 6)) = true := by decide +kernel
theorem kinds_ok : k_KINDS.all Lb = true := by decide +kernel
end K11
namespace K11
open PySem L2 L2.Dn
theorem take_eq : den__law_take = fnD 7 takeB := rfl
theorem takeR {n : Int} {cs : List PyData} {g l : List Cell} {C : Cell} (hC : bagsOk cs C) (h0 : 0 < n) (h1 : n < 2 ^ 64) :
    ∃ r C', 0 ≤ r ∧ r < n ∧ bagsOk cs C' ∧ callR den__law_take [.cell (.g 0), .p (.int n)] ⟨C :: g, l⟩ = .ok (.p (.int r)) ⟨C' :: g, l⟩ := by
  obtain ⟨r, C', k1, k2, k3, k4⟩ := take_ok (g := g) hC h0 h1
  refine ⟨r, C', k1, k2, k3, ?_⟩
  unfold callR
  rw [take_eq]
  simp only [k4]
  rfl
theorem letters_at {k : Int} (h0 : 0 ≤ k) (h1 : k < 26) : ∃ n, n ∈ letters.cps.toList ∧ letters.cps.toList[k.toNat]? = some n := by
  have hl : letters.cps.toList.length = 26 := by decide +kernel
  have hk : k.toNat < letters.cps.toList.length := by omega
  exact ⟨_, List.getElem_mem hk, List.getElem?_eq_getElem hk⟩
theorem size_le {n : Nat} (h : n ≤ 100000) : n ≤ sizeLine := by rw [sizeLine_eq]; omega
theorem tup2G {i j : Nat} {x y : PyData} {ρ : Rho} {m : Store} : tupG 2 (consG (nameG i) (consG (nameG j) nilG)) (mkTup [.p x, .p y]) ρ m = .nx ((ρ.set i (some (.p x))).set j (some (.p y))) m := rfl
theorem fin_str {xs : List Str} {m : Store} : fin (.rt (.p (.list (xs.map .str))) m) = .ok (.p (.list (xs.map .str))) m.g := rfl
theorem names_ok {cs : List PyData} {g : List Cell} {C : Cell} (hC : bagsOk cs C) : ∃ (xs : List Str) (C' : Cell), bagsOk cs C' ∧ xs.length = 3 ∧ (∀ x ∈ xs, Lb x = true) ∧ den__law_names [.cell (.g 0), .p (.int 3)] (C :: g) = .ok (.p (.list (xs.map .str))) (C' :: g) := by
  have hm := menu_ok
  simp only [Bool.and_eq_true, beq_iff_eq, List.all_eq_true] at hm
  obtain ⟨hm, hm21⟩ := hm
  have hle := letter_ok
  simp only [List.all_eq_true, Bool.and_eq_true] at hle
  obtain ⟨way, C1, w0, w1, hC1, ew⟩ := takeR (n := 4) (g := g) (l := []) hC (by decide) (by decide)
  obtain ⟨turn, C2, t0, t1, hC2, et⟩ := takeR (n := 21) (g := g) (l := []) hC1 (by decide) (by decide)
  have e1 : ∀ {ρ : Rho} {m : Store}, metE "str" (splitD .z) (cE (.str (Str.ofString "a b each call same unlike use kept show mark put"))) (consA (cE (.str (Str.ofString " "))) nilA) ρ m = .ok (.p (.list (menu1.map .str))) m := fun {ρ m} => by
    simp only [metE, cE, consA, nilA, bind_ok]
    rw [splitD_z (by decide +kernel)]
    rfl
  have e2 : ∀ {ρ : Rho} {m : Store}, metE "str" (splitD .z) (cE (.str (Str.ofString "take move keep kind end fixed effect plan log x"))) (consA (cE (.str (Str.ofString " "))) nilA) ρ m = .ok (.p (.list (menu2.map .str))) m := fun {ρ m} => by
    simp only [metE, cE, consA, nilA, bind_ok]
    rw [splitD_z (by decide +kernel)]
    rfl
  have e3 : ∀ {m : Store}, addD .z (.p (.list (menu1.map .str))) (.p (.list (menu2.map .str))) m = some (.p (.list ((menu1 ++ menu2).map .str)), m) := fun {m} => by
    rw [addD_list, List.map_append]
    rw [List.length_append] at hm21
    rw [sizeLine_eq, List.length_map, List.length_map]
    omega
  have hM : ∀ {t : Int}, 0 ≤ t → t < 21 → HT.sIx 21 0 (some t) = t.toNat := fun {t} h0 h1 => by
    simp only [HT.sIx]
    rw [if_neg (by omega)]
    omega
  rw [eq__law_names]
  simp only [body__law_names, seqS, setS, asgS, e1, bindS_ok, seq_nx, List.set_cons_zero, List.set_cons_succ, opE_eq, vE_0, vE_s, bind_ok, e2, e3, lift_some, cE, tupE, callE, consA, nilA, ew, et, List.length_cons, List.length_nil]
  rw [if_pos (size_le (by decide))]
  simp only [bindS_ok, tup2G, seq_nx, List.set_cons_zero, List.set_cons_succ]
  simp only [seqS, ifS, testE, opE_eq, vE_0, vE_s, cE, bind_ok, ltI_int, lift_some, testR_ok, bindS_ok]
  by_cases c1 : way < 2
  · refine ⟨cut (cut (menu1 ++ menu2) (some turn) none ++ cut (menu1 ++ menu2) none (some turn)) none (some 3), C2, hC2, ?_, ?_, ?_⟩
    · rw [cut_len, List.length_append, cut_len, cut_len, hm21]
      simp only [HT.sIx]
      rw [if_neg (show ¬ turn < 0 by omega), if_neg (show ¬ (3 : Int) < 0 by decide)]
      have : (3 : Int).toNat = 3 := rfl
      omega
    · intro x hx
      exact hm x ((List.mem_append.mp (cut_mem hx)).elim cut_mem cut_mem)
    · have cm : ∀ {xs : List Str} {lo hi : Option Int}, cut (xs.map PyData.str) lo hi = (cut xs lo hi).map PyData.str := fun {xs lo hi} => by simp only [cut, List.length_map, List.map_take, List.map_drop]
      have hs : (cut (menu1 ++ menu2) (some turn) none).length + (cut (menu1 ++ menu2) none (some turn)).length ≤ sizeLine := size_le (by rw [cut_len, cut_len, hm21]; omega)
      have ea : ∀ {m : Store}, addD .z (.p (.list ((cut (menu1 ++ menu2) (some turn) none).map .str))) (.p (.list ((cut (menu1 ++ menu2) none (some turn)).map .str))) m = some (.p (.list ((cut (menu1 ++ menu2) (some turn) none ++ cut (menu1 ++ menu2) none (some turn)).map .str)), m) := fun {m} => by
        rw [addD_list (by rw [List.length_map, List.length_map]; exact hs), List.map_append]
      simp only [decide_eq_true c1, if_true, retS, slE, opE_eq, vE_0, vE_s, someO, noO, bind_ok, slD_list, lift_some, cm, ea, bindS_ok, seq_rt, fin_str]
  · simp only [decide_eq_false c1, Bool.false_eq_true, if_false, nilS, seq_nx, seqS, ifS, testE, opE_eq, vE_0, vE_s, cE, bind_ok, eqG_int, lift_some, testR_ok, bindS_ok]
    have rng : ∀ {ρ : Rho} {m : Store} {o : Option D}, rng1I (consA (vE 1) nilA) (o :: some (.p (.int 3)) :: ρ) m = .ok [.p (.int 0), .p (.int 1), .p (.int 2)] m := fun {ρ m o} => rfl
    have lc : ∀ {fe : FE} {ρ : Rho} {m : Store}, (∀ k : Int, 0 ≤ k → k < 3 → ∃ x, Lb x = true ∧ fe ((wipeR ρ [6]).set 6 (some (.p (.int k)))) m = .ok (.p (.str x)) m) → rng1I (consA (vE 1) nilA) ρ m = .ok [.p (.int 0), .p (.int 1), .p (.int 2)] m → ∃ xs : List Str, xs.length = 3 ∧ (∀ x ∈ xs, Lb x = true) ∧ lcE .z [6] (rng1I (consA (vE 1) nilA)) (oneG 6) yesT fe ρ m = .ok (.p (.list (xs.map .str))) m := fun {fe ρ m} h hr => by
      obtain ⟨ys, m', k1, k2, k3, k4⟩ := lcM_inv (g := oneG 6) (t := yesT) (fe := fe) (ρ := wipeR ρ [6]) (I := fun m' => m' = m) (P := fun y => ∃ x, y = .p (.str x) ∧ Lb x = true) (ds := [.p (.int 0), .p (.int 1), .p (.int 2)]) rfl (fun d hd m' hm' => by
        subst hm'
        simp only [List.mem_cons, List.not_mem_nil, or_false] at hd
        rcases hd with rfl | rfl | rfl
        · obtain ⟨x, h1, h2⟩ := h 0 (by decide) (by decide)
          exact ⟨_, _, _, rfl, rfl, h2, rfl, x, rfl, h1⟩
        · obtain ⟨x, h1, h2⟩ := h 1 (by decide) (by decide)
          exact ⟨_, _, _, rfl, rfl, h2, rfl, x, rfl, h1⟩
        · obtain ⟨x, h1, h2⟩ := h 2 (by decide) (by decide)
          exact ⟨_, _, _, rfl, rfl, h2, rfl, x, rfl, h1⟩)
      subst k2
      obtain ⟨xs, rfl, h5, h6⟩ := strs_of k3
      refine ⟨xs, by rw [h6, k4]; rfl, h5, ?_⟩
      simp only [lcE, hr, bind_ok, k1, newL, mkLst_p]
      rw [if_pos (size_le (by decide))]
    by_cases c2 : way = 2
    · subst c2
      obtain ⟨xs, k1, k2, k3⟩ := lc (fe := opE ixD (vE 3) (opE modI (calE intD (consA (opE (addD .z) (vE 5) (opE mulD (cE (.int 3)) (vE 6))) nilA)) (cE (.int 26))))
        (ρ := [some (.cell (.g 0)), some (.p (.int 3)), some (.p (.list ((menu1 ++ menu2).map .str))), some (.p (.str (Str.ofString "abcdefghijklmnopqrstuvwxyz"))), some (.p (.int 2)), some (.p (.int turn)), none]) (m := ⟨C2 :: g, []⟩) (fun k k0 k1 => by
          obtain ⟨n, n1, n2⟩ := letters_at (k := (turn + 3 * k) % 26) (Int.emod_nonneg _ (by decide)) (Int.emod_lt_of_pos _ (by decide))
          refine ⟨⟨#[n]⟩, (hle n n1).1.1.1, ?_⟩
          have s3 : small 3 = true := by decide
          simp only [wipeR, List.set_cons_zero, List.set_cons_succ, opE_eq, vE_0, vE_s, calE, consA, nilA, cE, bind_ok, mul_l s3, lift_some, addD_int, intD_int, modI_int (show (0 : Int) < 26 by decide)]
          rw [ixD_str (size_le (by decide)) (Int.emod_nonneg _ (by decide))]
          rw [show Str.ofString "abcdefghijklmnopqrstuvwxyz" = letters from rfl, n2]
          rfl) rng
      refine ⟨xs, C2, hC2, k1, k2, ?_⟩
      simp only [beq_self_eq_true, if_true, retS, k3, bindS_ok, seq_rt, fin_str, Bool.false_eq_true, if_false]
    · have hw : way = 3 := by omega
      subst hw
      obtain ⟨xs, k1, k2, k3⟩ := lc (fe := opE mulD (opE ixD (vE 3) (vE 5)) (opE subI (cE (.int 8)) (vE 6)))
        (ρ := [some (.cell (.g 0)), some (.p (.int 3)), some (.p (.list ((menu1 ++ menu2).map .str))), some (.p (.str (Str.ofString "abcdefghijklmnopqrstuvwxyz"))), some (.p (.int 3)), some (.p (.int turn)), none]) (m := ⟨C2 :: g, []⟩) (fun k k0 k1 => by
          obtain ⟨n, n1, n2⟩ := letters_at (k := turn) t0 (by omega)
          refine ⟨Txt.mul ⟨#[n]⟩ (8 - k), ?_, ?_⟩
          · have hh := hle n n1
            have : k = 0 ∨ k = 1 ∨ k = 2 := by omega
            rcases this with rfl | rfl | rfl
            · exact hh.1.1.2
            · exact hh.1.2
            · exact hh.2
          · have q1 : (-1000000 : Int) ≤ 8 - k := by omega
            have q2 : 8 - k ≤ (1000000 : Int) := by omega
            have hq : (decide ((-1000000 : Int) ≤ 8 - k) && decide (8 - k ≤ 1000000) && decide (Str.length ⟨#[n]⟩ ≤ 16)) = true := by
              rw [decide_eq_true q1, decide_eq_true q2]
              rfl
            simp only [wipeR, List.set_cons_zero, List.set_cons_succ, opE_eq, vE_0, vE_s, cE, bind_ok, lift_some, subI_int]
            rw [ixD_str (size_le (by decide)) t0]
            rw [show Str.ofString "abcdefghijklmnopqrstuvwxyz" = letters from rfl, n2]
            simp only [mapO_some, lift_some, bind_ok, mulD_str hq]) rng
      refine ⟨xs, C2, hC2, k1, k2, ?_⟩
      have : ((3 : Int) == 2) = false := rfl
      simp only [this, Bool.false_eq_true, if_false, retS, k3, nilS, bindS_ok, seq_nx, fin_str]
end K11
namespace K11
open PySem L2 L2.Dn
/-- a thing that the law may meet -/
def Tg (d : PyData) : Prop := fits d = true ∧ ∀ x, d = .str x → PyData.strOk x = true ∧ x.length ≤ 100
theorem fits_iff {d : PyData} : fits d = true ↔ (d.showable = true ∧ d.shown.length ≤ sizeLine) ∧ d.depth ≤ 60 := by
  simp only [fits, Bool.and_eq_true, decide_eq_true_eq]
theorem tg_str {x : Str} (h : PyData.strOk x = true) (hl : x.length ≤ 100) : Tg (.str x) := by
  refine ⟨fits_iff.mpr ⟨⟨rfl, ?_⟩, Nat.zero_le _⟩, fun y e => by cases e; exact ⟨h, hl⟩⟩
  have := StrLaws.reprText_len x fun c hc => Nat.lt_trans (ok_iff.mp h c hc) (by decide)
  rw [PyData.shown_str]
  exact size_le (by omega)
theorem tg_of {d : PyData} (h : fits d = true) (hn : ∀ x, d ≠ .str x) : Tg d := ⟨h, fun x e => absurd e (hn x)⟩
theorem lb_iff {x : Str} (h : Lb x = true) : PyData.strOk x = true ∧ 1 ≤ x.length ∧ x.length ≤ 8 ∧ PyData.strOk (Txt.upper x) = true ∧ PyData.strOk (Txt.mul x 2) = true ∧ (Txt.mul x 2).length ≤ 16 ∧ fits (.list [.str x]) = true ∧ fits (.tuple [.str x]) = true ∧ fits (.dict [(.str x, .int 1)]) = true := by
  simp only [Lb, Bool.and_eq_true, decide_eq_true_eq] at h
  obtain ⟨⟨⟨⟨⟨⟨⟨⟨h1, h2⟩, h3⟩, h4⟩, h5⟩, h6⟩, h7⟩, h8⟩, h9⟩ := h
  exact ⟨h1, h2, h3, h4, h5, h6, h7, h8, h9⟩
def signs11 : Str := Str.ofString " _-!0Aa\n`{."
theorem signs_at {k : Int} (h0 : 0 ≤ k) (h1 : k < 11) : ∃ n, n < 128 ∧ signs11.cps.toList[k.toNat]? = some n := by
  have hl : signs11.cps.toList.length = 11 := by decide +kernel
  have ha : signs11.cps.toList.all (fun n => decide (n < 128)) = true := by decide +kernel
  have hk : k.toNat < signs11.cps.toList.length := by omega
  exact ⟨_, of_decide_eq_true (List.all_eq_true.mp ha _ (List.getElem_mem hk)), List.getElem?_eq_getElem hk⟩
theorem big_ok : ((List.range 9).all fun k => fits (.int (10 ^ 60 + (k : Int)))) = true := by decide +kernel
theorem kinds_den {g : List Cell} {l : List Cell} : callR den__law_kinds [] ⟨g, l⟩ = .ok (.p (.list (k_KINDS.map .str))) ⟨g, l⟩ := rfl
theorem thing_ok {cs : List PyData} {g : List Cell} {C : Cell} {xs : List Str} (hC : bagsOk cs C) (hl : xs.length = 3) (hx : ∀ x ∈ xs, Lb x = true) : ∃ d C', bagsOk cs C' ∧ Tg d ∧ den__law_thing [.cell (.g 0), .p (.list (xs.map .str))] (C :: g) = .ok (.p d) (C' :: g) := by
  obtain ⟨r1, C1, a0, a1, hC1, e1⟩ := takeR (n := 7) (g := g) (l := []) hC (by decide) (by decide)
  have kl : k_KINDS.length = 4 := rfl
  have hk1 : r1.toNat < (xs ++ k_KINDS).length := by rw [List.length_append, hl, kl]; omega
  obtain ⟨label, hlab⟩ : ∃ x, (xs ++ k_KINDS)[r1.toNat]? = some x := ⟨_, List.getElem?_eq_getElem hk1⟩
  have hLb : Lb label = true := by
    rcases List.mem_append.mp (List.mem_of_getElem? hlab) with h | h
    · exact hx _ h
    · exact List.all_eq_true.mp kinds_ok _ h
  obtain ⟨h1, h2, h3, h4, h5, h6, h7, h8, h9⟩ := lb_iff hLb
  obtain ⟨at_, C2, b0, b1, hC2, e2⟩ := takeR (n := label.length + 1) (g := g) (l := []) hC1 (by omega) (by omega)
  obtain ⟨r3, C3, c0, c1, hC3, e3⟩ := takeR (n := 11) (g := g) (l := []) hC2 (by decide) (by decide)
  obtain ⟨n, n1, n2⟩ := signs_at c0 c1
  obtain ⟨r4, C4, d0, d1, hC4, e4⟩ := takeR (n := 9) (g := g) (l := []) hC3 (by decide) (by decide)
  obtain ⟨r5, C5, f0, f1, hC5, e5⟩ := takeR (n := 17) (g := g) (l := []) hC4 (by decide) (by decide)
  have x1 : ∀ {m : Store}, addD .z (.p (.list (xs.map .str))) (.p (.list (k_KINDS.map .str))) m = some (.p (.list ((xs ++ k_KINDS).map .str)), m) := fun {m} => by
    rw [addD_list (by rw [List.length_map, List.length_map, hl, kl]; exact size_le (by decide)), List.map_append]
  have x2 : ∀ {m : Store}, ixD (.p (.list ((xs ++ k_KINDS).map .str))) (.p (.int r1)) m = some (.p (.str label), m) := fun {m} => by
    rw [ixD_list a0, List.getElem?_map, hlab]
    rfl
  have lx : lenD [.p (.list (xs.map .str))] ⟨C :: g, []⟩ = some (.p (.int 3), ⟨C :: g, []⟩) := by
    rw [lenD_list, List.length_map, hl]
    rfl
  have ls : label.length ≤ sizeLine := size_le (by omega)
  have x3 : ∀ {m : Store}, ixD (.p (.str (Str.ofString " _-!0Aa\n`{."))) (.p (.int r3)) m = some (.p (.str ⟨#[n]⟩), m) := fun {m} => by
    rw [ixD_str (size_le (by decide)) c0, show Str.ofString " _-!0Aa\n`{." = signs11 from rfl, n2]
    rfl
  have l1 : ∀ {lo hi : Option Int}, (cutS label lo hi).length ≤ 8 := fun {lo hi} => Nat.le_trans (len_cut _ _ _) h3
  have lsg : Str.length ⟨#[n]⟩ = 1 := rfl
  have y1 : ∀ {m : Store}, addD .z (.p (.str (cutS label none (some at_)))) (.p (.str ⟨#[n]⟩)) m = some (.p (.str (cutS label none (some at_) ++ ⟨#[n]⟩)), m) := fun {m} => addD_str (size_le (by have := l1 (lo := none) (hi := some at_); rw [lsg]; omega))
  have y2 : ∀ {m : Store}, addD .z (.p (.str (cutS label none (some at_) ++ ⟨#[n]⟩))) (.p (.str (cutS label (some at_) none))) m = some (.p (.str (cutS label none (some at_) ++ ⟨#[n]⟩ ++ cutS label (some at_) none)), m) := fun {m} => addD_str (size_le (by have := l1 (lo := none) (hi := some at_); have := l1 (lo := some at_) (hi := none); rw [len_app, lsg]; omega))
  have y3 : ∀ {m : Store}, addD .z (.p (.str (cutS label none (some at_)))) (.p (.str (cutS label (some (at_ + 1)) none))) m = some (.p (.str (cutS label none (some at_) ++ cutS label (some (at_ + 1)) none)), m) := fun {m} => addD_str (size_le (by have := l1 (lo := none) (hi := some at_); have := l1 (lo := some (at_ + 1)) (hi := none); omega))
  have y4 : ∀ {m : Store}, mulD (.p (.str label)) (.p (.int 2)) m = some (.p (.str (Txt.mul label 2)), m) := fun {m} => mulD_str (by rw [decide_eq_true (show label.length ≤ 16 by omega)]; rfl)
  have y5 : ∀ {m : Store}, upperD (.p (.str label)) [] m = some (.p (.str (Txt.upper label)), m) := fun {m} => upperD_str (by omega)
  rw [eq__law_thing]
  simp only [body__law_thing, seqS, setS, parS, opE_eq, vE_0, vE_s, callE, nilA, consA, bind_ok, kinds_den, x1, lift_some, calE, lx, cE, addD_int, show (3 : Int) + 4 = 7 from rfl, e1, x2, bindS_ok, seq_nx, List.set_cons_zero, List.set_cons_succ,
    lenD_str ls, e2, e3, x3]
  have s0 : 0 ≤ sizeLine := Nat.zero_le _
  have s1 : 0 + 1 ≤ sizeLine := size_le (by decide)
  have s4 : 0 + 1 + 1 + 1 + 1 ≤ sizeLine := size_le (by decide)
  have s6 : 0 + 1 + 1 + 1 + 1 + 1 + 1 ≤ sizeLine := size_le (by decide)
  have s7 : 0 + 1 + 1 + 1 + 1 + 1 + 1 + 1 ≤ sizeLine := size_le (by decide)
  have p60 : ∀ {m : Store}, powI (.p (.int 10)) (.p (.int 60)) m = some (.p (.int (10 ^ 60)), m) := fun {m} => rfl
  have p30 : ∀ {m : Store}, powI (.p (.int 10)) (.p (.int 30)) m = some (.p (.int (10 ^ 30)), m) := fun {m} => rfl
  have t1 : ∀ {m : Store}, isTy "str" (.p (.str label)) m = true := fun {m} => rfl
  have k1 : ∀ {m : Store}, mk1D (.p (.str label)) (.p (.int 1)) m = .ok (.p (.dict [(.str label, .int 1)])) m := fun {m} => rfl
  let A : List PyData := [.str label, .str (cutS label none (some at_) ++ ⟨#[n]⟩ ++ cutS label (some at_) none), .str (cutS label none (some at_) ++ cutS label (some (at_ + 1)) none), .str (Txt.mul label 2), .str (Txt.upper label), .str (Str.ofString "")]
  let B : List PyData := [.int 0, .int (-1), .int (10 ^ 60 + r4), .int (-10 ^ 30), .bool true, .bool false, .none]
  let E : List PyData := [.list [.str label], .tuple [.str label], .dict [(.str label, .int 1)], .list []]
  have m1 : ∀ {ρ : Rho} {m : Store} {o0 o1 : Option D}, lstE Md.z (consA (vE 2) (consA (opE (addD Md.z) (opE (addD Md.z) (slE (slD Md.z) (vE 2) noO (someO (vE 3))) (vE 4)) (slE (slD Md.z) (vE 2) (someO (vE 3)) noO))
      (consA (opE (addD Md.z) (slE (slD Md.z) (vE 2) noO (someO (vE 3))) (slE (slD Md.z) (vE 2) (someO (opE (addD Md.z) (vE 3) (cE (PyData.int 1)))) noO)) (consA (opE mulD (vE 2) (cE (PyData.int 2))) (consA (metE "str" upperD (vE 2) nilA) (consA (cE (PyData.str (Str.ofString ""))) nilA))))))
      (o0 :: o1 :: some (.p (.str label)) :: some (.p (.int at_)) :: some (.p (.str ⟨#[n]⟩)) :: ρ) m = .ok (.p (.list A)) m := fun {ρ m o0 o1} => by
    simp only [lstE, consA, nilA, vE_0, vE_s, bind_ok, opE_eq, slE, noO, someO, slD_str ls, lift_some, cE, addD_int, y1, y2, y3, y4, metE, t1, y5, if_true, List.length_cons, List.length_nil, if_pos s6, newL, mkLst, pures]
    rfl
  have m2 : ∀ {ρ : Rho}, lstE Md.z (consA (cE (PyData.int 0)) (consA (unE negI (cE (PyData.int 1))) (consA (opE (addD Md.z) (opE powI (cE (PyData.int 10)) (cE (PyData.int 60))) (callE den__law_take (consA (vE 0) (consA (cE (PyData.int 9)) nilA))))
      (consA (unE negI (opE powI (cE (PyData.int 10)) (cE (PyData.int 30)))) (consA (cE (PyData.bool true)) (consA (cE (PyData.bool false)) (consA (cE PyData.none) nilA))))))) (some (.cell (.g 0)) :: ρ) ⟨C3 :: g, []⟩ = .ok (.p (.list B)) ⟨C4 :: g, []⟩ := fun {ρ} => by
    simp only [lstE, consA, nilA, vE_0, vE_s, bind_ok, opE_eq, unE, negI_int, lift_some, cE, p60, callE, e4, addD_int, p30, List.length_cons, List.length_nil, if_pos s7, newL, mkLst, pures]
    rfl
  have m3 : ∀ {ρ : Rho} {m : Store} {o0 o1 : Option D}, lstE Md.z (consA (lstE Md.z (consA (vE 2) nilA)) (consA (tupE (consA (vE 2) nilA)) (consA (dct1E (vE 2) (cE (PyData.int 1))) (consA (lstE Md.z nilA) nilA)))) (o0 :: o1 :: some (.p (.str label)) :: ρ) m = .ok (.p (.list E)) m := fun {ρ m o0 o1} => by
    simp only [lstE, tupE, dct1E, consA, nilA, vE_0, vE_s, bind_ok, cE, k1, List.length_cons, List.length_nil, if_pos s0, if_pos s1, if_pos s4, newL, mkLst, mkTup, pures]
    rfl
  have q1 : ∀ {m : Store}, addD .z (.p (.list A)) (.p (.list B)) m = some (.p (.list (A ++ B)), m) := fun {m} => addD_list (size_le (show 13 ≤ 100000 by decide))
  have q2 : ∀ {m : Store}, addD .z (.p (.list (A ++ B))) (.p (.list E)) m = some (.p (.list (A ++ B ++ E)), m) := fun {m} => addD_list (size_le (show 17 ≤ 100000 by decide))
  have hl17 : (A ++ B ++ E).length = 17 := rfl
  have hk : r5.toNat < (A ++ B ++ E).length := by rw [hl17]; omega
  have q3 : ∀ {m : Store}, ixD (.p (.list (A ++ B ++ E))) (.p (.int r5)) m = some (.p (A ++ B ++ E)[r5.toNat], m) := fun {m} => by
    rw [ixD_list f0, List.getElem?_eq_getElem hk]
    rfl
  have okn : PyData.strOk ⟨#[n]⟩ = true := ok_iff.mpr fun c hc => by
    have : c = n := by simpa using hc
    omega
  have all : ∀ d ∈ A ++ B ++ E, Tg d := by
    intro d hd
    simp only [A, B, E, List.mem_append, List.mem_cons, List.not_mem_nil, or_false] at hd
    have z1 := l1 (lo := none) (hi := some at_)
    have z2 := l1 (lo := some at_) (hi := none)
    have z3 := l1 (lo := some (at_ + 1)) (hi := none)
    rcases hd with ((rfl | rfl | rfl | rfl | rfl | rfl) | (rfl | rfl | rfl | rfl | rfl | rfl | rfl)) | (rfl | rfl | rfl | rfl)
    · exact tg_str h1 (by omega)
    · exact tg_str (ok_app (ok_app (ok_cut h1 _ _) okn) (ok_cut h1 _ _)) (by rw [len_app, len_app, lsg]; omega)
    · exact tg_str (ok_app (ok_cut h1 _ _) (ok_cut h1 _ _)) (by rw [len_app]; omega)
    · exact tg_str h5 (by omega)
    · exact tg_str h4 (by have := PyProof.Rows.len_upper label; omega)
    · exact tg_str (by decide +kernel) (by decide +kernel)
    · exact tg_of (by decide +kernel) (by intro x e; cases e)
    · exact tg_of (by decide +kernel) (by intro x e; cases e)
    · refine tg_of ?_ (by intro x e; cases e)
      have hb := List.all_eq_true.mp big_ok r4.toNat (List.mem_range.mpr (by omega))
      rw [Int.toNat_of_nonneg d0] at hb
      exact hb
    · exact tg_of (by decide +kernel) (by intro x e; cases e)
    · exact tg_of (by decide +kernel) (by intro x e; cases e)
    · exact tg_of (by decide +kernel) (by intro x e; cases e)
    · exact tg_of (by decide +kernel) (by intro x e; cases e)
    · exact tg_of h7 (by intro x e; cases e)
    · exact tg_of h8 (by intro x e; cases e)
    · exact tg_of h9 (by intro x e; cases e)
    · exact tg_of (by decide +kernel) (by intro x e; cases e)
  refine ⟨_, C5, hC5, all _ (List.getElem_mem hk), ?_⟩
  simp only [m1, bindS_ok, seq_nx, seqS, setS, opE_eq, vE_0, vE_s, bind_ok, m2, q1, lift_some, List.set_cons_zero, List.set_cons_succ, m3, q2, retS, callE, consA, nilA, cE, e5, q3, fin_rt]
end K11
namespace K11
open PySem L2 L2.Dn
def isIntP : PyData → Bool
  | .int _ => true
  | _ => false
def isNameP : PyData → Bool
  | .str x => decide (1 ≤ x.length) && decide (x.length ≤ 8) && x.cps.toList.all fun n => decide (n ∈ letters.cps.toList)
  | _ => false
def isKindP : PyData → Bool
  | .str x => k_KINDS.contains x
  | _ => false
theorem integer_ok (d : PyData) (g l : List Cell) : callR den_is_integer [.p d] ⟨g, l⟩ = .ok (.p (.bool (isIntP d))) ⟨g, l⟩ := by cases d <;> rfl
theorem kind_ok (d : PyData) (g l : List Cell) : callR den_is_kind [.p d] ⟨g, l⟩ = .ok (.p (.bool (isKindP d))) ⟨g, l⟩ := by cases d <;> rfl
theorem isi_str {x : Str} {m : Store} : isiD [.p (.str x), .ty "str"] m = some (.p (.bool true), m) := rfl
theorem inSg_one {n : Nat} {z : Str} {m : Store} : inD (.p (.str ⟨#[n]⟩)) (.p (.str z)) m = some (.p (.bool (decide (n ∈ z.cps.toList))), m) := rfl
theorem notInSg_one {n : Nat} {z : Str} {m : Store} : notInD (.p (.str ⟨#[n]⟩)) (.p (.str z)) m = some (.p (.bool (!decide (n ∈ z.cps.toList))), m) := rfl
theorem bools_map {α : Type} (f : α → Bool) : ∀ xs : List α, bools (xs.map fun x => D.p (.bool (f x))) = some (xs.map f)
  | [] => rfl
  | x :: xs => by
    have := bools_map f xs
    simp only [List.map_cons, bools, this, mapO_some]
theorem signs_len (x : Str) : (signs x).length = x.length := by rw [len_cps]; simp [signs]
theorem all_ok {x : Str} (hx : x.length ≤ 100) {ρ : Rho} {m : Store} (e : ρ = [some (.p (.str x)), none]) : calE allD (consA (lcE .z [1] (walkI (vE 0)) (oneG 1) yesT (opE inD (vE 1) (cE (.str (Str.ofString "abcdefghijklmnopqrstuvwxyz"))))) nilA) ρ m = .ok (.p (.bool (x.cps.toList.all fun n => decide (n ∈ letters.cps.toList)))) m := by
  subst e
  have h1 : lcM (oneG 1) yesT (opE inD (vE 1) (cE (.str (Str.ofString "abcdefghijklmnopqrstuvwxyz")))) [some (.p (.str x)), none] (signs x) m = .ok ((x.cps.toList.map fun n => PyData.bool (decide (n ∈ letters.cps.toList))).map D.p) m := by
    have := lcM_map (g := oneG 1) (t := yesT) (fe := opE inD (vE 1) (cE (.str (Str.ofString "abcdefghijklmnopqrstuvwxyz")))) (ρ := [some (.p (.str x)), none]) (m := m) (ds := signs x) (f := fun d => match d with | .p (.str ⟨⟨[n]⟩⟩) => .p (.bool (decide (n ∈ letters.cps.toList))) | d => d) fun d hd => by
      obtain ⟨n, _, rfl⟩ := List.mem_map.mp hd
      exact ⟨_, rfl, rfl, rfl⟩
    rw [this]
    simp only [signs, List.map_map]
    rfl
  have h2 : lstOf (.p (.list (x.cps.toList.map fun n => PyData.bool (decide (n ∈ letters.cps.toList))))) m = some (x.cps.toList.map fun n => D.p (.bool (decide (n ∈ letters.cps.toList)))) := by
    simp only [lstOf, List.map_map]
    rfl
  simp only [calE, consA, nilA, lcE, walkI, vE_0, bind_ok, itemsZ, wipeR, List.set_cons_zero, List.set_cons_succ]
  rw [if_pos (by rw [signs_len]; exact size_le (by omega))]
  simp only [h1, bind_ok, newL, mkLst_p, allD, h2, bools_map, mapO_some, lift_some, List.all_map]
  rfl
theorem name_ok {d : PyData} (h : Tg d) (g l : List Cell) : callR den_is_name [.p d] ⟨g, l⟩ = .ok (.p (.bool (isNameP d))) ⟨g, l⟩ := by
  cases d with
  | str x =>
    obtain ⟨h1, h2⟩ := h.2 x rfl
    have ls : x.length ≤ sizeLine := size_le (by omega)
    unfold callR
    rw [eq_is_name]
    simp only [body_is_name, seqS, ifS, orT, notT, truE, testE, calE, consA, nilA, vE_0, tyE, bind_ok, isi_str, lift_some, truD, Bool.not_true, Bool.false_eq_true, if_false, chE, cE, lenD_str ls, leI_int, isNameP]
    by_cases c1 : (1 : Int) ≤ x.length
    · have c1' : 1 ≤ x.length := by omega
      by_cases c2 : (x.length : Int) ≤ 8
      · have c2' : x.length ≤ 8 := by omega
        simp only [decide_eq_true c1, decide_eq_true c2, decide_eq_true c1', decide_eq_true c2', bind_ok, bindS_ok, cE, leI_int, lift_some, testR_ok, Bool.not_true, Bool.false_eq_true, if_false, nilS, seq_nx, retS, all_ok h2 rfl, fin_rt, Bool.and_self, Bool.true_and]
        rfl
      · have c2' : ¬ x.length ≤ 8 := by omega
        simp only [decide_eq_true c1, decide_eq_false c2, decide_eq_true c1', decide_eq_false c2', bind_ok, bindS_ok, cE, leI_int, lift_some, testR_ok, Bool.not_false, if_true, retS, seq_rt, fin_rt, Bool.and_false, Bool.false_and]
        rfl
    · have c1' : ¬ 1 ≤ x.length := by omega
      simp only [decide_eq_false c1, decide_eq_false c1', bind_ok, bindS_ok, cE, leI_int, lift_some, testR_ok, Bool.not_false, if_true, retS, seq_rt, fin_rt, Bool.and_false, Bool.false_and]
      rfl
  | _ => rfl
end K11
namespace K11
open PySem L2 L2.Dn
theorem any_eqv (x : Str) : ∀ ks : List Str, (ks.map PyData.str).any (fun z => PyData.eqv z (.str x)) = ks.contains x
  | [] => rfl
  | k :: ks => by
    simp only [List.map_cons, List.any_cons, List.contains_cons, any_eqv x ks, PyData.eqv]
    rw [Bool.beq_comm]
theorem kinds_shaped : SeqAt.shaped (.list (k_KINDS.map .str)) = true := by decide +kernel
theorem inL_str {x : Str} (h : PyData.strOk x = true) {m : Store} : inD (.p (.str x)) (.p (.list (k_KINDS.map .str))) m = some (.p (.bool (k_KINDS.contains x)), m) := by
  have hs : SeqAt.shaped (.str x) = true := by
    simp only [SeqAt.shaped, PyData.canLay0, h, PyData.depth]
    rfl
  have : inD (.p (.str x)) (.p (.list (k_KINDS.map .str))) m = inL false (.p (.str x)) (.p (.list (k_KINDS.map .str))) m := rfl
  rw [this]
  simp only [inL, whole_p, if_pos (And.intro hs kinds_shaped), any_eqv, Bool.false_eq_true, if_false]
theorem filter_nil {α : Type} (p : α → Bool) (xs : List α) : ((xs.filter fun n => !p n) = []) ↔ xs.all p = true := by
  simp [List.filter_eq_nil_iff, List.all_eq_true]
theorem eqv_nil (ds : List PyData) : PyData.eqv (.list ds) (.list []) = ds.isEmpty := by cases ds <;> rfl
theorem shaped_strs : ∀ {ds : List PyData}, (∀ d ∈ ds, ∃ n, d = .str ⟨#[n]⟩ ∧ n < 0x110000) → SeqAt.shaped (.list ds) = true := fun {ds} h => by
  have h1 : ∀ {es : List PyData}, (∀ d ∈ es, ∃ n, d = .str ⟨#[n]⟩ ∧ n < 0x110000) → PyData.canLayAll0 es = true ∧ PyData.depthAll es = 0 := fun {es} => by
    induction es with
    | nil => exact fun _ => ⟨rfl, rfl⟩
    | cons e es ih =>
      intro h
      obtain ⟨n, rfl, hn⟩ := h e (List.mem_cons_self ..)
      obtain ⟨i1, i2⟩ := ih fun d hd => h d (List.mem_cons_of_mem _ hd)
      have ok : PyData.strOk ⟨#[n]⟩ = true := ok_iff.mpr fun c hc => by
        have : c = n := by simpa using hc
        omega
      exact ⟨by simp only [PyData.canLayAll0, PyData.canLay0, ok, i1, Bool.and_self], by simp only [PyData.depthAll, PyData.depth, i2, Nat.max_self]⟩
  obtain ⟨k1, k2⟩ := h1 h
  simp only [SeqAt.shaped, PyData.canLay0, k1, PyData.depth, k2]
  rfl
theorem left_ok {x : Str} (hok : PyData.strOk x = true) (hx : x.length ≤ 100) {ρ : Rho} {o1 o2 : Option D} {m : Store} (e : ρ = [some (.p (.str x)), o1, o2, none]) : opE (eqG false) (lcE .z [3] (walkI (vE 0)) (oneG 3) (testE (opE notInD (vE 3) (cE (.str (Str.ofString "abcdefghijklmnopqrstuvwxyz"))))) (vE 3)) (lstE .z nilA) ρ m = .ok (.p (.bool (x.cps.toList.all fun n => decide (n ∈ letters.cps.toList)))) m := by
  subst e
  let q : D → Bool := fun d => match d with | .p (.str ⟨⟨[n]⟩⟩) => !decide (n ∈ letters.cps.toList) | _ => false
  have h1 : lcM (oneG 3) (testE (opE notInD (vE 3) (cE (.str (Str.ofString "abcdefghijklmnopqrstuvwxyz"))))) (vE 3) [some (.p (.str x)), o1, o2, none] (signs x) m = .ok (((x.cps.toList.filter fun n => !decide (n ∈ letters.cps.toList)).map fun n => PyData.str ⟨#[n]⟩).map D.p) m := by
    have := lcM_pick (g := oneG 3) (t := testE (opE notInD (vE 3) (cE (.str (Str.ofString "abcdefghijklmnopqrstuvwxyz"))))) (fe := vE 3) (ρ := [some (.p (.str x)), o1, o2, none]) (m := m) (ds := signs x) (f := fun d => d) (p := q) fun d hd => by
      obtain ⟨n, _, rfl⟩ := List.mem_map.mp hd
      exact ⟨_, rfl, rfl, fun _ => rfl⟩
    rw [this, List.map_id', signs, List.filter_map, List.map_map]
    rfl
  simp only [opE_eq, lcE, walkI, vE_0, bind_ok, itemsZ, wipeR, List.set_cons_zero, List.set_cons_succ]
  rw [if_pos (by rw [signs_len]; exact size_le (by omega))]
  simp only [h1, bind_ok, newL, mkLst_p, lstE, nilA]
  rw [if_pos (show ([] : List D).length ≤ sizeLine from Nat.zero_le _)]
  have hs1 := shaped_strs (ds := (x.cps.toList.filter fun n => !decide (n ∈ letters.cps.toList)).map fun n => PyData.str ⟨#[n]⟩) fun d hd => by
    obtain ⟨n, hn, rfl⟩ := List.mem_map.mp hd
    exact ⟨n, rfl, ok_iff.mp hok n (List.mem_filter.mp hn).1⟩
  have hs2 : SeqAt.shaped (.list []) = true := rfl
  have he : ∀ ds : List PyData, SeqAt.shaped (.list ds) = true → eqG false (.p (.list ds)) (.p (.list [])) m = some (.p (.bool ds.isEmpty), m) := fun ds hd => by
    have : eqG false (.p (.list ds)) (.p (.list [])) m = eqP false (.p (.list ds)) (.p (.list [])) m := rfl
    rw [this]
    simp only [eqP, whole_p, if_pos (And.intro hd hs2), eqv_nil, Bool.false_eq_true, if_false]
  have hm : mkLst [] = .p (.list []) := rfl
  simp only [hm, bind_ok, he _ hs1, lift_some]
  congr 3
  rw [Bool.eq_iff_iff, List.isEmpty_iff, List.map_eq_nil_iff, filter_nil]
theorem due_ok {d : PyData} (h : Tg d) (g l : List Cell) : callR den__law_due [.p d] ⟨g, l⟩ = .ok (.p (.list [.bool (isIntP d), .bool (isNameP d), .bool (isKindP d)])) ⟨g, l⟩ := by
  cases d with
  | str x =>
    obtain ⟨h1, h2⟩ := h.2 x rfl
    have ls : x.length ≤ sizeLine := size_le (by omega)
    have i1 : ∀ {m : Store}, isiD [.p (.str x), .ty "int"] m = some (.p (.bool false), m) := fun {m} => rfl
    have s3 : 0 + 1 + 1 + 1 ≤ sizeLine := size_le (by decide)
    have fl : ∀ {ds : List PyData} {m : Store}, fin (.rt (.p (.list ds)) m) = .ok (.p (.list ds)) m.g := fun {ds m} => rfl
    have nl : nls [D.p (.str x)] = true := rfl
    unfold callR
    rw [if_pos nl, eq__law_due]
    simp only [body__law_due, seqS, setS, ifS, andE, truE, calE, consA, nilA, vE_0, vE_s, tyE, bind_ok, bindS_ok, isi_str, i1, lift_some, chE, cE, lenD_str ls, ltI_int, isNameP, isIntP, isKindP, seq_nx, List.set_cons_zero, List.set_cons_succ]
    by_cases c1 : (0 : Int) < x.length
    · have c1' : 1 ≤ x.length := by omega
      by_cases c2 : (x.length : Int) < 9
      · have c2' : x.length ≤ 8 := by omega
        simp only [decide_eq_true c1, decide_eq_true c2, decide_eq_true c1', decide_eq_true c2', bind_ok, bindS_ok, cE, ltI_int, lift_some, if_true, seq_nx, List.set_cons_zero, List.set_cons_succ, vE_0, vE_s, truD, left_ok h1 h2 rfl, retS, lstE, consA, calE, nilA, tyE, isi_str, opE_eq, callE, kinds_den, inL_str h1, List.length_cons, List.length_nil, if_pos s3, newL, mkLst, pures, fl, Bool.and_self, Bool.true_and, seqS, ifS, truE, andE, setS, res_ok]
      · have c2' : ¬ x.length ≤ 8 := by omega
        simp only [decide_eq_true c1, decide_eq_false c2, decide_eq_true c1', decide_eq_false c2', bind_ok, bindS_ok, cE, ltI_int, lift_some, Bool.false_eq_true, if_false, nilS, seq_nx, List.set_cons_zero, List.set_cons_succ, vE_0, vE_s, truD, retS, lstE, consA, calE, nilA, tyE, isi_str, opE_eq, callE, kinds_den, inL_str h1, List.length_cons, List.length_nil, if_pos s3, newL, mkLst, pures, fl, Bool.and_false, Bool.false_and, seqS, ifS, truE, andE, setS, res_ok]
    · have c1' : ¬ 1 ≤ x.length := by omega
      simp only [decide_eq_false c1, decide_eq_false c1', bind_ok, bindS_ok, cE, lift_some, Bool.false_eq_true, if_false, nilS, seq_nx, List.set_cons_zero, List.set_cons_succ, vE_0, vE_s, truD, retS, lstE, consA, calE, nilA, tyE, isi_str, opE_eq, callE, kinds_den, inL_str h1, List.length_cons, List.length_nil, if_pos s3, newL, mkLst, pures, fl, Bool.false_and, seqS, ifS, truE, andE, setS, res_ok]
  | none => rfl
  | bool => rfl
  | int => rfl
  | list => rfl
  | tuple => rfl
  | dict => rfl
end K11
namespace K11
open PySem L2 L2.Dn
theorem alike_eq : den__law_alike = fnD 2 alikeB := rfl
theorem bag_eq : den__law_bag = fnD 2 bagB := rfl
theorem callR_ok {den : Den} {ds : List D} {d : D} {g g' l : List Cell} (h : den ds g = .ok d g') (hn : nls ds = true := by rfl) : callR den ds ⟨g, l⟩ = .ok d ⟨g', l⟩ := by
  unfold callR
  rw [if_pos hn, h]
  rfl
theorem alikeR {p : PyData} {g l : List Cell} (h : fine p = true) : callR den__law_alike [.p p, .p p] ⟨g, l⟩ = .ok (.p (.bool true)) ⟨g, l⟩ := by
  refine callR_ok ?_
  rw [alike_eq, alike_fine h]
theorem fine3 : ∀ a b c : Bool, fine (.list [.bool a, .bool b, .bool c]) = true := by decide +kernel
def loopB : FS := (seqS (setS 5 (calE reprD (consA (vE 4) nilA)))
  (seqS (setS 6 (lstE .z (consA (callE den_is_integer (consA (vE 4) nilA)) (consA (callE den_is_name (consA (vE 4) nilA)) (consA (callE den_is_kind (consA (vE 4) nilA)) nilA)))))
  (ifS (orT (notT (truE (callE den__law_alike (consA (vE 6) (consA (callE den__law_due (consA (vE 4) nilA)) nilA))))) (testE (opE (eqG true) (calE reprD (consA (vE 4) nilA)) (vE 5)))) (retS (cE (.bool false))) nilS)))
theorem loop_ok {d : PyData} (h : Tg d) {o0 o1 o2 o3 o4 o5 o6 : Option D} {r : Rho} {g l : List Cell} : ∃ o5' o6', (nameG 4 (.p d) (o0 :: o1 :: o2 :: o3 :: o4 :: o5 :: o6 :: r) ⟨g, l⟩).seq loopB = .nx (o0 :: o1 :: o2 :: o3 :: some (.p d) :: o5' :: o6' :: r) ⟨g, l⟩ := by
  obtain ⟨⟨f1, f2⟩, f3⟩ := fits_iff.mp h.1
  have s3 : 0 + 1 + 1 + 1 ≤ sizeLine := size_le (by decide)
  refine ⟨some (.p (.str d.shown)), some (.p (.list [.bool (isIntP d), .bool (isNameP d), .bool (isKindP d)])), ?_⟩
  simp only [nameG, seq_nx, loopB, seqS, setS, calE, consA, nilA, vE_0, vE_s, bind_ok, List.set_cons_zero, List.set_cons_succ, repr_fine f1 f2 f3, lift_some, bindS_ok, lstE, callE, integer_ok, name_ok h, kind_ok, List.length_cons, List.length_nil, if_pos s3, newL, mkLst, pures,
    ifS, orT, notT, truE, due_ok h, alikeR (fine3 _ _ _), truD, Bool.not_true, Bool.false_eq_true, if_false, testE, opE_eq, eqG_str, beq_self_eq_true, if_true, testR_ok, nilS]
def tailS : FS := (seqS (forE (enumI (consA (callE den__law_kinds nilA) nilA)) (tupG 2 (consG (nameG 7) (consG (nameG 8) nilG))) (forE (enumI (consA (callE den__law_kinds nilA) nilA)) (tupG 2 (consG (nameG 9) (consG (nameG 10) nilG))) (ifS (notT (truE (callE den__law_alike (consA (lstE .z (consA (callE den_freer (consA (vE 8) (consA (vE 10) nilA))) (consA (callE den_as_free (consA (vE 8) (consA (vE 10) nilA))) nilA))) (consA (lstE .z (consA (opE gtI (vE 7) (vE 9)) (consA (opE geI (vE 7) (vE 9)) nilA))) nilA))))) (retS (cE (.bool false))) nilS)))
  (retS (callE den__law_alike (consA (cE (.tuple (k_KINDS.map .str))) (consA (calE tupleD (consA (callE den__law_kinds nilA) nilA)) nilA)))))
theorem fine2 : ∀ a b : Bool, fine (.list [.bool a, .bool b]) = true := by decide +kernel
theorem fineK : fine (.tuple (k_KINDS.map .str)) = true := by decide +kernel
theorem pair_ok {a b : Nat} {x y : Str} (ha : k_KINDS.findIdx? (· == x) = some a) (hb : k_KINDS.findIdx? (· == y) = some b) {o0 o1 o2 o3 o4 o5 o6 o9 o10 : Option D} {r : Rho} {g l : List Cell} :
    (tupG 2 (consG (nameG 9) (consG (nameG 10) nilG)) (.p (.tuple [.int b, .str y])) (o0 :: o1 :: o2 :: o3 :: o4 :: o5 :: o6 :: some (.p (.int a)) :: some (.p (.str x)) :: o9 :: o10 :: r) ⟨g, l⟩).seq
      (ifS (notT (truE (callE den__law_alike (consA (lstE .z (consA (callE den_freer (consA (vE 8) (consA (vE 10) nilA))) (consA (callE den_as_free (consA (vE 8) (consA (vE 10) nilA))) nilA))) (consA (lstE .z (consA (opE gtI (vE 7) (vE 9)) (consA (opE geI (vE 7) (vE 9)) nilA))) nilA))))) (retS (cE (.bool false))) nilS)
    = .nx (o0 :: o1 :: o2 :: o3 :: o4 :: o5 :: o6 :: some (.p (.int a)) :: some (.p (.str x)) :: some (.p (.int b)) :: some (.p (.str y)) :: r) ⟨g, l⟩ := by
  have t : tupG 2 (consG (nameG 9) (consG (nameG 10) nilG)) (.p (.tuple [.int b, .str y])) (o0 :: o1 :: o2 :: o3 :: o4 :: o5 :: o6 :: some (.p (.int a)) :: some (.p (.str x)) :: o9 :: o10 :: r) ⟨g, l⟩ = .nx (o0 :: o1 :: o2 :: o3 :: o4 :: o5 :: o6 :: some (.p (.int a)) :: some (.p (.str x)) :: some (.p (.int b)) :: some (.p (.str y)) :: r) ⟨g, l⟩ := rfl
  have fr : callR den_freer [.p (.str x), .p (.str y)] ⟨g, l⟩ = .ok (.p (.bool (decide ((b : Int) < a)))) ⟨g, l⟩ := by
    refine callR_ok ?_
    rw [eq_freer]
    simp only [body_freer, retS, opE_eq, idxE, vE_0, vE_s, bind_ok, ha, hb, gtI_int, lift_some, bindS_ok, fin_rt]
  have af : callR den_as_free [.p (.str x), .p (.str y)] ⟨g, l⟩ = .ok (.p (.bool (decide ((b : Int) ≤ a)))) ⟨g, l⟩ := by
    refine callR_ok ?_
    rw [eq_as_free]
    simp only [body_as_free, retS, opE_eq, idxE, vE_0, vE_s, bind_ok, ha, hb, geI_int, lift_some, bindS_ok, fin_rt]
  have s2 : 0 + 1 + 1 ≤ sizeLine := size_le (by decide)
  simp only [t, seq_nx, ifS, notT, truE, callE, consA, nilA, lstE, vE_0, vE_s, bind_ok, fr, af, List.length_cons, List.length_nil, if_pos s2, newL, mkLst, pures, opE_eq, gtI_int, geI_int, lift_some, alikeR (fine2 _ _), truD, Bool.not_true, bindS_ok, Bool.false_eq_true, if_false, nilS]
theorem enum_ok {ρ : Rho} {g l : List Cell} : enumI (consA (callE den__law_kinds nilA) nilA) ρ ⟨g, l⟩ = .ok [.p (.tuple [.int 0, .str (Str.ofString "fixed")]), .p (.tuple [.int 1, .str (Str.ofString "stable")]), .p (.tuple [.int 2, .str (Str.ofString "changing")]), .p (.tuple [.int 3, .str (Str.ofString "effect")])] ⟨g, l⟩ := rfl
theorem ix_kinds : k_KINDS.findIdx? (· == Str.ofString "fixed") = some 0 ∧ k_KINDS.findIdx? (· == Str.ofString "stable") = some 1 ∧ k_KINDS.findIdx? (· == Str.ofString "changing") = some 2 ∧ k_KINDS.findIdx? (· == Str.ofString "effect") = some 3 := by decide +kernel
theorem row_ok {a : Nat} {x : Str} (ha : k_KINDS.findIdx? (· == x) = some a) {o0 o1 o2 o3 o4 o5 o6 o7 o8 o9 o10 : Option D} {r : Rho} {g l : List Cell} : ∃ o9' o10',
    (tupG 2 (consG (nameG 7) (consG (nameG 8) nilG)) (.p (.tuple [.int a, .str x])) (o0 :: o1 :: o2 :: o3 :: o4 :: o5 :: o6 :: o7 :: o8 :: o9 :: o10 :: r) ⟨g, l⟩).seq
      (forE (enumI (consA (callE den__law_kinds nilA) nilA)) (tupG 2 (consG (nameG 9) (consG (nameG 10) nilG))) (ifS (notT (truE (callE den__law_alike (consA (lstE .z (consA (callE den_freer (consA (vE 8) (consA (vE 10) nilA))) (consA (callE den_as_free (consA (vE 8) (consA (vE 10) nilA))) nilA))) (consA (lstE .z (consA (opE gtI (vE 7) (vE 9)) (consA (opE geI (vE 7) (vE 9)) nilA))) nilA))))) (retS (cE (.bool false))) nilS))
    = .nx (o0 :: o1 :: o2 :: o3 :: o4 :: o5 :: o6 :: some (.p (.int a)) :: some (.p (.str x)) :: o9' :: o10' :: r) ⟨g, l⟩ := by
  obtain ⟨i0, i1, i2, i3⟩ := ix_kinds
  have t : tupG 2 (consG (nameG 7) (consG (nameG 8) nilG)) (.p (.tuple [.int a, .str x])) (o0 :: o1 :: o2 :: o3 :: o4 :: o5 :: o6 :: o7 :: o8 :: o9 :: o10 :: r) ⟨g, l⟩ = .nx (o0 :: o1 :: o2 :: o3 :: o4 :: o5 :: o6 :: some (.p (.int a)) :: some (.p (.str x)) :: o9 :: o10 :: r) ⟨g, l⟩ := rfl
  refine ⟨some (.p (.int 3)), some (.p (.str (Str.ofString "effect"))), ?_⟩
  have p0 := @pair_ok a 0 x _ ha i0
  have p1 := @pair_ok a 1 x _ ha i1
  have p2 := @pair_ok a 2 x _ ha i2
  have p3 := @pair_ok a 3 x _ ha i3
  simp only [Int.ofNat_zero, Int.natCast_one, show ((0 : Nat) : Int) = 0 from rfl, show ((1 : Nat) : Int) = 1 from rfl, show ((2 : Nat) : Int) = 2 from rfl, show ((3 : Nat) : Int) = 3 from rfl] at p0 p1 p2 p3
  rw [t, seq_nx]
  unfold forE
  rw [enum_ok, bindS_ok]
  unfold forS
  rw [p0]
  dsimp only
  unfold forS
  rw [p1]
  dsimp only
  unfold forS
  rw [p2]
  dsimp only
  unfold forS
  rw [p3]
  rfl
theorem tail_ok {o0 o1 o2 o3 o4 o5 o6 o7 o8 o9 o10 : Option D} {r : Rho} {g l : List Cell} : fin (tailS (o0 :: o1 :: o2 :: o3 :: o4 :: o5 :: o6 :: o7 :: o8 :: o9 :: o10 :: r) ⟨g, l⟩) = .ok (.p (.bool true)) g := by
  obtain ⟨i0, i1, i2, i3⟩ := ix_kinds
  have tk : ∀ {m : Store}, tupleD [.p (.list (k_KINDS.map .str))] m = some (.p (.tuple (k_KINDS.map .str)), m) := fun {m} => rfl
  have last : ∀ {ρ : Rho}, retS (callE den__law_alike (consA (cE (.tuple (k_KINDS.map .str))) (consA (calE tupleD (consA (callE den__law_kinds nilA) nilA)) nilA))) ρ ⟨g, l⟩ = .rt (.p (.bool true)) ⟨g, l⟩ := fun {ρ} => by
    simp only [retS, callE, consA, nilA, cE, bind_ok, calE, kinds_den, tk, lift_some, alikeR fineK, bindS_ok]
  obtain ⟨a1, a2, p0⟩ := @row_ok 0 _ i0 o0 o1 o2 o3 o4 o5 o6 o7 o8 o9 o10 r g l
  obtain ⟨b1, b2, p1⟩ := @row_ok 1 _ i1 o0 o1 o2 o3 o4 o5 o6 (some (.p (.int 0))) (some (.p (.str (Str.ofString "fixed")))) a1 a2 r g l
  obtain ⟨c1, c2, p2⟩ := @row_ok 2 _ i2 o0 o1 o2 o3 o4 o5 o6 (some (.p (.int 1))) (some (.p (.str (Str.ofString "stable")))) b1 b2 r g l
  obtain ⟨d1, d2, p3⟩ := @row_ok 3 _ i3 o0 o1 o2 o3 o4 o5 o6 (some (.p (.int 2))) (some (.p (.str (Str.ofString "changing")))) c1 c2 r g l
  simp only [show ((0 : Nat) : Int) = 0 from rfl, show ((1 : Nat) : Int) = 1 from rfl, show ((2 : Nat) : Int) = 2 from rfl, show ((3 : Nat) : Int) = 3 from rfl] at p0 p1 p2 p3
  unfold tailS seqS forE
  rw [enum_ok, bindS_ok]
  unfold forS
  unfold forE at p0 p1 p2 p3
  rw [p0]
  dsimp only
  unfold forS
  rw [p1]
  dsimp only
  unfold forS
  rw [p2]
  dsimp only
  unfold forS
  rw [p3]
  dsimp only
  unfold forS
  rw [seq_nx, last, fin_rt]
theorem den_law_true (ns : List Int) (hl : ns.length ≤ 63) : ∃ g, den_law [nums ns] [] = .ok (.p (.bool true)) g := by
  obtain ⟨cs, C, hC, eb⟩ := bag_ok ns hl
  obtain ⟨xs, C1, hC1, hxl, hx, en⟩ := names_ok (g := []) hC
  have eb' := callR_ok (l := []) (show den__law_bag [nums ns] [] = _ from eb)
  have en' := callR_ok (l := []) en
  rw [eq_law]
  unfold body_law
  simp only [seqS, setS, callE, consA, nilA, vE_0, vE_s, bind_ok, eb', bindS_ok, seq_nx, List.set_cons_zero, List.set_cons_succ, cE, en']
  have rg : ∀ {ρ : Rho} {m : Store}, rng1I (consA (cE (.int 24)) nilA) ρ m = .ok (rngL 0 24) m := fun {ρ m} => rfl
  obtain ⟨ys, m', k1, ⟨C2, hC2, k2⟩, k3, k4⟩ := lcM_inv (g := oneG 11) (t := yesT) (fe := callE den__law_thing (consA (vE 1) (consA (vE 2) nilA)))
    (ρ := [some (nums ns), some (.cell (.g 0)), some (.p (.list (xs.map .str))), none, none, none, none, none, none, none, none, none]) (I := fun m => ∃ C, bagsOk cs C ∧ m = ⟨[C], []⟩) (P := fun y => ∃ d, y = .p d ∧ Tg d) (ds := rngL 0 24) (m := ⟨[C1], []⟩) ⟨C1, hC1, rfl⟩ (fun d hd m hm => by
      obtain ⟨C3, hC3, rfl⟩ := hm
      obtain ⟨dd, C4, hC4, hT, et⟩ := thing_ok (g := []) hC3 hxl hx
      refine ⟨_, .p dd, ⟨[C4], []⟩, rfl, rfl, ?_, ⟨C4, hC4, rfl⟩, dd, rfl, hT⟩
      simp only [callE, consA, nilA, List.set_cons_zero, List.set_cons_succ, vE_0, vE_s, bind_ok]
      exact callR_ok et)
  subst k2
  obtain ⟨ds, rfl, hT, hdl⟩ := data_of k3
  have h24 : (rngL 0 24).length ≤ sizeLine := size_le (by decide)
  have lc : lcE .z [11] (rng1I (consA (cE (.int 24)) nilA)) (oneG 11) yesT (callE den__law_thing (consA (vE 1) (consA (vE 2) nilA))) [some (nums ns), some (.cell (.g 0)), some (.p (.list (xs.map .str))), none, none, none, none, none, none, none, none, none] ⟨[C1], []⟩ = .ok (.p (.list ds)) ⟨[C2], []⟩ := by
    unfold lcE
    rw [rg, bind_ok, if_pos h24]
    simp only [wipeR, List.set_cons_zero, List.set_cons_succ, k1, bind_ok, newL, mkLst_p]
  simp only [lc, bindS_ok, seq_nx]
  have hds : ds.length = 24 := by
    rw [hdl, k4]
    rfl
  have wk : ∀ {a0 a1 a2 : Option D} {ρ : Rho} {m : Store}, walkI (opE (addD .z) (vE 3) (revE .z (vE 3))) (a0 :: a1 :: a2 :: some (.p (.list ds)) :: ρ) m = .ok ((ds ++ ds.reverse).map D.p) m := fun {a0 a1 a2 ρ m} => by
    simp only [walkI, opE_eq, vE_0, vE_s, bind_ok, revE, lstOf, ← List.map_reverse, newL, mkLst_p]
    rw [addD_list (by rw [List.length_reverse, hds]; exact size_le (by decide))]
    rfl
  obtain ⟨ρ', m', f1, o0, o1, o2, o3, o4, o5, o6, o7, o8, o9, o10, o11, rfl, rfl⟩ := forS_inv (g := nameG 4) (body := loopB) (R := fun ρ m => ∃ o0 o1 o2 o3 o4 o5 o6 o7 o8 o9 o10 o11, ρ = [o0, o1, o2, o3, o4, o5, o6, o7, o8, o9, o10, o11] ∧ m = ⟨[C2], []⟩) (ds := (ds ++ ds.reverse).map D.p)
    (ρ := [some (nums ns), some (.cell (.g 0)), some (.p (.list (xs.map .str))), some (.p (.list ds)), none, none, none, none, none, none, none, none]) (m := ⟨[C2], []⟩) ⟨_, _, _, _, _, _, _, _, _, _, _, _, rfl, rfl⟩ (fun d hd ρ m hm => by
      obtain ⟨o0, o1, o2, o3, o4, o5, o6, o7, o8, o9, o10, o11, rfl, rfl⟩ := hm
      obtain ⟨q, hq, rfl⟩ := List.mem_map.mp hd
      have hTq : Tg q := by
        rcases List.mem_append.mp hq with h | h
        · exact hT q h
        · exact hT q (List.mem_reverse.mp h)
      obtain ⟨a5, a6, e⟩ := loop_ok hTq (o0 := o0) (o1 := o1) (o2 := o2) (o3 := o3) (o4 := o4) (o5 := o5) (o6 := o6) (r := [o7, o8, o9, o10, o11]) (g := [C2]) (l := [])
      exact ⟨_, _, e, _, _, _, _, _, _, _, _, _, _, _, _, rfl, rfl⟩)
  refine ⟨[C2], ?_⟩
  have fe : ∀ {k : FS}, (forE (walkI (opE (addD .z) (vE 3) (revE .z (vE 3)))) (nameG 4) loopB [some (nums ns), some (.cell (.g 0)), some (.p (.list (xs.map .str))), some (.p (.list ds)), none, none, none, none, none, none, none, none] ⟨[C2], []⟩).seq k = k [o0, o1, o2, o3, o4, o5, o6, o7, o8, o9, o10, o11] ⟨[C2], []⟩ := fun {k} => by
    unfold forE
    rw [wk, bindS_ok, f1, seq_nx]
  exact (congrArg fin (fe (k := tailS))).trans tail_ok
end K11
open PySem PySem.W PyProof.Rows
set_option maxHeartbeats 0 in
theorem PySem.Challenge.cw_plancalls_k11_kinds_known_holds : PySem.Challenge.rw_plancalls_k11_kinds_known.Holds := by
  w_on; o_law; k_head; (case hw => w_witness2)
  k_fill
  refine L2.Dn.walk_den (l := PySem.Challenge.rw_plancalls_k11_kinds_known) (n := 63) (k := 3) (x := "_law_script") (den := K11.den_law) rfl (by decide) rfl ⟨rfl, by decide, by decide⟩ (fun w h Y => PySem.W.kIn_of Y) ?F (fun ns hl => K11.den_law_true ns hl)
  case F =>
    intro w mg fa h KX G hmg
    refine' K11.all_mk KX G hmg ?p1_is_integer ?p2_is_integer ?p3_is_integer ?p4_is_integer ?p1_is_name ?p2_is_name ?p3_is_name ?p4_is_name ?p1_is_kind ?p2_is_kind ?p3_is_kind ?p4_is_kind ?p1_freer ?p2_freer ?p3_freer ?p4_freer ?p1_as_free ?p2_as_free ?p3_as_free ?p4_as_free ?p1__law_bag ?p2__law_bag ?p3__law_bag ?p4__law_bag ?p1__law_take ?p2__law_take ?p3__law_take ?p4__law_take ?p1__law_alike ?p2__law_alike ?p3__law_alike ?p4__law_alike ?p1__law_names ?p2__law_names ?p3__law_names ?p4__law_names ?p1__law_kinds ?p2__law_kinds ?p3__law_kinds ?p4__law_kinds ?p1__law_thing ?p2__law_thing ?p3__law_thing ?p4__law_thing ?p1__law_due ?p2__law_due ?p3__law_due ?p4__law_due ?p1_law ?p2_law ?p3_law ?p4_law ?z_abs ?z_all ?z_bool ?z_enumerate ?z_int ?z_isinstance ?z_len ?z_range ?z_repr ?z_str ?z_tuple ?q1_KINDS ?q2_KINDS ?q3_KINDS ?q4_KINDS ?q1_LETTERS ?q1_LONGEST_NAME
    (case p1_is_integer => k_is)
    (case p2_is_integer => k_is)
    (case p3_is_integer => k_is)
    (case p4_is_integer => k_is)
    (case p1_is_name => k_is)
    (case p2_is_name => k_is)
    (case p3_is_name => k_is)
    (case p4_is_name => k_is)
    (case p1_is_kind => k_is)
    (case p2_is_kind => k_is)
    (case p3_is_kind => k_is)
    (case p4_is_kind => k_is)
    (case p1_freer => k_is)
    (case p2_freer => k_is)
    (case p3_freer => k_is)
    (case p4_freer => k_is)
    (case p1_as_free => k_is)
    (case p2_as_free => k_is)
    (case p3_as_free => k_is)
    (case p4_as_free => k_is)
    (case p1__law_bag => k_is)
    (case p2__law_bag => k_is)
    (case p3__law_bag => k_is)
    (case p4__law_bag => k_is)
    (case p1__law_take => k_is)
    (case p2__law_take => k_is)
    (case p3__law_take => k_is)
    (case p4__law_take => k_is)
    (case p1__law_alike => k_is)
    (case p2__law_alike => k_is)
    (case p3__law_alike => k_is)
    (case p4__law_alike => k_is)
    (case p1__law_names => k_is)
    (case p2__law_names => k_is)
    (case p3__law_names => k_is)
    (case p4__law_names => k_is)
    (case p1__law_kinds => k_is)
    (case p2__law_kinds => k_is)
    (case p3__law_kinds => k_is)
    (case p4__law_kinds => k_is)
    (case p1__law_thing => k_is)
    (case p2__law_thing => k_is)
    (case p3__law_thing => k_is)
    (case p4__law_thing => k_is)
    (case p1__law_due => k_is)
    (case p2__law_due => k_is)
    (case p3__law_due => k_is)
    (case p4__law_due => k_is)
    (case p1_law => k_is)
    (case p2_law => k_is)
    (case p3_law => k_is)
    (case p4_law => k_is)
    (case z_abs => k_is)
    (case z_all => k_is)
    (case z_bool => k_is)
    (case z_enumerate => k_is)
    (case z_int => k_is)
    (case z_isinstance => k_is)
    (case z_len => k_is)
    (case z_range => k_is)
    (case z_repr => k_is)
    (case z_str => k_is)
    (case z_tuple => k_is)
    (case q1_KINDS => k_is)
    (case q2_KINDS => k_is)
    (case q3_KINDS => decide)
    (case q4_KINDS => (repeat (first | exact PySem.Paired.nil | refine PySem.Paired.cons ⟨_, rfl⟩ ?_)))
    (case q1_LETTERS => k_is)
    (case q1_LONGEST_NAME => k_is)
