import PyProof.Rows.All
import Wide.All
import OpenK.AllK
import Wide.FinOn
import HandS.ForMost
import HandS.Exc
import HandS.ExcOwn
import HandS.WordsExc
import HandS.CallSlots
import HandS.TupAny
import HandS.IsInst
import HandS.TupMul
import HandS.Wide
import HandS.Style
import HandS.Defaults
import HandS.DictTup
import HandS.DictComp
import HandS.Iter
import KE.SortData
import PyProof.ReprRoads
import PyProof.ReprLen
import HandS.RaiseMore
import PySem.Challenge.RW_wholelayers_k77_whole_depths
set_option Elab.async false
set_option linter.all false
set_option maxRecDepth 100000
set_option maxHeartbeats 4000000
set_option autoImplicit false
/-! VL0: values as data. What a slot holds, how it lies in the heap, and the lifting of plain functions to the layer's readings. -/
namespace L2.VL
open PySem PySem.Spec PyProof.Rows

abbrev D := PyData
/-- a tuple of the written part -/
def KTup (K : PySem.W.Frag) (a : Addr) (xs : List V) : Prop := ∃ (o : Obj) (its : Array Value) (n : Nat), K.lookup a = some o ∧ o.cls = .type "tuple" ∧ o.data = .seq its n ∧ its.size ≤ sizeLine ∧ Vals xs its.toList
/-! v in the frozen heap F is the datum d (a tuple of the written part is told as a dict of its items: so it is read, and nothing else) (as the layer's own, a list being one of the heap) -/
mutual
inductive Dn (K : PySem.W.Frag) (F : Hp) : V → PyData → Prop
  | non : Dn K F .non .none
  | bl (b : Bool) : Dn K F (.bl b) (.bool b)
  | int (i : Int) : Dn K F (.int i) (.int i)
  | str (x : Str) : Dn K F (.str x) (.str x)
  | lst {a : Addr} {xs : List V} {ds : List PyData} : Rd F a (.lst xs) → DnAll K F xs ds → Dn K F (.ref a) (.list ds)
  | tup {a : Addr} {xs : List V} {ds : List PyData} : F a = some (.tup xs) → DnAll K F xs ds → Dn K F (.ref a) (.tuple ds)
  | lit {a : Addr} {xs : List V} {ds : List PyData} {kvs : List (PyData × PyData)} : KTup K a xs → DnAll K F xs ds → kvs = ds.map (fun d => (d, PyData.none)) → Dn K F (.ref a) (.dict kvs)
inductive DnAll (K : PySem.W.Frag) (F : Hp) : List V → List PyData → Prop
  | nil : DnAll K F [] []
  | cons {v : V} {vs : List V} {d : PyData} {ds : List PyData} : Dn K F v d → DnAll K F vs ds → DnAll K F (v :: vs) (d :: ds)
end

/-! ### data stay where they are -/
theorem sameT {K : PySem.W.Frag} {F F' : Hp} (s : Same F F') {a : Addr} {xs : List V} (h : SqT K F a xs) : SqT K F' a xs := by
  rcases h with (h | ⟨o, h⟩) | h
  · exact .inl (.inl (s _ _ h))
  · exact .inl (.inr ⟨o, s _ _ h⟩)
  · exact .inr h
theorem sameL {F F' : Hp} (s : Same F F') {a : Addr} {u : HO} (h : Rd F a u) : Rd F' a u := by
  rcases h with h | ⟨o, h⟩
  · exact .inl (s _ _ h)
  · exact .inr ⟨o, s _ _ h⟩
theorem dpS {K : PySem.W.Frag} {F F' : Hp} (s : Same F F') (d : D) {v : V} (h : Dn K F v d) : Dn K F' v d :=
  Dn.rec (motive_1 := fun v d _ => Dn K F' v d) (motive_2 := fun vs ds _ => DnAll K F' vs ds) .non (fun b => .bl b) (fun i => .int i) (fun x => .str x) (fun h _ a => .lst (sameL s h) a) (fun h _ a => .tup (s _ _ h) a) (fun h _ e a => .lit h a e) .nil (fun _ _ a b => .cons a b) h
theorem dpAllS {K : PySem.W.Frag} {F F' : Hp} (s : Same F F') : ∀ (ds : List D) {vs : List V}, DnAll K F vs ds → DnAll K F' vs ds
  | [], _, .nil => .nil
  | d :: ds, _, .cons h t => .cons (dpS s d h) (dpAllS s ds t)
mutual
theorem dn_dp {K : PySem.W.Frag} {F : Hp} : ∀ (d : D) {v : V}, d.canLay0 = true → Dn K F v d → Dp K F v d
  | .none, _, _, .non => .non
  | .bool b, _, _, .bl _ => .bl b
  | .int i, _, _, .int _ => .int i
  | .str x, _, _, .str _ => .str x
  | .list ds, _, c, .lst h a => .lst (.inl h) (dnAll_dp ds (by simpa [PyData.canLay0] using c) a)
  | .tuple ds, _, c, .tup h a => .tup (SqT.of h) (dnAll_dp ds (by simpa [PyData.canLay0] using c) a)
  | .dict _, _, c, _ => by simp [PyData.canLay0] at c
theorem dnAll_dp {K : PySem.W.Frag} {F : Hp} : ∀ (ds : List D) {vs : List V}, PyData.canLayAll0 ds = true → DnAll K F vs ds → DpAll K F vs ds
  | [], _, _, .nil => .nil
  | d :: ds, _, c, .cons h t => by
    have c' : d.canLay0 = true ∧ PyData.canLayAll0 ds = true := by simpa [PyData.canLayAll0] using c
    exact .cons (dn_dp d c'.1 h) (dnAll_dp ds c'.2 t)
end
theorem dpAll_len {K : PySem.W.Frag} {F : Hp} : ∀ {vs : List V} {ds : List D}, DnAll K F vs ds → vs.length = ds.length
  | _, _, .nil => rfl
  | _, _, .cons _ t => congrArg (· + 1) (dpAll_len t)
theorem dpAll_app {K : PySem.W.Frag} {F : Hp} : ∀ {vs ws : List V} {ds es : List D}, DnAll K F vs ds → DnAll K F ws es → DnAll K F (vs ++ ws) (ds ++ es)
  | _, _, _, _, .nil, t => t
  | _, _, _, _, .cons h t, u => .cons h (dpAll_app t u)
theorem dpAll_get {K : PySem.W.Frag} {F : Hp} : ∀ {vs : List V} {ds : List D} {i : Nat} {d : D}, DnAll K F vs ds → ds[i]? = some d → ∃ v, vs[i]? = some v ∧ Dn K F v d
  | _, _, _, _, .nil, e => by simp at e
  | _, _, 0, _, .cons h _, e => by simp at e; subst e; exact ⟨_, rfl, h⟩
  | _, _, i + 1, d, .cons _ t, e => by
    obtain ⟨v, h1, h2⟩ := dpAll_get (i := i) (d := d) t (by simpa using e)
    exact ⟨v, by simpa using h1, h2⟩
theorem dpAll_get' {K : PySem.W.Frag} {F : Hp} : ∀ {vs : List V} {ds : List D} {i : Nat} {v : V}, DnAll K F vs ds → vs[i]? = some v → ∃ d, ds[i]? = some d ∧ Dn K F v d
  | _, _, _, _, .nil, e => by simp at e
  | _, _, 0, _, .cons h _, e => by simp at e; subst e; exact ⟨_, rfl, h⟩
  | _, _, i + 1, d, .cons _ t, e => by
    obtain ⟨v, h1, h2⟩ := dpAll_get' (i := i) (v := d) t (by simpa using e)
    exact ⟨v, by simpa using h1, h2⟩
theorem dpAll_take {K : PySem.W.Frag} {F : Hp} : ∀ (n : Nat) {vs : List V} {ds : List D}, DnAll K F vs ds → DnAll K F (vs.take n) (ds.take n)
  | 0, _, _, _ => .nil
  | _ + 1, _, _, .nil => .nil
  | n + 1, _, _, .cons h t => .cons h (dpAll_take n t)
theorem dpAll_drop {K : PySem.W.Frag} {F : Hp} : ∀ (n : Nat) {vs : List V} {ds : List D}, DnAll K F vs ds → DnAll K F (vs.drop n) (ds.drop n)
  | 0, _, _, h => h
  | _ + 1, _, _, .nil => .nil
  | n + 1, _, _, .cons _ t => dpAll_drop n t
theorem dpAll_set {K : PySem.W.Frag} {F : Hp} {v : V} {d : D} (h : Dn K F v d) : ∀ (n : Nat) {vs : List V} {ds : List D}, DnAll K F vs ds → DnAll K F (vs.set n v) (ds.set n d)
  | _, _, _, .nil => .nil
  | 0, _, _, .cons _ t => .cons h t
  | n + 1, _, _, .cons q t => .cons q (dpAll_set h n t)
theorem dp_none {K : PySem.W.Frag} {F : Hp} {v : V} (h : Dn K F v .none) : v = .non := by cases h; rfl
theorem dp_bool {K : PySem.W.Frag} {F : Hp} {v : V} {b : Bool} (h : Dn K F v (.bool b)) : v = .bl b := by cases h; rfl
theorem dp_int {K : PySem.W.Frag} {F : Hp} {v : V} {b : Int} (h : Dn K F v (.int b)) : v = .int b := by cases h; rfl
theorem dp_str {K : PySem.W.Frag} {F : Hp} {v : V} {b : Str} (h : Dn K F v (.str b)) : v = .str b := by cases h; rfl
theorem dp_tupH {K : PySem.W.Frag} {F : Hp} {v : V} {ds : List D} (h : Dn K F v (.tuple ds)) : ∃ a vs, v = .ref a ∧ F a = some (.tup vs) ∧ DnAll K F vs ds := by
  cases h with
  | tup h a => exact ⟨_, _, rfl, h, a⟩
theorem dp_tup {K : PySem.W.Frag} {F : Hp} {v : V} {ds : List D} (h : Dn K F v (.tuple ds)) : ∃ a vs, v = .ref a ∧ SqT K F a vs ∧ DnAll K F vs ds := by
  obtain ⟨a, vs, e, h, t⟩ := dp_tupH h
  exact ⟨a, vs, e, SqT.of h, t⟩
theorem dp_lit {K : PySem.W.Frag} {F : Hp} {v : V} {kvs : List (D × D)} (h : Dn K F v (.dict kvs)) : ∃ a vs, v = .ref a ∧ KTup K a vs ∧ DnAll K F vs (kvs.map (·.1)) := by
  cases h with
  | lit h a e =>
    refine ⟨_, _, rfl, h, ?_⟩
    subst e
    rw [List.map_map]
    simpa [Function.comp_def] using a
theorem dp_lst {K : PySem.W.Frag} {F : Hp} {v : V} {ds : List D} (h : Dn K F v (.list ds)) : ∃ a vs, v = .ref a ∧ Rd F a (.lst vs) ∧ DnAll K F vs ds := by
  cases h with
  | lst h a => exact ⟨_, _, rfl, h, a⟩
theorem dp_ints {K : PySem.W.Frag} {F : Hp} : ∀ {ns : List Int} {vs : List V}, DnAll K F vs (ns.map PyData.int) → vs = ns.map V.int
  | [], _, .nil => rfl
  | n :: ns, _, .cons h t => by rw [List.map_cons, dp_ints t, dp_int h]
theorem dp_bools {K : PySem.W.Frag} {F : Hp} : ∀ {ns : List Bool} {vs : List V}, DnAll K F vs (ns.map PyData.bool) → vs = ns.map V.bl
  | [], _, .nil => rfl
  | n :: ns, _, .cons h t => by rw [List.map_cons, dp_bools t, dp_bool h]

/-! ### slots -/
inductive Slot where
  | emp
  | val (d : D)
  | own (ds : List D)
  | ownT (kvs : List (List Key × D))
  | root
def Slot.isOwn : Slot → Bool
  | .own _ => true
  | .ownT _ => true
  | _ => false
/-- a value frozen -/
def frz : Slot → Option D
  | .val d => some d
  | .own ds => some (.list ds)
  | _ => none

/-- a kind of resource: its root, the addresses that are its own, how it lies -/
class Fam (R : Type) where
  ok : V → (Addr → Prop) → (R → Hp → Prop) → Prop
instance : Fam Unit := ⟨fun _ _ _ => True⟩
/-- what a run stands in: the frozen heap and the heap at the entry, what is held aside, a resource -/
structure Ctx (R : Type) where
  F0 : Hp
  H0 : Hp
  gh : Hp
  rootV : V
  fp : Addr → Prop
  holds : R → Hp → Prop
def NotTup (o : HO) : Prop := ∀ xs, o ≠ .tup xs
structure CtxOk {R : Type} [Fam R] (C : Ctx R) : Prop where
  fam : Fam.ok C.rootV C.fp C.holds
  stay : ∀ r H H', C.holds r H → (∀ b o, C.fp b → H b = some o → H' b = some o) → C.holds r H'
  there : ∀ r H b, C.holds r H → C.fp b → ∃ o, H b = some o ∧ NotTup o
  fp0 : ∀ b, C.fp b → ∃ o, C.H0 b = some o ∧ NotTup o
  f0 : ∀ b o, C.F0 b = some o → C.H0 b = some o ∧ ¬ C.fp b

section
variable {R : Type} [Fam R]
def KvOk (K : PySem.W.Frag) (F : Hp) (xs : List (List Key × V)) (ys : List (List Key × D)) : Prop := Paired (fun (p : List Key × V) (q : List Key × D) => p.1 = q.1 ∧ Dn K F p.2 q.2) xs ys
def VOk (K : PySem.W.Frag) (C : Ctx R) (F H : Hp) (v : V) : Slot → Prop
  | .emp => True
  | .val d => Dn K F v d
  | .own ds => ∃ a vs, v = .ref a ∧ H a = some (.lst vs) ∧ C.H0 a = none ∧ C.gh a = none ∧ F a = none ∧ DnAll K F vs ds
  | .ownT kvs => ∃ a vs, v = .ref a ∧ H a = some (.dT vs) ∧ C.H0 a = none ∧ C.gh a = none ∧ F a = none ∧ KvOk K F vs kvs
  | .root => v = C.rootV
structure Hel (K : PySem.W.Frag) (C : Ctx R) (F H : Hp) (r : R) : Prop where
  ok : CtxOk C
  fF : Same C.F0 F
  new : ∀ b o, F b = some o → C.F0 b = some o ∨ C.H0 b = none ∨ ∃ xs, o = .tup xs
  fH : Same F H
  frame : ∀ b o, C.H0 b = some o → ¬ C.fp b → H b = some o
  hr : C.holds r H
  gh : ∀ b o, C.gh b = some o → H b = some o ∧ F b = none ∧ C.H0 b = none ∧ NotTup o
structure Rel (K : PySem.W.Frag) (C : Ctx R) (F : Hp) (σ : St) (H : Hp) (ρ : List Slot) (r : R) : Prop where
  hel : Hel K C F H r
  len : σ.length = ρ.length
  slot : ∀ (i : Nat) (s : Slot), ρ[i]? = some s → s ≠ .emp → ∃ v, σ[i]? = some (some v) ∧ VOk K C F H v s
  apart : ∀ (i j : Nat) (s t : Slot) (v : V), i ≠ j → ρ[i]? = some s → ρ[j]? = some t → s.isOwn = true → t.isOwn = true → σ[i]? = some (some v) → σ[j]? = some (some v) → False
def ResOk (K : PySem.W.Frag) (C : Ctx R) (F H : Hp) (σ : St) (ρ : List Slot) (v : V) (s : Slot) : Prop :=
  VOk K C F H v s ∧ (s.isOwn = true → ∀ (i : Nat) (t : Slot), ρ[i]? = some t → t.isOwn = true → σ[i]? ≠ some (some v))

/-- more is frozen, more stands in the heap -/
structure Ext (F H F' H' : Hp) : Prop where
  ff : Same F F'
  hh : Same H H'
  fh : Same F' H'
  nw : ∀ b o, F' b = some o → F b = some o ∨ H b = none ∨ ∃ xs, o = .tup xs
theorem Ext.refl {F H : Hp} (h : Same F H) : Ext F H F H := ⟨Same.refl _, Same.refl _, h, fun _ _ e => .inl e⟩
theorem Ext.trans {F H F1 H1 F2 H2 : Hp} (a : Ext F H F1 H1) (b : Ext F1 H1 F2 H2) : Ext F H F2 H2 :=
  ⟨a.ff.trans b.ff, a.hh.trans b.hh, b.fh, fun c o e => by
    rcases b.nw c o e with h | h | h
    · exact a.nw c o h
    · exact .inr (.inl (a.hh.free h))
    · exact .inr (.inr h)⟩
def NewOk (K : PySem.W.Frag) (F' H H' : Hp) (v : V) : Slot → Prop
  | .val d => Dn K F' v d
  | .own ds => ∃ a vs, v = .ref a ∧ H a = none ∧ H' a = some (.lst vs) ∧ F' a = none ∧ DnAll K F' vs ds
  | .ownT kvs => ∃ a vs, v = .ref a ∧ H a = none ∧ H' a = some (.dT vs) ∧ F' a = none ∧ KvOk K F' vs kvs
  | .emp => True
  | .root => False

variable {K : PySem.W.Frag} {C : Ctx R} {F F' H H' : Hp} {σ : St} {ρ : List Slot} {r : R} {v : V} {s : Slot}
theorem KvOk.same (e : Same F F') {xs : List (List Key × V)} {ys : List (List Key × D)} (h : KvOk K F xs ys) : KvOk K F' xs ys := Paired.mapP h fun _ _ z => ⟨z.1, dpS e _ z.2⟩
theorem Hel.free (h : Hel K C F H r) {a : Addr} (n : H a = none) : C.H0 a = none := by
  cases q : C.H0 a with
  | none => rfl
  | some o =>
    by_cases hf : C.fp a
    · obtain ⟨o', e, _⟩ := h.ok.there r H a h.hr hf
      rw [n] at e; cases e
    · have := h.frame a o q hf
      rw [n] at this; cases this
theorem Hel.freeG (h : Hel K C F H r) {a : Addr} (n : H a = none) : C.gh a = none := by
  cases q : C.gh a with
  | none => rfl
  | some o =>
    have := (h.gh a o q).1
    rw [n] at this; cases this
theorem Hel.freeF (h : Hel K C F H r) {a : Addr} (n : H a = none) : F a = none := h.fH.free n
theorem Hel.ext (h : Hel K C F H r) (x : Ext F H F' H') : Hel K C F' H' r :=
  ⟨h.ok, h.fF.trans x.ff, fun b o e => by
    rcases x.nw b o e with q | q | q
    · exact h.new b o q
    · exact .inr (.inl (h.free q))
    · exact .inr (.inr q), x.fh, fun b o e n => x.hh b o (h.frame b o e n), h.ok.stay r H H' h.hr fun b o _ e => x.hh b o e,
   fun b o e => by
    obtain ⟨g1, g2, g3, g4⟩ := h.gh b o e
    refine ⟨x.hh b o g1, ?_, g3, g4⟩
    cases q : F' b with
    | none => rfl
    | some o' =>
      rcases x.nw b o' q with z | z | ⟨xs, z⟩
      · rw [g2] at z; cases z
      · rw [g1] at z; cases z
      · have q1 := x.fh b o' q
        rw [x.hh b o g1] at q1
        exact absurd ((Option.some.inj q1).trans z) (g4 xs)⟩
theorem notTup_lst {xs : List V} : NotTup (.lst xs) := fun _ e => nomatch e
theorem notTup_dT {xs : List (List Key × V)} : NotTup (.dT xs) := fun _ e => nomatch e
theorem Ext.keepF (x : Ext F H F' H') {a : Addr} {o : HO} (h : H a = some o) (n : F a = none) (nt : NotTup o) : F' a = none := by
  cases q : F' a with
  | none => rfl
  | some o' =>
    rcases x.nw a o' q with z | z | ⟨xs, z⟩
    · rw [n] at z; cases z
    · rw [h] at z; cases z
    · have q1 := x.fh a o' q
      rw [x.hh a o h] at q1
      exact absurd ((Option.some.inj q1).trans z) (nt xs)
theorem VOk.ext (h : VOk K C F H v s) (x : Ext F H F' H') : VOk K C F' H' v s := by
  cases s with
  | emp => trivial
  | val d => exact dpS x.ff d h
  | own ds =>
    obtain ⟨a, vs, rfl, h1, h2, h3, h4, h5⟩ := h
    exact ⟨a, vs, rfl, x.hh _ _ h1, h2, h3, x.keepF h1 h4 notTup_lst, dpAllS x.ff ds h5⟩
  | ownT ds =>
    obtain ⟨a, vs, rfl, h1, h2, h3, h4, h5⟩ := h
    exact ⟨a, vs, rfl, x.hh _ _ h1, h2, h3, x.keepF h1 h4 notTup_dT, h5.same x.ff⟩
  | root => exact h
theorem Rel.ext (h : Rel K C F σ H ρ r) (x : Ext F H F' H') : Rel K C F' σ H' ρ r :=
  ⟨h.hel.ext x, h.len, fun i s e n => by
    obtain ⟨v, e1, e2⟩ := h.slot i s e n
    exact ⟨v, e1, e2.ext x⟩, h.apart⟩
/-- what is new stands apart -/
theorem NewOk.res (h : Rel K C F σ H ρ r) (x : Ext F H F' H') (n : NewOk K F' H H' v s) : ResOk K C F' H' σ ρ v s := by
  cases s with
  | emp => exact ⟨trivial, fun z => nomatch z⟩
  | val d => exact ⟨n, fun z => nomatch z⟩
  | root => exact n.elim
  | own ds =>
    obtain ⟨a, vs, rfl, n1, n2, n3, n4⟩ := n
    refine ⟨⟨a, vs, rfl, n2, h.hel.free n1, h.hel.freeG n1, n3, n4⟩, fun _ i t e o z => ?_⟩
    obtain ⟨v, e1, e2⟩ := h.slot i t e (fun q => by subst q; cases o)
    rw [z] at e1
    obtain rfl : V.ref a = v := Option.some.inj (Option.some.inj e1)
    cases t with
    | own _ => obtain ⟨_, _, q, e, _⟩ := e2; cases q; rw [n1] at e; cases e
    | ownT _ => obtain ⟨_, _, q, e, _⟩ := e2; cases q; rw [n1] at e; cases e
    | emp => cases o
    | val _ => cases o
    | root => cases o
  | ownT ds =>
    obtain ⟨a, vs, rfl, n1, n2, n3, n4⟩ := n
    refine ⟨⟨a, vs, rfl, n2, h.hel.free n1, h.hel.freeG n1, n3, n4⟩, fun _ i t e o z => ?_⟩
    obtain ⟨v, e1, e2⟩ := h.slot i t e (fun q => by subst q; cases o)
    rw [z] at e1
    obtain rfl : V.ref a = v := Option.some.inj (Option.some.inj e1)
    cases t with
    | own _ => obtain ⟨_, _, q, e, _⟩ := e2; cases q; rw [n1] at e; cases e
    | ownT _ => obtain ⟨_, _, q, e, _⟩ := e2; cases q; rw [n1] at e; cases e
    | emp => cases o
    | val _ => cases o
    | root => cases o
/-- a list that stands alone is frozen -/
theorem Rel.freeze {a : Addr} {vs : List V} (h : Rel K C F σ H ρ r) (ha : H a = some (.lst vs)) (n0 : C.H0 a = none) (ng : C.gh a = none) (nF : F a = none)
    (al : ∀ (i : Nat) (t : Slot), ρ[i]? = some t → t.isOwn = true → σ[i]? ≠ some (some (.ref a))) : Rel K C (upd F a (.lst vs)) σ H ρ r ∧ Same F (upd F a (.lst vs)) := by
  have sm : Same F (upd F a (.lst vs)) := fun b o e => by rw [upd_ne (ne_of_none e nF)]; exact e
  refine ⟨⟨⟨h.hel.ok, h.hel.fF.trans sm, fun b o e => ?_, fun b o e => ?_, h.hel.frame, h.hel.hr, fun b o e => ?_⟩, h.len, fun i s e n => ?_, h.apart⟩, sm⟩
  · by_cases hb : b = a
    · subst hb; exact .inr (.inl n0)
    · rw [upd_ne hb] at e; exact h.hel.new b o e
  · by_cases hb : b = a
    · subst hb; rw [upd_same] at e; rw [ha]; exact e
    · rw [upd_ne hb] at e; exact h.hel.fH b o e
  · obtain ⟨g1, g2, g3, g4⟩ := h.hel.gh b o e
    have hb : b ≠ a := fun z => by subst z; rw [ng] at e; cases e
    exact ⟨g1, by rw [upd_ne hb]; exact g2, g3, g4⟩
  · obtain ⟨v, e1, e2⟩ := h.slot i s e n
    refine ⟨v, e1, ?_⟩
    cases s with
    | emp => trivial
    | val d => exact dpS sm d e2
    | root => exact e2
    | own ds =>
      obtain ⟨a', vs', rfl, h1, h2, h3, h4, h5⟩ := e2
      have hb : a' ≠ a := fun z => by subst z; exact al i _ e rfl e1
      exact ⟨a', vs', rfl, h1, h2, h3, by rw [upd_ne hb]; exact h4, dpAllS sm ds h5⟩
    | ownT ds =>
      obtain ⟨a', vs', rfl, h1, h2, h3, h4, h5⟩ := e2
      have hb : a' ≠ a := fun z => by subst z; exact al i _ e rfl e1
      exact ⟨a', vs', rfl, h1, h2, h3, by rw [upd_ne hb]; exact h4, h5.same sm⟩
theorem frz_ok {d : D} (h : Rel K C F σ H ρ r) (q : ResOk K C F H σ ρ v s) (e : frz s = some d) : ∃ F', Same F F' ∧ Rel K C F' σ H ρ r ∧ Dn K F' v d := by
  cases s with
  | val d' => cases e; exact ⟨F, Same.refl _, h, q.1⟩
  | own ds =>
    cases e
    obtain ⟨⟨a, vs, rfl, h1, h2, h3, h4, h5⟩, q2⟩ := q
    obtain ⟨R', sm⟩ := h.freeze h1 h2 h3 h4 (q2 rfl)
    exact ⟨_, sm, R', .lst (Rd.of upd_same) (dpAllS sm ds h5)⟩
  | emp => cases e
  | ownT _ => cases e
  | root => cases e
/-- a slot's value changes -/
theorem Rel.setSlot (h : Rel K C F σ H ρ r) (i : Nat) (q : ResOk K C F H σ ρ v s) : Rel K C F (σ.set i (some v)) H (ρ.set i s) r := by
  refine ⟨h.hel, by rw [List.length_set, List.length_set]; exact h.len, fun j t e n => ?_, fun j k t u w hjk e1 e2 o1 o2 z1 z2 => ?_⟩
  · by_cases hij : i = j
    · subst hij
      have hl : i < ρ.length := by
        rcases Nat.lt_or_ge i ρ.length with z | z
        · exact z
        · rw [List.getElem?_eq_none (by simpa using z)] at e; cases e
      rw [List.getElem?_set_self hl] at e
      cases e
      exact ⟨v, List.getElem?_set_self (by rw [h.len]; exact hl), q.1⟩
    · rw [List.getElem?_set_ne hij] at e
      rw [List.getElem?_set_ne hij]
      exact h.slot j t e n
  · have key : ∀ {j k : Nat} {t u : Slot}, i = j → j ≠ k → (ρ.set i s)[j]? = some t → (ρ.set i s)[k]? = some u → t.isOwn = true → u.isOwn = true → (σ.set i (some v))[j]? = some (some w) → (σ.set i (some v))[k]? = some (some w) → False := by
      intro j k t u hij hjk e1 e2 o1 o2 z1 z2
      subst hij
      have hl : i < ρ.length := by
        rcases Nat.lt_or_ge i ρ.length with z | z
        · exact z
        · rw [List.getElem?_eq_none (by simpa using z)] at e1; cases e1
      rw [List.getElem?_set_self hl] at e1
      cases e1
      rw [List.getElem?_set_self (by rw [h.len]; exact hl)] at z1
      obtain rfl : v = w := Option.some.inj (Option.some.inj z1)
      rw [List.getElem?_set_ne hjk] at e2 z2
      exact q.2 o1 k u e2 o2 z2
    by_cases hij : i = j
    · exact key hij hjk e1 e2 o1 o2 z1 z2
    · by_cases hik : i = k
      · exact key hik (Ne.symm hjk) e2 e1 o2 o1 z2 z1
      · rw [List.getElem?_set_ne hij] at e1 z1
        rw [List.getElem?_set_ne hik] at e2 z2
        exact h.apart j k t u w hjk e1 e2 o1 o2 z1 z2
/-- less is known of the slots -/
theorem Rel.weaken {ρ' : List Slot} (h : Rel K C F σ H ρ r) (hl : ρ'.length = ρ.length) (w : ∀ (i : Nat) (s : Slot), ρ'[i]? = some s → s ≠ .emp → ρ[i]? = some s) : Rel K C F σ H ρ' r :=
  ⟨h.hel, h.len.trans hl.symm, fun i s e n => h.slot i s (w i s e n) n, fun i j s t v hij e1 e2 o1 o2 z1 z2 =>
    h.apart i j s t v hij (w i s e1 (fun z => by subst z; cases o1)) (w j t e2 (fun z => by subst z; cases o2)) o1 o2 z1 z2⟩
/-- the frame forgets slots -/
theorem Rel.weakenS {ρ' : List Slot} {σ' : St} (h : Rel K C F σ H ρ r) (hl : ρ'.length = ρ.length) (hs : σ'.length = σ.length) (w : ∀ (i : Nat) (s : Slot), ρ'[i]? = some s → s ≠ .emp → ρ[i]? = some s ∧ σ'[i]? = σ[i]?) : Rel K C F σ' H ρ' r :=
  ⟨h.hel, by rw [hs, hl]; exact h.len, fun i s e n => by
    obtain ⟨e1, e2⟩ := w i s e n
    rw [e2]
    exact h.slot i s e1 n, fun i j s t v hij e1 e2 o1 o2 z1 z2 => by
    obtain ⟨a1, a2⟩ := w i s e1 (fun z => by subst z; cases o1)
    obtain ⟨b1, b2⟩ := w j t e2 (fun z => by subst z; cases o2)
    rw [a2] at z1
    rw [b2] at z2
    exact h.apart i j s t v hij a1 b1 o1 o2 z1 z2⟩
end

/-! ### results -/
inductive Res (R : Type) (α : Type) where
  | stuck
  | ok (a : α) (ρ : List Slot) (r : R)
  | exc (c : Str) (d : D) (ρ : List Slot) (r : R)
abbrev M (R : Type) (α : Type) := List Slot → R → Res R α
def Res.bind {R α β : Type} (x : Res R α) (k : α → M R β) : Res R β :=
  match x with
  | .stuck => .stuck
  | .ok a ρ r => k a ρ r
  | .exc c d ρ r => .exc c d ρ r
def bnd {R α β : Type} (m : M R α) (k : α → M R β) : M R β := fun ρ r => (m ρ r).bind k
def ofO {R α : Type} (x : Option α) : M R α := fun ρ r => match x with
  | some a => .ok a ρ r
  | none => .stuck
def ret {R α : Type} (a : α) : M R α := fun ρ r => .ok a ρ r
/-- a value, frozen -/
def toD {R : Type} (m : M R Slot) : M R D := bnd m fun s => ofO (frz s)

inductive Out (R : Type) where
  | stuck
  | nx (ρ : List Slot) (r : R)
  | bk (ρ : List Slot) (r : R)
  | ct (ρ : List Slot) (r : R)
  | rt (s : Slot) (r : R)
  | exc (c : Str) (d : D) (ρ : List Slot) (r : R)
abbrev MS (R : Type) := List Slot → R → Out R

/-- the written part, the module's names, what is wanted of an exception -/
structure LX where
  K : PySem.W.Frag
  mg : Str → Option Value
  W : WX

section
variable {R : Type} [Fam R]
def GoodX (L : LX) (C : Ctx R) (F : Hp) (c : Str) (d : D) (ρ : List Slot) (r : R) : Prop :=
  ∀ (σ : St) (F' H' : Hp) (cls : Value) (dd : Addr) (v : V), Rel L.K C F' σ H' ρ r → Same F F' → L.mg c = some cls → H' dd = some (.xd [(("value" : Str), v)]) → Dn L.K F' v d → L.W cls (some dd) σ H'
def Good {α : Type} (L : LX) (C : Ctx R) (σ : St) (F : Hp) (x : Res R α) (P : α → List Slot → R → Hp → Hp → Prop) : Prop :=
  match x with
  | .stuck => False
  | .ok a ρ r => ∀ F' H', Rel L.K C F' σ H' ρ r → Same F F' → P a ρ r F' H'
  | .exc c d ρ r => GoodX L C F c d ρ r
def GoodS (L : LX) (C : Ctx R) (F : Hp) (x : Out R) (E : Ends) : Prop :=
  match x with
  | .stuck => False
  | .nx ρ r => ∀ σ F' H', Rel L.K C F' σ H' ρ r → Same F F' → E.nx σ H'
  | .bk ρ r => ∀ σ F' H', Rel L.K C F' σ H' ρ r → Same F F' → E.bk σ H'
  | .ct ρ r => ∀ σ F' H', Rel L.K C F' σ H' ρ r → Same F F' → E.ct σ H'
  | .rt s r => ∀ v F' H', Hel L.K C F' H' r → VOk L.K C F' H' v s → Same F F' → E.rt v H'
  | .exc c d ρ r => GoodX L C F c d ρ r
variable {α β : Type} {L : LX} {C : Ctx R} {σ : St} {F F' H : Hp} {ρ : List Slot} {r : R}
theorem GoodX.mono {c : Str} {d : D} (s : Same F F') (h : GoodX L C F c d ρ r) : GoodX L C F' c d ρ r :=
  fun σ F'' H' cls dd v a b => h σ F'' H' cls dd v a (s.trans b)
theorem Good.mono {x : Res R α} {P : α → List Slot → R → Hp → Hp → Prop} (s : Same F F') (h : Good L C σ F x P) : Good L C σ F' x P := by
  cases x with
  | stuck => exact h
  | ok a ρ r => exact fun F'' H' a b => h F'' H' a (s.trans b)
  | exc c d ρ r => exact GoodX.mono s h
theorem GoodS.mono {x : Out R} {E : Ends} (s : Same F F') (h : GoodS L C F x E) : GoodS L C F' x E := by
  cases x with
  | stuck => exact h
  | nx ρ r => exact fun σ F'' H' a b => h σ F'' H' a (s.trans b)
  | bk ρ r => exact fun σ F'' H' a b => h σ F'' H' a (s.trans b)
  | ct ρ r => exact fun σ F'' H' a b => h σ F'' H' a (s.trans b)
  | rt v r => exact fun w F'' H' a b z => h w F'' H' a b (s.trans z)
  | exc c d ρ r => exact GoodX.mono s h
theorem Good.imp {x : Res R α} {P P' : α → List Slot → R → Hp → Hp → Prop} (h : Good L C σ F x P) (q : ∀ a ρ r F' H', Rel L.K C F' σ H' ρ r → Same F F' → P a ρ r F' H' → P' a ρ r F' H') : Good L C σ F x P' := by
  cases x with
  | stuck => exact h
  | ok a ρ r => exact fun F'' H' a b => q _ _ _ _ _ a b (h F'' H' a b)
  | exc c d ρ r => exact h
theorem Good.bnd {x : Res R α} {k : α → M R β} {P : β → List Slot → R → Hp → Hp → Prop} (h : Good L C σ F (x.bind k) P) : Good L C σ F x (fun a ρ r F' _ => Good L C σ F' (k a ρ r) P) := by
  cases x with
  | stuck => exact h
  | ok a ρ r => exact fun F'' H' _ s => Good.mono s h
  | exc c d ρ r => exact h
/-- freezing ahead of what follows -/
theorem Good.frozen {s : Slot} {v : V} {k : D → M R β} {P : β → List Slot → R → Hp → Hp → Prop} (h : Good L C σ F ((ofO (frz s) ρ r).bind k) P) (hR : Rel L.K C F σ H ρ r) (q : ResOk L.K C F H σ ρ v s) :
    ∃ d F1, frz s = some d ∧ Same F F1 ∧ Rel L.K C F1 σ H ρ r ∧ Dn L.K F1 v d ∧ Good L C σ F1 (k d ρ r) P := by
  unfold ofO at h
  cases e : frz s with
  | none => rw [e] at h; exact h.elim
  | some d =>
    rw [e] at h
    obtain ⟨F1, s1, R1, d1⟩ := frz_ok hR q e
    exact ⟨d, F1, rfl, s1, R1, d1, Good.mono s1 h⟩

/-! ### the lifting -/
def lift (L : LX) (f : M R Slot) : TE := fun σ H Q => ∃ (C : Ctx R) (F : Hp) (ρ : List Slot) (r : R), Rel L.K C F σ H ρ r ∧ Good L C σ F (f ρ r) fun s ρ' _ F' H' => ∀ v, ResOk L.K C F' H' σ ρ' v s → Q v H'
def liftD (L : LX) (f : M R D) : TE := fun σ H Q => ∃ (C : Ctx R) (F : Hp) (ρ : List Slot) (r : R), Rel L.K C F σ H ρ r ∧ Good L C σ F (f ρ r) fun d _ _ F' H' => ∀ v, Dn L.K F' v d → Q v H'
def liftT (L : LX) (f : M R Bool) : TT := fun σ H Q => ∃ (C : Ctx R) (F : Hp) (ρ : List Slot) (r : R), Rel L.K C F σ H ρ r ∧ Good L C σ F (f ρ r) fun b _ _ _ H' => Q b H'
def liftA (L : LX) (f : M R (List D)) : TA := fun σ H Q => ∃ (C : Ctx R) (F : Hp) (ρ : List Slot) (r : R), Rel L.K C F σ H ρ r ∧ Good L C σ F (f ρ r) fun ds _ _ F' H' => ∀ vs, DnAll L.K F' vs ds → Q vs H'
def liftS (L : LX) (g : MS R) : TS := fun E σ H => ∃ (C : Ctx R) (F : Hp) (ρ : List Slot) (r : R), Rel L.K C F σ H ρ r ∧ GoodS L C F (g ρ r) E
/-- σ' is σ but at the places js -/
def But (js : List Nat) (σ σ' : St) : Prop := σ'.length = σ.length ∧ ∀ j, j ∉ js → σ'[j]? = σ[j]?
def liftG (R : Type) [Fam R] (K : PySem.W.Frag) (js : List Nat) (t : D → List Slot → Option (List Slot)) : TG := fun v σ H Q => ∃ (C : Ctx R) (F : Hp) (ρ : List Slot) (r : R) (d : D) (ρ' : List Slot), Rel K C F σ H ρ r ∧ Dn K F v d ∧ t d ρ = some ρ' ∧ ∀ σ', But js σ σ' → Rel K C F σ' H ρ' r → Q σ' H
end
theorem peImp {X : Cx} {e : Expr} {t t' : TE} (h : PE X e t) (w : ∀ σ H Q, t' σ H Q → t σ H Q) : PE X e t' := ⟨fun pins s σ H Q I q => h.run pins s σ H Q I (w _ _ _ q)⟩
theorem ptImp {X : Cx} {e : Expr} {t t' : TT} (h : PT X e t) (w : ∀ σ H Q, t' σ H Q → t σ H Q) : PT X e t' := ⟨fun pins s σ H Q I q => h.run pins s σ H Q I (w _ _ _ q)⟩
theorem paImp {X : Cx} {e : List Expr} {t t' : TA} (h : PA X e t) (w : ∀ σ H Q, t' σ H Q → t σ H Q) : PA X e t' := ⟨fun pos pins s σ H Q I q => h.run pos pins s σ H Q I (w _ _ _ q)⟩
theorem psImp {X : Cx} {e : Stmt} {t t' : TS} (h : PS X e t) (w : ∀ D σ H, t' D σ H → t D σ H) : PS X e t' := ⟨fun pins s σ H D I q => h.run pins s σ H D I (w _ _ _ q)⟩
theorem pssImp {X : Cx} {e : List Stmt} {t t' : TS} (h : PSs X e t) (w : ∀ D σ H, t' D σ H → t D σ H) : PSs X e t' := ⟨fun pins s σ H D I q => h.run pins s σ H D I (w _ _ _ q)⟩
theorem opImp {X : Cx} {f : Value → Value → Sem Value} {r r' : R2} (h : OpR X f r) (w : ∀ x y H Q, r' x y H Q → r x y H Q) : OpR X f r' := fun pins s σ H x y v u Q I rx ry q => h pins s σ H x y v u Q I rx ry (w _ _ _ _ q)
theorem ixImp {X : Cx} {r r' : R2} (h : IxR X r) (w : ∀ x y H Q, r' x y H Q → r x y H Q) : IxR X r' := fun va sl pins s σ H x y v u Q I rx ry q => h va sl pins s σ H x y v u Q I rx ry (w _ _ _ _ q)
theorem crImp {X : Cx} {f : Value} {r r' : List V → Hp → VK → Prop} (h : CallR X f r) (w : ∀ x H Q, r' x H Q → r x H Q) : CallR X f r' := fun pins s σ H xs us Q I rx q => h pins s σ H xs us Q I rx (w _ _ _ q)
end L2.VL

/-! VL1: expressions. -/
namespace L2.VL
open PySem PySem.Spec PyProof.Rows

/-! ### new objects -/
theorem newTup {K : PySem.W.Frag} {F H : Hp} {p : Addr} {vs : List V} {ds : List D} (h : Same F H) (n : H p = none) (a : DnAll K F vs ds) :
    Ext F H (upd F p (.tup vs)) (upd H p (.tup vs)) ∧ Dn K (upd F p (.tup vs)) (.ref p) (.tuple ds) := by
  have nF : F p = none := h.free n
  have s1 : Same F (upd F p (.tup vs)) := fun b o e => by rw [upd_ne (ne_of_none e nF)]; exact e
  refine ⟨⟨s1, fun b o e => by rw [upd_ne (ne_of_none e n)]; exact e, fun b o e => ?_, fun b o e => ?_⟩, .tup upd_same (dpAllS s1 ds a)⟩
  · by_cases hb : b = p
    · subst hb; rw [upd_same] at e ⊢; exact e
    · rw [upd_ne hb] at e ⊢; exact h b o e
  · by_cases hb : b = p
    · subst hb; exact .inr (.inl n)
    · rw [upd_ne hb] at e; exact .inl e
theorem newAny {F H : Hp} {p : Addr} {o : HO} (h : Same F H) (n : H p = none) : Ext F H F (upd H p o) :=
  ⟨Same.refl _, fun b o e => by rw [upd_ne (ne_of_none e n)]; exact e, fun b o e => by rw [upd_ne (ne_of_none (h b o e) n)]; exact h b o e, fun b o e => .inl e⟩
theorem newLst {K : PySem.W.Frag} {F H : Hp} {p : Addr} {vs : List V} {ds : List D} (h : Same F H) (n : H p = none) (a : DnAll K F vs ds) :
    Ext F H F (upd H p (.lst vs)) ∧ NewOk K F H (upd H p (.lst vs)) (.ref p) (.own ds) :=
  ⟨newAny h n, p, vs, rfl, n, upd_same, h.free n, a⟩

/-! ### operators by data -/
def rOf (K : PySem.W.Frag) (g : D → D → Option Slot) : R2 := fun x y H Q => ∃ F d e s, Same F H ∧ Dn K F x d ∧ Dn K F y e ∧ g d e = some s ∧ ∀ v F' H', Ext F H F' H' → NewOk K F' H H' v s → Q v H'
abbrev OpV (X : Cx) (f : Value → Value → Sem Value) (g : D → D → Option Slot) : Prop := OpR X f (rOf X.K g)
abbrev IxV (X : Cx) (g : D → D → Option Slot) : Prop := IxR X (rOf X.K g)
def rOf1 (K : PySem.W.Frag) (g : D → Option Slot) : V → Hp → VK → Prop := fun x H Q => ∃ F d s, Same F H ∧ Dn K F x d ∧ g d = some s ∧ ∀ v F' H', Ext F H F' H' → NewOk K F' H H' v s → Q v H'
abbrev UnV (X : Cx) (f : Value → Sem Value) (g : D → Option Slot) : Prop := UnR X f (rOf1 X.K g)
def rOfL (K : PySem.W.Frag) (g : List D → Option Slot) : List V → Hp → VK → Prop := fun xs H Q => ∃ F ds s, Same F H ∧ DnAll K F xs ds ∧ g ds = some s ∧ ∀ v F' H', Ext F H F' H' → NewOk K F' H H' v s → Q v H'
abbrev CallV (X : Cx) (f : Value) (g : List D → Option Slot) : Prop := CallR X f (rOfL X.K g)
def rOfM (K : PySem.W.Frag) (g : D → List D → Option Slot) : V → List V → Hp → VK → Prop := fun x xs H Q => ∃ F d ds s, Same F H ∧ Dn K F x d ∧ DnAll K F xs ds ∧ g d ds = some s ∧ ∀ v F' H', Ext F H F' H' → NewOk K F' H H' v s → Q v H'
abbrev MtV (X : Cx) (id : String) (g : D → List D → Option Slot) : Prop := MtR X id (rOfM X.K g)
/-- the first that answers -/
def alt2 (g h : D → D → Option Slot) : D → D → Option Slot := fun d e => match g d e with | some s => some s | none => h d e
def altL (g h : List D → Option Slot) : List D → Option Slot := fun d => match g d with | some s => some s | none => h d
theorem alt2_or {K : PySem.W.Frag} {g h : D → D → Option Slot} {x y : V} {H : Hp} {Q : VK} (q : rOf K (alt2 g h) x y H Q) : rOf K g x y H Q ∨ rOf K h x y H Q := by
  obtain ⟨F, d, e, s, h1, h2, h3, h4, h5⟩ := q
  unfold alt2 at h4
  cases z : g d e with
  | none => rw [z] at h4; exact .inr ⟨F, d, e, s, h1, h2, h3, h4, h5⟩
  | some s' => rw [z] at h4; cases h4; exact .inl ⟨F, d, e, _, h1, h2, h3, z, h5⟩
theorem altL_or {K : PySem.W.Frag} {g h : List D → Option Slot} {x : List V} {H : Hp} {Q : VK} (q : rOfL K (altL g h) x H Q) : rOfL K g x H Q ∨ rOfL K h x H Q := by
  obtain ⟨F, d, s, h1, h2, h4, h5⟩ := q
  unfold altL at h4
  cases z : g d with
  | none => rw [z] at h4; exact .inr ⟨F, d, s, h1, h2, h4, h5⟩
  | some s' => rw [z] at h4; cases h4; exact .inl ⟨F, d, _, h1, h2, z, h5⟩

section
variable {X : Cx} {R : Type} [Fam R] {L : LX} {pos : Pos}
theorem OpV.or {f : Value → Value → Sem Value} {g h : D → D → Option Slot} (a : OpV X f g) (b : OpV X f h) : OpV X f (alt2 g h) := opImp (OpR.or a b) fun _ _ _ _ q => alt2_or q
theorem IxV.or {g h : D → D → Option Slot} (a : IxV X g) (b : IxV X h) : IxV X (alt2 g h) := ixImp (IxR.or a b) fun _ _ _ _ q => alt2_or q
theorem CallV.or {f : Value} {g h : List D → Option Slot} (a : CallV X f g) (b : CallV X f h) : CallV X f (altL g h) := crImp (CallR.or a b) fun _ _ _ q => altL_or q

/-! ### uses and ends -/
theorem useD {e : Expr} {f : M R Slot} (h : PE X e (lift L f)) : PE X e (liftD L (toD f)) := peImp h fun σ H Q ⟨C, F, ρ, r, hR, g⟩ =>
  ⟨C, F, ρ, r, hR, (Good.bnd g).imp fun s ρ1 r1 F1 H1 R1 S1 g1 v rv => by
    unfold ofO at g1
    cases e : frz s with
    | none => rw [e] at g1; exact g1.elim
    | some d =>
      rw [e] at g1
      obtain ⟨F2, s2, R2, d2⟩ := frz_ok R1 rv e
      exact g1 F2 H1 R2 s2 v d2⟩
theorem ofD {e : Expr} {f : M R D} (h : PE X e (liftD L f)) : PE X e (lift L (bnd f fun d => ret (.val d))) := peImp h fun σ H Q ⟨C, F, ρ, r, hR, g⟩ =>
  ⟨C, F, ρ, r, hR, (Good.bnd g).imp fun d ρ1 r1 F1 H1 R1 S1 g1 v dv => g1 F1 H1 R1 (Same.refl _) v ⟨dv, fun z => nomatch z⟩⟩
/-- the end of a reading whose answer is new -/
theorem fin_of {C : Ctx R} {σ : St} {F H : Hp} {ρ : List Slot} {r : R} {o : Option Slot} {Q : VK} (hR : Rel L.K C F σ H ρ r)
    (g : Good L C σ F ((ofO o : M R Slot) ρ r) fun s ρ' _ F' H' => ∀ v, ResOk L.K C F' H' σ ρ' v s → Q v H') : ∃ s, o = some s ∧ ∀ v F' H', Ext F H F' H' → NewOk L.K F' H H' v s → Q v H' := by
  cases o with
  | none => exact g.elim
  | some s => exact ⟨s, rfl, fun v F' H' x n => g F' H' (hR.ext x) x.ff v (n.res hR x)⟩

/-! ### constants and names -/
theorem ve_const {e : Expr} {v : V} {d : D} (h : PE X e (tC v)) (hd : ∀ F, Dn L.K F v d) : PE X e (lift L (ret (.val d) : M R Slot)) := peImp h fun σ H Q ⟨C, F, ρ, r, hR, g⟩ => g F H hR (Same.refl F) v ⟨hd F, fun z => nomatch z⟩
theorem ve_int {i : Int} {j : Nat} : PE X (.Constant (.int i) j pos) (lift L (ret (.val (.int i)) : M R Slot)) := ve_const pe_int fun _ => .int i
theorem ve_bool {b : Bool} {j : Nat} : PE X (.Constant (.bool b) j pos) (lift L (ret (.val (.bool b)) : M R Slot)) := ve_const pe_bl fun _ => .bl b
theorem ve_none {j : Nat} : PE X (.Constant .none j pos) (lift L (ret (.val .none) : M R Slot)) := ve_const pe_non fun _ => .non
theorem ve_str {x : Str} {j : Nat} : PE X (.Constant (.str x) j pos) (lift L (ret (.val (.str x)) : M R Slot)) := ve_const pe_str fun _ => .str x
/-- a name: a list of its own is frozen from then on -/
def vVar (i : Nat) : M R Slot := fun ρ r => match ρ[i]? with
  | some (.val d) => .ok (.val d) ρ r
  | some .root => .ok .root ρ r
  | some (.own ds) => .ok (.val (.list ds)) (ρ.set i (.val (.list ds))) r
  | _ => .stuck
theorem set_back {σ : St} {i : Nat} {v : V} (h : σ[i]? = some (some v)) : σ.set i (some v) = σ := by
  apply List.ext_getElem?
  intro j
  by_cases hij : i = j
  · subst hij
    have hl : i < σ.length := by
      rcases Nat.lt_or_ge i σ.length with z | z
      · exact z
      · rw [List.getElem?_eq_none (by simpa using z)] at h; cases h
    rw [List.getElem?_set_self hl, h]
  · rw [List.getElem?_set_ne hij]
theorem Rel.freezeSlot {K : PySem.W.Frag} {C : Ctx R} {F H : Hp} {σ : St} {ρ : List Slot} {r : R} {i : Nat} {ds : List D} (h : Rel K C F σ H ρ r) (e : ρ[i]? = some (.own ds)) :
    ∃ F' v, σ[i]? = some (some v) ∧ Same F F' ∧ Rel K C F' σ H (ρ.set i (.val (.list ds))) r ∧ Dn K F' v (.list ds) := by
  obtain ⟨v, e1, a, vs, rfl, h1, h2, h3, h4, h5⟩ := h.slot i _ e (fun z => nomatch z)
  -- the slot is taken out, then the list is frozen
  have h' : Rel K C F σ H (ρ.set i .emp) r := h.weaken (by rw [List.length_set]) fun j s ej nj => by
    by_cases hij : i = j
    · subst hij
      have hl : i < ρ.length := by
        rcases Nat.lt_or_ge i ρ.length with z | z
        · exact z
        · rw [List.getElem?_eq_none (by simpa using z)] at e; cases e
      rw [List.getElem?_set_self hl] at ej
      exact absurd (Option.some.inj ej).symm nj
    · rw [List.getElem?_set_ne hij] at ej; exact ej
  obtain ⟨R', sm⟩ := h'.freeze h1 h2 h3 h4 fun j t ej o z => by
    by_cases hij : i = j
    · subst hij
      have hl : i < ρ.length := by
        rcases Nat.lt_or_ge i ρ.length with z | z
        · exact z
        · rw [List.getElem?_eq_none (by simpa using z)] at e; cases e
      rw [List.getElem?_set_self hl] at ej
      cases ej; cases o
    · rw [List.getElem?_set_ne hij] at ej
      exact h.apart i j _ t _ hij e ej rfl o e1 z
  have d1 : Dn K (upd F a (.lst vs)) (.ref a) (.list ds) := .lst (Rd.of upd_same) (dpAllS sm ds h5)
  refine ⟨_, _, e1, sm, ?_, d1⟩
  have R2 := R'.setSlot i (v := .ref a) (s := .val (.list ds)) ⟨d1, fun z => nomatch z⟩
  rw [set_back e1, List.set_set] at R2
  exact R2
theorem ve_var {i : Nat} {x : Str} (hN : X.N[i]? = some x) (hv : Vis X.env.scope x) (hd : (x == ("__debug__" : Str)) = false := by decide) (hcd : (x == ("__classdict__" : Str)) = false := by decide) :
    PE X (.Name x pos) (lift L (vVar i : M R Slot)) := peImp (pe_var hN hv hd hcd) fun σ H Q ⟨C, F, ρ, r, hR, g⟩ => by
  unfold vVar at g
  cases e : ρ[i]? with
  | none => rw [e] at g; exact g.elim
  | some s =>
    rw [e] at g
    cases s with
    | emp => exact g.elim
    | ownT _ => exact g.elim
    | val d =>
      obtain ⟨v, e1, e2⟩ := hR.slot i _ e (fun z => nomatch z)
      exact ⟨v, e1, g F H hR (Same.refl F) v ⟨e2, fun z => nomatch z⟩⟩
    | root =>
      obtain ⟨v, e1, e2⟩ := hR.slot i _ e (fun z => nomatch z)
      exact ⟨v, e1, g F H hR (Same.refl F) v ⟨e2, fun z => nomatch z⟩⟩
    | own ds =>
      obtain ⟨F', v, e1, s1, R1, d1⟩ := hR.freezeSlot e
      exact ⟨v, e1, g F' H R1 s1 v ⟨d1, fun z => nomatch z⟩⟩
theorem vv (i : Nat) {x : Str} (hN : X.N[i]? = some x := by rfl) (hv : Vis X.env.scope x := by first | exact Or.inl rfl | exact Or.inr (Or.inl rfl) | exact Or.inr (Or.inr rfl)) (hd : (x == ("__debug__" : Str)) = false := by decide)
    (hcd : (x == ("__classdict__" : Str)) = false := by decide) : PE X (.Name x pos) (lift L (vVar i : M R Slot)) := ve_var hN hv hd hcd

/-! ### operators -/
def vBin (g : D → D → Option Slot) (fa fb : M R Slot) : M R Slot := bnd (toD fa) fun d => bnd (toD fb) fun e => ofO (g d e)
def vUn (g : D → Option Slot) (fa : M R Slot) : M R Slot := bnd (toD fa) fun d => ofO (g d)
variable {a b c : Expr} {fa fb fc : M R Slot} {g g' : D → D → Option Slot}
theorem two_of {r : R2} {te : TE} {σ : St} {H : Hp} {Q : VK} (hr : ∀ x y H Q, rOf L.K g x y H Q → r x y H Q) (h : lift L (vBin g fa fb) σ H Q) : tOp r (liftD L (toD fa)) (liftD L (toD fb)) σ H Q := by
  obtain ⟨C, F, ρ, r, hR, g0⟩ := h
  refine ⟨C, F, ρ, r, hR, (Good.bnd g0).imp fun d ρ1 r1 F1 H1 R1 S1 g1 x dx => ⟨C, F1, ρ1, r1, R1, (Good.bnd g1).imp fun e ρ2 r2 F2 H2 R2 S2 g2 y dy => hr _ _ _ _ ?_⟩⟩
  obtain ⟨s, e1, q⟩ := fin_of R2 g2
  exact ⟨F2, d, e, s, R2.hel.fH, dpS S2 d dx, dy, e1, q⟩
theorem ve_bin {op : Operator} (ho : OpR X (binaryOp op) (rOf L.K g)) (ha : PE X a (lift L fa)) (hb : PE X b (lift L fb)) : PE X (.BinOp a op b pos) (lift L (vBin g fa fb)) :=
  peImp (pe_op ho (useD ha) (useD hb)) fun _ _ _ h => two_of (te := fun _ _ _ => True) (fun _ _ _ _ q => q) h
theorem ve_cmp {op : CmpOp} (ho : OpR X (compareOp op) (rOf L.K g)) (ha : PE X a (lift L fa)) (hb : PE X b (lift L fb)) (hm : behindInMarks op b = false) : PE X (.Compare a [op] [b] pos) (lift L (vBin g fa fb)) :=
  peImp (pe_cmpR ho (useD ha) (useD hb) hm) fun _ _ _ h => two_of (te := fun _ _ _ => True) (fun _ _ _ _ q => q) h
theorem ve_ix (ho : IxR X (rOf L.K g)) (ha : PE X a (lift L fa)) (hb : PE X b (lift L fb)) (hs : PlainIx b) : PE X (.Subscript a b pos) (lift L (vBin g fa fb)) :=
  peImp (pe_ix ho (useD ha) (useD hb) hs) fun _ _ _ h => two_of (te := fun _ _ _ => True) (fun _ _ _ _ q => q) h
theorem ve_un {op : UnaryOp} {g : D → Option Slot} (ho : UnR X (unaryOp op) (rOf1 L.K g)) (ha : PE X a (lift L fa)) : PE X (.UnaryOp op a pos) (lift L (vUn g fa)) :=
  peImp (pe_un ho (useD ha)) fun σ H Q ⟨C, F, ρ, r, hR, g0⟩ => ⟨C, F, ρ, r, hR, (Good.bnd g0).imp fun d ρ1 r1 F1 H1 R1 S1 g1 x dx => by
    obtain ⟨s, e1, q⟩ := fin_of R1 g1
    exact ⟨F1, d, s, R1.hel.fH, dx, e1, q⟩⟩
/-- a bool that a slot holds -/
def boolOf : Slot → Option Bool
  | .val (.bool b) => some b
  | _ => none
def toB (m : M R Slot) : M R Bool := bnd m fun s => ofO (boolOf s)
theorem boolOf_ok {K : PySem.W.Frag} {C : Ctx R} {F H : Hp} {v : V} {s : Slot} {b : Bool} (h : VOk K C F H v s) (e : boolOf s = some b) : v = .bl b := by
  cases s with
  | val d => cases d <;> cases e; exact dp_bool h
  | emp => cases e
  | own _ => cases e
  | ownT _ => cases e
  | root => cases e
/-- an expression that gives a truth -/
theorem useB {e : Expr} {f : M R Slot} (h : PE X e (lift L f)) : PE X e (fun σ H Q => liftT L (toB f) σ H fun b H' => Q (.bl b) H') := peImp h fun σ H Q ⟨C, F, ρ, r, hR, g⟩ =>
  ⟨C, F, ρ, r, hR, (Good.bnd g).imp fun s ρ1 r1 F1 H1 R1 S1 g1 v rv => by
    unfold ofO at g1
    cases e : boolOf s with
    | none => rw [e] at g1; exact g1.elim
    | some b =>
      rw [e] at g1
      rw [boolOf_ok rv.1 e]
      exact g1 F1 H1 R1 (Same.refl _)⟩
def vAnd (fa fb : M R Slot) : M R Slot := bnd (toB fa) fun c => if c = true then fb else ret (.val (.bool false))
def vOr (fa fb : M R Slot) : M R Slot := bnd (toB fa) fun c => if c = true then ret (.val (.bool true)) else fb
def vNot (fa : M R Slot) : M R Slot := bnd (toB fa) fun c => ret (.val (.bool (!c)))
theorem ve_one {op : BoolOp} (h : PE X a (lift L fa)) : PE X (.BoolOp op [a] pos) (lift L fa) := pe_one h
theorem ve_and {rest : List Expr} (ha : PE X a (lift L fa)) (hb : PE X (.BoolOp .And (b :: rest) pos) (lift L fb)) : PE X (.BoolOp .And (a :: b :: rest) pos) (lift L (vAnd fa fb)) :=
  peImp (pe_and (useB ha) hb) fun σ H Q ⟨C, F, ρ, r, hR, g0⟩ => ⟨C, F, ρ, r, hR, (Good.bnd g0).imp fun c ρ1 r1 F1 H1 R1 S1 g1 => ⟨c, rfl, by
    cases c with
    | true => exact iteT ⟨C, F1, ρ1, r1, R1, g1⟩
    | false => exact iteF (g1 F1 H1 R1 (Same.refl _) _ ⟨.bl false, fun z => nomatch z⟩)⟩⟩
theorem ve_or {rest : List Expr} (ha : PE X a (lift L fa)) (hb : PE X (.BoolOp .Or (b :: rest) pos) (lift L fb)) : PE X (.BoolOp .Or (a :: b :: rest) pos) (lift L (vOr fa fb)) :=
  peImp (pe_or (useB ha) hb) fun σ H Q ⟨C, F, ρ, r, hR, g0⟩ => ⟨C, F, ρ, r, hR, (Good.bnd g0).imp fun c ρ1 r1 F1 H1 R1 S1 g1 => ⟨c, rfl, by
    cases c with
    | true => exact iteT (g1 F1 H1 R1 (Same.refl _) _ ⟨.bl true, fun z => nomatch z⟩)
    | false => exact iteF ⟨C, F1, ρ1, r1, R1, g1⟩⟩⟩
theorem ve_not (ha : PE X a (lift L fa)) : PE X (.UnaryOp .Not a pos) (lift L (vNot fa)) :=
  peImp (pe_not (useB ha)) fun σ H Q ⟨C, F, ρ, r, hR, g0⟩ => ⟨C, F, ρ, r, hR, (Good.bnd g0).imp fun c ρ1 r1 F1 H1 R1 S1 g1 => ⟨c, rfl, g1 F1 H1 R1 (Same.refl _) _ ⟨.bl _, fun z => nomatch z⟩⟩⟩

/-! ### tests -/
theorem vt_val (h : PE X a (lift L fa)) (he : ∀ whole, isTrue a X.env whole = (do let v ← whole; standAt a.pos; holding [v] (truthy v)) := by intro _; rfl) : PT X a (liftT L (toB fa)) :=
  ptImp (pt_val (useB h) he) fun σ H Q ⟨C, F, ρ, r, hR, g0⟩ => ⟨C, F, ρ, r, hR, g0.imp fun c _ _ _ _ _ _ q => ⟨c, rfl, q⟩⟩
theorem vt_cmp {op : CmpOp} (ho : OpR X (compareOp op) (rOf L.K g)) (ha : PE X a (lift L fa)) (hb : PE X b (lift L fb)) (hm : behindInMarks op b = false) : PT X (.Compare a [op] [b] pos) (liftT L (toB (vBin g fa fb))) :=
  ptImp (pt_cmpR ho (useD ha) (useD hb) hm) fun σ H Q ⟨C, F, ρ, r, hR, g0⟩ =>
    two_of (te := fun _ _ _ => True) (fun _ _ _ _ q => q) ⟨C, F, ρ, r, hR, (Good.bnd g0).imp fun s ρ1 r1 F1 H1 R1 S1 g1 v rv => by
      unfold ofO at g1
      cases e : boolOf s with
      | none => rw [e] at g1; exact g1.elim
      | some b =>
        rw [e] at g1
        exact ⟨b, boolOf_ok rv.1 e, g1 F1 H1 R1 (Same.refl _)⟩⟩
def tAndM (ta tb : M R Bool) : M R Bool := bnd ta fun c => if c = true then tb else ret false
def tOrM (ta tb : M R Bool) : M R Bool := bnd ta fun c => if c = true then ret true else tb
def tNotM (ta : M R Bool) : M R Bool := bnd ta fun c => ret (!c)
variable {ta tb : M R Bool}
theorem pwImp {e : Expr} {t t' : TT} (h : PW X e t) (w : ∀ σ H Q, t' σ H Q → t σ H Q) : PW X e t' := ⟨fun wh pins s σ H Q I q => h.run wh pins s σ H Q I (w _ _ _ q)⟩
theorem vw_and1 (ha : PT X a (liftT L ta)) : PW X (.BoolOp .And [a] pos) (liftT L ta) := pw_and1 ha
theorem vw_or1 (ha : PT X a (liftT L ta)) : PW X (.BoolOp .Or [a] pos) (liftT L ta) := pw_or1 ha
theorem vw_and {rest : List Expr} (ha : PT X a (liftT L ta)) (hb : PW X (.BoolOp .And (b :: rest) pos) (liftT L tb)) : PW X (.BoolOp .And (a :: b :: rest) pos) (liftT L (tAndM ta tb)) :=
  pwImp (pw_and ha hb) fun σ H Q ⟨C, F, ρ, r, hR, g0⟩ => ⟨C, F, ρ, r, hR, (Good.bnd g0).imp fun c ρ1 r1 F1 H1 R1 S1 g1 => by
    cases c with
    | true => exact iteT ⟨C, F1, ρ1, r1, R1, g1⟩
    | false => exact iteF (g1 F1 H1 R1 (Same.refl _))⟩
theorem vw_or {rest : List Expr} (ha : PT X a (liftT L ta)) (hb : PW X (.BoolOp .Or (b :: rest) pos) (liftT L tb)) : PW X (.BoolOp .Or (a :: b :: rest) pos) (liftT L (tOrM ta tb)) :=
  pwImp (pw_or ha hb) fun σ H Q ⟨C, F, ρ, r, hR, g0⟩ => ⟨C, F, ρ, r, hR, (Good.bnd g0).imp fun c ρ1 r1 F1 H1 R1 S1 g1 => by
    cases c with
    | true => exact iteT (g1 F1 H1 R1 (Same.refl _))
    | false => exact iteF ⟨C, F1, ρ1, r1, R1, g1⟩⟩
theorem vt_not (ha : PT X a (liftT L ta)) : PT X (.UnaryOp .Not a pos) (liftT L (tNotM ta)) :=
  ptImp (pt_not ha) fun σ H Q ⟨C, F, ρ, r, hR, g0⟩ => ⟨C, F, ρ, r, hR, (Good.bnd g0).imp fun c ρ1 r1 F1 H1 R1 S1 g1 => g1 F1 H1 R1 (Same.refl _)⟩
def vIfE (t : M R Bool) (fa fb : M R Slot) : M R Slot := bnd t fun c => if c = true then fa else fb
theorem ve_ifE {t : Expr} (ht : PT X t (liftT L ta)) (ha : PE X a (lift L fa)) (hb : PE X b (lift L fb)) : PE X (.IfExp t a b pos) (lift L (vIfE ta fa fb)) :=
  peImp (pe_ifExp ht ha hb) fun σ H Q ⟨C, F, ρ, r, hR, g0⟩ => ⟨C, F, ρ, r, hR, (Good.bnd g0).imp fun c ρ1 r1 F1 H1 R1 S1 g1 => by
    cases c with
    | true => exact iteT ⟨C, F1, ρ1, r1, R1, g1⟩
    | false => exact iteF ⟨C, F1, ρ1, r1, R1, g1⟩⟩

/-! ### arguments and displays -/
def aNil : M R (List D) := ret []
def aCons (fa : M R Slot) (fs : M R (List D)) : M R (List D) := bnd (toD fa) fun d => bnd fs fun ds => ret (d :: ds)
variable {es : List Expr} {fs : M R (List D)}
theorem va_nil : PA X [] (liftA L (aNil : M R (List D))) := paImp pa_nil fun σ H Q ⟨C, F, ρ, r, hR, g0⟩ => g0 F H hR (Same.refl _) [] .nil
theorem va_cons (ha : PE X a (lift L fa)) (hs : PA X es (liftA L fs)) (hst : starEach (a :: es) X.env = (false, eval a X.env) :: starEach es X.env := by rfl) : PA X (a :: es) (liftA L (aCons fa fs)) :=
  paImp (pa_cons (useD ha) hs hst) fun σ H Q ⟨C, F, ρ, r, hR, g0⟩ => ⟨C, F, ρ, r, hR, (Good.bnd g0).imp fun d ρ1 r1 F1 H1 R1 S1 g1 x dx =>
    ⟨C, F1, ρ1, r1, R1, (Good.bnd g1).imp fun ds ρ2 r2 F2 H2 R2 S2 g2 xs dxs => g2 F2 H2 R2 (Same.refl _) _ (.cons (dpS S2 d dx) dxs)⟩⟩
def small {α : Type} (n : Nat) (x : α) : Option α := if n ≤ 1000000 then some x else none
theorem small_some {α : Type} {n : Nat} {x y : α} (h : small n x = some y) : n ≤ sizeLine ∧ x = y ∧ n ≤ 1000000 := by
  unfold small at h
  by_cases hn : n ≤ 1000000
  · rw [if_pos hn] at h
    cases h
    exact ⟨Nat.le_trans hn (by rw [sizeLine_eq]; decide), rfl, hn⟩
  · rw [if_neg hn] at h; cases h
def vTup (fs : M R (List D)) : M R Slot := bnd fs fun ds => ofO (small ds.length (.val (.tuple ds)))
def vLst (fs : M R (List D)) : M R Slot := bnd fs fun ds => ofO (small ds.length (.own ds))
theorem ve_tup {x1 : _} (h : PA X es (liftA L fs)) : PE X (.Tuple es x1 pos) (lift L (vTup fs)) :=
  peImp (pe_tup h) fun σ H Q ⟨C, F, ρ, r, hR, g0⟩ => ⟨C, F, ρ, r, hR, (Good.bnd g0).imp fun ds ρ1 r1 F1 H1 R1 S1 g1 xs dx => by
    obtain ⟨s, e1, q⟩ := fin_of R1 g1
    obtain ⟨n1, rfl, _⟩ := small_some e1
    refine ⟨by rw [dpAll_len dx]; exact n1, fun p np => ?_⟩
    obtain ⟨x, n⟩ := newTup R1.hel.fH np dx
    exact q _ _ _ x n⟩
theorem ve_lst (h : PA X es (liftA L fs)) : PE X (.List es pos) (lift L (vLst fs)) :=
  peImp (pe_lst h) fun σ H Q ⟨C, F, ρ, r, hR, g0⟩ => ⟨C, F, ρ, r, hR, (Good.bnd g0).imp fun ds ρ1 r1 F1 H1 R1 S1 g1 xs dx => by
    obtain ⟨s, e1, q⟩ := fin_of R1 g1
    obtain ⟨n1, rfl, _⟩ := small_some e1
    refine ⟨by rw [dpAll_len dx]; exact n1, fun p np => ?_⟩
    obtain ⟨x, n⟩ := newLst R1.hel.fH np dx
    exact q _ _ _ x n⟩

/-! ### built-in functions by data -/
def vCB (g : List D → Option Slot) (fs : M R (List D)) : M R Slot := bnd fs fun ds => ofO (g ds)
theorem cb_of {g : List D → Option Slot} {σ : St} {H : Hp} {Q : VK} (h : lift L (vCB g fs) σ H Q) : liftA L fs σ H fun vs H1 => rOfL L.K g vs H1 Q := by
  obtain ⟨C, F, ρ, r, hR, g0⟩ := h
  refine ⟨C, F, ρ, r, hR, (Good.bnd g0).imp fun ds ρ1 r1 F1 H1 R1 S1 g1 xs dx => ?_⟩
  obtain ⟨s, e1, q⟩ := fin_of R1 g1
  exact ⟨F1, ds, s, R1.hel.fH, dx, e1, q⟩
end
end L2.VL

/-! VL2: operators, subscripts, built-in functions by data. -/
namespace L2.VL
open PySem PySem.Spec PyProof.Rows

/-- the end of an operator whose answer is no new object -/
theorem q_val {K : PySem.W.Frag} {F H : Hp} {Q : VK} {s : Slot} {v : V} {d : D} (hF : Same F H) (q : ∀ v F' H', Ext F H F' H' → NewOk K F' H H' v s → Q v H') (e : s = .val d) (hd : Dn K F v d) : Q v H := by
  subst e
  exact q v F H (Ext.refl hF) hd
theorem q_tup {K : PySem.W.Frag} {F H : Hp} {Q : VK} {s : Slot} {p : Addr} {vs : List V} {ds : List D} (hF : Same F H) (q : ∀ v F' H', Ext F H F' H' → NewOk K F' H H' v s → Q v H') (e : s = .val (.tuple ds)) (hd : DnAll K F vs ds) (np : H p = none) : Q (.ref p) (upd H p (.tup vs)) := by
  subst e
  obtain ⟨x, n⟩ := newTup hF np hd
  exact q _ _ _ x n
theorem q_lst {K : PySem.W.Frag} {F H : Hp} {Q : VK} {s : Slot} {p : Addr} {vs : List V} {ds : List D} (hF : Same F H) (q : ∀ v F' H', Ext F H F' H' → NewOk K F' H H' v s → Q v H') (e : s = .own ds) (hd : DnAll K F vs ds) (np : H p = none) : Q (.ref p) (upd H p (.lst vs)) := by
  subst e
  obtain ⟨x, n⟩ := newLst hF np hd
  exact q _ _ _ x n
theorem rd_lst {H : Hp} {p : Addr} {vs : List V} {P : Program} {w : World} {h : Heap} (r : Rd H p (.lst vs)) (ok : HOk P w H h) : ∃ (its : List Value) (n : Nat), Vals vs its ∧ h.get? p = some { cls := .type "list", data := .seq its.toArray n } ∧ vs.length ≤ sizeLine := by
  obtain ⟨z, its, n, r, e⟩ := r.ok ok
  exact ⟨its, n, r, e, z⟩
theorem dnAll_nil {K : PySem.W.Frag} {F : Hp} {ds : List D} (h : DnAll K F [] ds) : ds = [] := by cases h; rfl
theorem dnAll_nil' {K : PySem.W.Frag} {F : Hp} {vs : List V} (h : DnAll K F vs []) : vs = [] := by cases h; rfl

section
variable {X : Cx}
/-! ### + -/
def gAdd : D → D → Option Slot
  | .int i, .int j => some (.val (.int (i + j)))
  | .str x, .str y => small (x.length + y.length) (.val (.str (x ++ y)))
  | .tuple xs, .tuple ys => small (xs.length + ys.length) (.val (.tuple (xs ++ ys)))
  | .list xs, .list ys => small (xs.length + ys.length) (.own (xs ++ ys))
  | _, _ => none
theorem cat_lists {pins : List (Addr × Obj)} {s : Shared} {σ : St} {H : Hp} {a b : Addr} {xs zs : List V} {Q : VK} (I : Inv X pins σ H s) (ha : Rd H a (.lst xs)) (hb : Rd H b (.lst zs)) (hz : xs.length + zs.length ≤ sizeLine)
    (q : ∀ p, H p = none → Q (.ref p) (upd H p (.lst (xs ++ zs)))) : wpAny (model X.prog X.w) X.A (binaryOp .Add (.ref a) (.ref b)) (EP X pins σ Q) X.xe s := by
  obtain ⟨its, n, r, e, hl⟩ := rd_lst ha I.hok
  obtain ⟨its2, n2, r2, e2, hl2⟩ := rd_lst hb I.hok
  have l1 := r.length
  have l2 := r2.length
  refine PySem.P.add_list e e2 ?_ (by rw [List.size_toArray, List.size_toArray]; omega)
  have ea : its.toArray ++ its2.toArray = (its ++ its2).toArray := by simp
  rw [ea]
  exact ⟨.ref _, _, I.lnew (t' := s.toks) (r.append r2) (by rw [List.length_append]; omega), rfl, q _ I.fresh⟩
theorem ov_add : OpV X (binaryOp .Add) gAdd := by
  intro pins s σ H x y v u Q I rx ry h
  obtain ⟨F, d, e, sl, hF, hd, he, hg, q⟩ := h
  cases d with
  | int i =>
    cases e with
    | int j => cases hg; exact op_add pins s σ H x y v u Q I rx ry ⟨i, j, dp_int hd, dp_int he, q_val hF q rfl (.int _)⟩
    | _ => cases hg
  | str i =>
    cases e with
    | str j =>
      obtain ⟨n1, rfl, _⟩ := small_some hg
      exact op_add_str pins s σ H x y v u Q I rx ry ⟨i, j, dp_str hd, dp_str he, n1, q_val hF q rfl (.str _)⟩
    | _ => cases hg
  | tuple i =>
    cases e with
    | tuple j =>
      obtain ⟨n1, rfl, _⟩ := small_some hg
      obtain ⟨a, xs, rfl, t1, t2⟩ := dp_tup hd
      obtain ⟨b, ys, rfl, u1, u2⟩ := dp_tup he
      refine op_catA pins s σ H _ _ v u Q I rx ry ⟨a, b, xs, ys, rfl, rfl, sameT hF t1, sameT hF u1, by rw [dpAll_len t2, dpAll_len u2]; exact n1, fun z => ?_, fun _ z => ?_, fun _ _ p np => q_tup hF q rfl (dpAll_app t2 u2) np⟩
      · subst z
        rw [dnAll_nil t2] at q
        exact q_val hF q rfl he
      · subst z
        rw [dnAll_nil u2, List.append_nil] at q
        exact q_val hF q rfl hd
    | _ => cases hg
  | list i =>
    cases e with
    | list j =>
      obtain ⟨n1, rfl, _⟩ := small_some hg
      obtain ⟨a, xs, rfl, t1, t2⟩ := dp_lst hd
      obtain ⟨b, ys, rfl, u1, u2⟩ := dp_lst he
      cases rx
      cases ry
      exact cat_lists I (sameL hF t1) (sameL hF u1) (by rw [dpAll_len t2, dpAll_len u2]; exact n1) fun p np => q_lst hF q rfl (dpAll_app t2 u2) np
    | _ => cases hg
  | _ => cases hg
/-! ### - * // % ** -/
def gSub : D → D → Option Slot
  | .int i, .int j => some (.val (.int (i - j)))
  | _, _ => none
theorem ov_sub : OpV X (binaryOp .Sub) gSub := by
  intro pins s σ H x y v u Q I rx ry h
  obtain ⟨F, d, e, sl, hF, hd, he, hg, q⟩ := h
  cases d with
  | int i =>
    cases e with
    | int j => cases hg; exact op_sub pins s σ H x y v u Q I rx ry ⟨i, j, dp_int hd, dp_int he, q_val hF q rfl (.int _)⟩
    | _ => cases hg
  | _ => cases hg
/-- a product that the machine takes -/
def mulOk (i j : Int) : Prop := i.natAbs.log2 + j.natAbs.log2 < 1000000 ∨ i.natAbs < 2 ^ 64 ∨ j.natAbs < 2 ^ 64
instance (i j : Int) : Decidable (mulOk i j) := by unfold mulOk; exact inferInstance
theorem ok_mulI {pins : List (Addr × Obj)} {s : Shared} {σ : St} {H : Hp} {x y : V} {v u : Value} {Q : VK} {i j : Int} (I : Inv X pins σ H s) (rx : RelV x v) (ry : RelV y u) (ex : x = .int i) (ey : y = .int j) (h : mulOk i j) (q : Q (.int (i * j)) H) :
    wpAny (model X.prog X.w) X.A (binaryOp .Mult v u) (EP X pins σ Q) X.xe s := by
  rcases h with h | h | h
  · exact op_mulW pins s σ H x y v u Q I rx ry ⟨i, j, ex, ey, h, q⟩
  · exact op_mul pins s σ H x y v u Q I rx ry ⟨i, j, ex, ey, .inl ⟨by omega, by omega⟩, q⟩
  · exact op_mul pins s σ H x y v u Q I rx ry ⟨i, j, ex, ey, .inr ⟨by omega, by omega⟩, q⟩
def gMulI : D → D → Option Slot
  | .int i, .int j => if mulOk i j then some (.val (.int (i * j))) else none
  | _, _ => none
theorem ov_mulI : OpV X (binaryOp .Mult) gMulI := by
  intro pins s σ H x y v u Q I rx ry h
  obtain ⟨F, d, e, sl, hF, hd, he, hg, q⟩ := h
  cases d with
  | int i =>
    cases e with
    | int j =>
      by_cases hm : mulOk i j
      · have hg : (if mulOk i j then some (Slot.val (.int (i * j))) else none) = some sl := hg
        rw [if_pos hm] at hg
        cases hg
        exact ok_mulI I rx ry (dp_int hd) (dp_int he) hm (q_val hF q rfl (.int _))
      · have hg : (if mulOk i j then some (Slot.val (.int (i * j))) else none) = some sl := hg
        rw [if_neg hm] at hg; cases hg
    | _ => cases hg
  | _ => cases hg
def gDiv : D → D → Option Slot
  | .int i, .int j => if j ≠ 0 ∧ j.natAbs.log2 < 9000 then some (.val (.int (i.fdiv j))) else none
  | _, _ => none
theorem ov_div : OpV X (binaryOp .FloorDiv) gDiv := by
  intro pins s σ H x y v u Q I rx ry h
  obtain ⟨F, d, e, sl, hF, hd, he, hg, q⟩ := h
  cases d with
  | int i =>
    cases e with
    | int j =>
      have hg : (if j ≠ 0 ∧ j.natAbs.log2 < 9000 then some (Slot.val (.int (i.fdiv j))) else none) = some sl := hg
      by_cases hm : j ≠ 0 ∧ j.natAbs.log2 < 9000
      · rw [if_pos hm] at hg
        cases hg
        have O : OpR X (binaryOp .FloorDiv) (rI (fun _ j => j ≠ 0 ∧ j.natAbs.log2 < 9000) fun i j => .int (i.fdiv j)) := opI fun i j _ _ _ _ _ hc q => floordiv_int hc.1 q (.inl (PyProof.noPylong_of_log2 hc.2))
        exact O pins s σ H x y v u Q I rx ry ⟨i, j, dp_int hd, dp_int he, hm, q_val hF q rfl (.int _)⟩
      · rw [if_neg hm] at hg; cases hg
    | _ => cases hg
  | _ => cases hg
def gMod : D → D → Option Slot
  | .int i, .int j => if j ≠ 0 then some (.val (.int (i.fmod j))) else none
  | _, _ => none
theorem ov_mod : OpV X (binaryOp .Mod) gMod := by
  intro pins s σ H x y v u Q I rx ry h
  obtain ⟨F, d, e, sl, hF, hd, he, hg, q⟩ := h
  cases d with
  | int i =>
    cases e with
    | int j =>
      have hg : (if j ≠ 0 then some (Slot.val (.int (i.fmod j))) else none) = some sl := hg
      by_cases hm : j ≠ 0
      · rw [if_pos hm] at hg
        cases hg
        exact op_modN pins s σ H x y v u Q I rx ry ⟨i, j, dp_int hd, dp_int he, hm, q_val hF q rfl (.int _)⟩
      · rw [if_neg hm] at hg; cases hg
    | _ => cases hg
  | _ => cases hg
def gPow : D → D → Option Slot
  | .int i, .int j => if 0 ≤ j ∧ j ≤ 1000 ∧ i.natAbs < 2 ^ 64 then some (.val (.int (i ^ j.toNat))) else none
  | _, _ => none
theorem ov_pow : OpV X (binaryOp .Pow) gPow := by
  intro pins s σ H x y v u Q I rx ry h
  obtain ⟨F, d, e, sl, hF, hd, he, hg, q⟩ := h
  cases d with
  | int i =>
    cases e with
    | int j =>
      have hg : (if 0 ≤ j ∧ j ≤ 1000 ∧ i.natAbs < 2 ^ 64 then some (Slot.val (.int (i ^ j.toNat))) else none) = some sl := hg
      by_cases hm : 0 ≤ j ∧ j ≤ 1000 ∧ i.natAbs < 2 ^ 64
      · rw [if_pos hm] at hg
        cases hg
        exact op_pow pins s σ H x y v u Q I rx ry ⟨i, j, dp_int hd, dp_int he, ⟨hm.1, by omega, hm.2.2⟩, q_val hF q rfl (.int _)⟩
      · rw [if_neg hm] at hg; cases hg
    | _ => cases hg
  | _ => cases hg
/-! ### comparisons -/
def gCmp (p : Int → Int → Bool) : D → D → Option Slot
  | .int i, .int j => some (.val (.bool (p i j)))
  | _, _ => none
theorem ov_cmpI {op : CmpOp} {p : Int → Int → Bool} (h : OpR X (compareOp op) (rI0 fun i j => .bl (p i j))) : OpV X (compareOp op) (gCmp p) := by
  intro pins s σ H x y v u Q I rx ry h'
  obtain ⟨F, d, e, sl, hF, hd, he, hg, q⟩ := h'
  cases d with
  | int i =>
    cases e with
    | int j => cases hg; exact h pins s σ H x y v u Q I rx ry ⟨i, j, dp_int hd, dp_int he, q_val hF q rfl (.bl _)⟩
    | _ => cases hg
  | _ => cases hg
abbrev gLt := gCmp fun i j => decide (i < j)
abbrev gLe := gCmp fun i j => decide (i ≤ j)
abbrev gGt := gCmp fun i j => decide (j < i)
abbrev gGe := gCmp fun i j => decide (j ≤ i)
theorem ov_lt : OpV X (compareOp .Lt) gLt := ov_cmpI op_lt
theorem ov_le : OpV X (compareOp .LtE) gLe := ov_cmpI op_le
theorem ov_gt : OpV X (compareOp .Gt) gGt := ov_cmpI op_gt
theorem ov_ge : OpV X (compareOp .GtE) gGe := ov_cmpI op_ge
def isStr2 : D → D → Bool
  | .str _, .str _ => true
  | _, _ => false
theorem isStr2_of {d e : D} (h : isStr2 d e = true) : ∃ x y, d = .str x ∧ e = .str y := by
  cases d <;> cases e <;> first | exact ⟨_, _, rfl, rfl⟩ | cases h
def gEq : D → D → Option Slot := fun d e => if isStr2 d e = true ∨ (SeqAt.shaped d = true ∧ SeqAt.shaped e = true) then some (.val (.bool (PyData.eqv d e))) else none
def gNe : D → D → Option Slot := fun d e => if isStr2 d e = true ∨ (SeqAt.shaped d = true ∧ SeqAt.shaped e = true) then some (.val (.bool (!PyData.eqv d e))) else none
theorem eqv_str (x y : Str) : PyData.eqv (.str x) (.str y) = decide (V.str x = V.str y) := by
  rw [dec_str]
  rfl
theorem ov_eq (hu : X.A.units + 64 < cLine) : OpV X (compareOp .Eq) gEq := by
  intro pins s σ H x y v u Q I rx ry h
  obtain ⟨F, d, e, sl, hF, hd, he, hg, q⟩ := h
  unfold gEq at hg
  by_cases hm : isStr2 d e = true ∨ (SeqAt.shaped d = true ∧ SeqAt.shaped e = true)
  · rw [if_pos hm] at hg
    cases hg
    rcases hm with hm | hm
    · obtain ⟨a, b, rfl, rfl⟩ := isStr2_of hm
      cases dp_str hd
      cases dp_str he
      exact op_eq pins s σ H _ _ v u Q I rx ry ⟨rfl, by rw [← eqv_str]; exact q_val hF q rfl (.bl _)⟩
    · exact op_eqD hu pins s σ H x y v u Q I rx ry ⟨d, e, dn_dp d (SeqAt.canLay_of_shaped hm.1) (dpS hF d hd), dn_dp e (SeqAt.canLay_of_shaped hm.2) (dpS hF e he), hm.1, hm.2, q_val hF q rfl (.bl _)⟩
  · rw [if_neg hm] at hg; cases hg
theorem ov_ne (hu : X.A.units + 64 < cLine) : OpV X (compareOp .NotEq) gNe := by
  intro pins s σ H x y v u Q I rx ry h
  obtain ⟨F, d, e, sl, hF, hd, he, hg, q⟩ := h
  unfold gNe at hg
  by_cases hm : isStr2 d e = true ∨ (SeqAt.shaped d = true ∧ SeqAt.shaped e = true)
  · rw [if_pos hm] at hg
    cases hg
    rcases hm with hm | hm
    · obtain ⟨a, b, rfl, rfl⟩ := isStr2_of hm
      cases dp_str hd
      cases dp_str he
      rw [eqv_str] at q
      exact op_ne pins s σ H _ _ v u Q I rx ry ⟨rfl, q_val hF q rfl (.bl _)⟩
    · exact op_neD hu pins s σ H x y v u Q I rx ry ⟨d, e, dn_dp d (SeqAt.canLay_of_shaped hm.1) (dpS hF d hd), dn_dp e (SeqAt.canLay_of_shaped hm.2) (dpS hF e he), hm.1, hm.2, q_val hF q rfl (.bl _)⟩
  · rw [if_neg hm] at hg; cases hg
def isNone : D → Bool
  | .none => true
  | _ => false
theorem none_iff {K : PySem.W.Frag} {F : Hp} {v : V} {d : D} (h : Dn K F v d) : decide (v = .non) = isNone d := by
  cases h <;> first | rfl | exact decide_eq_false nofun | exact decide_eq_true rfl
def gIsN : D → D → Option Slot
  | d, .none => some (.val (.bool (isNone d)))
  | _, _ => none
def gNotN : D → D → Option Slot
  | d, .none => some (.val (.bool (!isNone d)))
  | _, _ => none
theorem ov_isN : OpV X (compareOp .Is) gIsN := by
  intro pins s σ H x y v u Q I rx ry h
  obtain ⟨F, d, e, sl, hF, hd, he, hg, q⟩ := h
  cases e with
  | none => cases hg; exact op_isN pins s σ H x y v u Q I rx ry ⟨dp_none he, by rw [none_iff hd]; exact q_val hF q rfl (.bl _)⟩
  | _ => cases hg
theorem ov_notN : OpV X (compareOp .IsNot) gNotN := by
  intro pins s σ H x y v u Q I rx ry h
  obtain ⟨F, d, e, sl, hF, hd, he, hg, q⟩ := h
  cases e with
  | none => cases hg; exact op_notN pins s σ H x y v u Q I rx ry ⟨dp_none he, by rw [none_iff hd]; exact q_val hF q rfl (.bl _)⟩
  | _ => cases hg
/-! ### -a -/
def gNeg : D → Option Slot
  | .int i => some (.val (.int (-i)))
  | _ => none
theorem uv_neg : UnV X (unaryOp .USub) gNeg := by
  intro pins s σ H x v Q I rx h
  obtain ⟨F, d, sl, hF, hd, hg, q⟩ := h
  cases d with
  | int i => cases hg; exact un_neg pins s σ H x v Q I rx ⟨i, dp_int hd, q_val hF q rfl (.int _)⟩
  | _ => cases hg
/-! ### a[i] -/
theorem atI_dn {K : PySem.W.Frag} {F : Hp} {vs : List V} {ds : List D} {i : Int} {d : D} (h : DnAll K F vs ds) (e : atI ds i = some d) : ∃ v, atI vs i = some v ∧ Dn K F v d := by
  unfold atI at e ⊢
  rw [dpAll_len h]
  cases z : ixN ds.length i with
  | none => rw [z] at e; cases e
  | some j =>
    rw [z] at e
    exact dpAll_get h e
def gIx : D → D → Option Slot
  | .tuple xs, .int i => (atI xs i).map .val
  | .list xs, .int i => (atI xs i).map .val
  | .str x, .int i => if x.length ≤ 1000000 then (atI x.cps.toList i).map fun c => .val (.str ⟨#[c]⟩) else none
  | _, _ => none
theorem iv_ix : IxV X gIx := by
  intro va sc pins s σ H x y v u Q I rx ry h
  obtain ⟨F, d, e, sl, hF, hd, he, hg, q⟩ := h
  cases d with
  | tuple xs =>
    cases e with
    | int j =>
      obtain ⟨a, vs, rfl, t1, t2⟩ := dp_tup hd
      have hg : (atI xs j).map Slot.val = some sl := hg
      cases z : atI xs j with
      | none => rw [z] at hg; cases hg
      | some d =>
        rw [z] at hg
        cases hg
        obtain ⟨w, e1, e2⟩ := atI_dn t2 z
        exact ix_tup va sc pins s σ H _ y v u Q I rx ry ⟨a, vs, j, w, rfl, dp_int he, sameT hF t1, e1, q_val hF q rfl e2⟩
    | _ => cases hg
  | list xs =>
    cases e with
    | int j =>
      obtain ⟨a, vs, rfl, t1, t2⟩ := dp_lst hd
      have hg : (atI xs j).map Slot.val = some sl := hg
      cases z : atI xs j with
      | none => rw [z] at hg; cases hg
      | some d =>
        rw [z] at hg
        cases hg
        obtain ⟨w, e1, e2⟩ := atI_dn t2 z
        exact ix_list va sc pins s σ H _ y v u Q I rx ry ⟨a, vs, j, w, rfl, dp_int he, .inl (sameL hF t1), e1, q_val hF q rfl e2⟩
    | _ => cases hg
  | str xs =>
    cases e with
    | int j =>
      have hg : (if xs.length ≤ 1000000 then (atI xs.cps.toList j).map fun c => Slot.val (.str ⟨#[c]⟩) else none) = some sl := hg
      by_cases hl : xs.length ≤ 1000000
      · rw [if_pos hl] at hg
        cases z : atI xs.cps.toList j with
        | none => rw [z] at hg; cases hg
        | some d =>
          rw [z] at hg
          cases hg
          exact ix_str va sc pins s σ H _ y v u Q I rx ry ⟨xs, j, d, dp_str hd, dp_int he, Nat.le_trans hl (by rw [sizeLine_eq]; decide), z, q_val hF q rfl (.str _)⟩
      · rw [if_neg hl] at hg; cases hg
    | _ => cases hg
  | _ => cases hg
/-! ### built-in functions -/
def gLen : List D → Option Slot
  | [.tuple xs] => some (.val (.int xs.length))
  | [.list xs] => some (.val (.int xs.length))
  | [.str x] => small x.length (.val (.int x.length))
  | _ => none
theorem dn1 {K : PySem.W.Frag} {F : Hp} {vs : List V} {d : D} (h : DnAll K F vs [d]) : ∃ v, vs = [v] ∧ Dn K F v d := by
  cases h with
  | cons a t => cases t; exact ⟨_, rfl, a⟩
theorem dn2 {K : PySem.W.Frag} {F : Hp} {vs : List V} {d e : D} (h : DnAll K F vs [d, e]) : ∃ v w, vs = [v, w] ∧ Dn K F v d ∧ Dn K F w e := by
  cases h with
  | cons a t =>
    obtain ⟨w, rfl, b⟩ := dn1 t
    exact ⟨_, _, rfl, a, b⟩
theorem cv_len : CallV X (.builtin "len") gLen := by
  intro pins s σ H xs us Q I r h
  obtain ⟨F, ds, sl, hF, hd, hg, q⟩ := h
  unfold gLen at hg
  split at hg
  · cases hg
    obtain ⟨v, rfl, hv⟩ := dn1 hd
    obtain ⟨a, vs, rfl, t1, t2⟩ := dp_tup hv
    exact call_len_seq pins s σ H _ us Q I r ⟨a, vs, rfl, .inr (sameT hF t1), by rw [dpAll_len t2]; exact q_val hF q rfl (.int _)⟩
  · cases hg
    obtain ⟨v, rfl, hv⟩ := dn1 hd
    obtain ⟨a, vs, rfl, t1, t2⟩ := dp_lst hv
    exact call_len_seq pins s σ H _ us Q I r ⟨a, vs, rfl, .inl (.inl (sameL hF t1)), by rw [dpAll_len t2]; exact q_val hF q rfl (.int _)⟩
  · obtain ⟨n1, rfl, _⟩ := small_some hg
    obtain ⟨v, rfl, hv⟩ := dn1 hd
    exact call_len_str pins s σ H _ us Q I r ⟨_, by rw [dp_str hv], n1, q_val hF q rfl (.int _)⟩
  · cases hg
def gAbs : List D → Option Slot
  | [.int i] => some (.val (.int (if i < 0 then -i else i)))
  | _ => none
theorem cv_abs : CallV X (.builtin "abs") gAbs := by
  intro pins s σ H xs us Q I r h
  obtain ⟨F, ds, sl, hF, hd, hg, q⟩ := h
  unfold gAbs at hg
  split at hg
  · cases hg
    obtain ⟨v, rfl, hv⟩ := dn1 hd
    exact call_abs pins s σ H _ us Q I r ⟨_, by rw [dp_int hv], q_val hF q rfl (.int _)⟩
  · cases hg
def gMin : List D → Option Slot
  | [.int i, .int j] => some (.val (.int (if j < i then j else i)))
  | _ => none
theorem cv_min (hc : X.calm = true) : CallV X (.builtin "min") gMin := by
  intro pins s σ H xs us Q I r h
  obtain ⟨F, ds, sl, hF, hd, hg, q⟩ := h
  unfold gMin at hg
  split at hg
  · cases hg
    obtain ⟨v, w, rfl, hv, hw⟩ := dn2 hd
    exact call_min2 hc pins s σ H _ us Q I r ⟨_, _, by rw [dp_int hv, dp_int hw], q_val hF q rfl (.int _)⟩
  · cases hg
def gMax : List D → Option Slot
  | [.int i, .int j] => some (.val (.int (if j > i then j else i)))
  | _ => none
theorem cv_max (hc : X.calm = true) : CallV X (.builtin "max") gMax := by
  intro pins s σ H xs us Q I r h
  obtain ⟨F, ds, sl, hF, hd, hg, q⟩ := h
  unfold gMax at hg
  split at hg
  · cases hg
    obtain ⟨v, w, rfl, hv, hw⟩ := dn2 hd
    exact call_max2 hc pins s σ H _ us Q I r ⟨_, _, by rw [dp_int hv, dp_int hw], q_val hF q rfl (.int _)⟩
  · cases hg
def gInt : List D → Option Slot
  | [.int i] => some (.val (.int i))
  | _ => none
theorem cv_int : CallV X (.type "int") gInt := by
  intro pins s σ H xs us Q I r h
  obtain ⟨F, ds, sl, hF, hd, hg, q⟩ := h
  unfold gInt at hg
  split at hg
  · cases hg
    obtain ⟨v, rfl, hv⟩ := dn1 hd
    exact call_int1 pins s σ H _ us Q I r (.inl ⟨_, by rw [dp_int hv], q_val hF q rfl (.int _)⟩)
  · cases hg
/-- all of them -/
def allM {α : Type} (f : D → Option α) : List D → Option (List α)
  | [] => some []
  | d :: ds => match f d, allM f ds with
    | some a, some as => some (a :: as)
    | _, _ => none
def intOf : D → Option Int
  | .int i => some i
  | _ => none
def bOf : D → Option Bool
  | .bool i => some i
  | _ => none
theorem allM_int : ∀ {ds : List D} {ns : List Int}, allM intOf ds = some ns → ds = ns.map PyData.int
  | [], ns, h => by cases h; rfl
  | d :: ds, ns, h => by
    unfold allM at h
    cases d with
    | int i =>
      cases e : allM intOf ds with
      | none => rw [e] at h; cases h
      | some ms =>
        rw [e] at h
        cases h
        rw [List.map_cons, ← allM_int e]
    | _ => cases h
theorem allM_map : ∀ ns : List Int, allM intOf (ns.map PyData.int) = some ns
  | [] => rfl
  | n :: ns => by
    simp only [List.map_cons, allM, intOf, allM_map ns]
theorem allM_bool : ∀ {ds : List D} {ns : List Bool}, allM bOf ds = some ns → ds = ns.map PyData.bool
  | [], ns, h => by cases h; rfl
  | d :: ds, ns, h => by
    unfold allM at h
    cases d with
    | bool i =>
      cases e : allM bOf ds with
      | none => rw [e] at h; cases h
      | some ms =>
        rw [e] at h
        cases h
        rw [List.map_cons, ← allM_bool e]
    | _ => cases h
theorem allM_mapB : ∀ ns : List Bool, allM bOf (ns.map PyData.bool) = some ns
  | [] => rfl
  | n :: ns => by
    simp only [List.map_cons, allM, bOf, allM_mapB ns]
def gSum : List D → Option Slot
  | [.list xs] => (allM intOf xs).map fun ns => .val (.int ns.sum)
  | _ => none
theorem cv_sum (h : CallR X (.builtin "sum") (rSum X.K)) : CallV X (.builtin "sum") gSum := by
  intro pins s σ H xs us Q I r h'
  obtain ⟨F, ds, sl, hF, hd, hg, q⟩ := h'
  unfold gSum at hg
  split at hg
  · rename_i ys
    obtain ⟨v, rfl, hv⟩ := dn1 hd
    obtain ⟨a, vs, rfl, t1, t2⟩ := dp_lst hv
    cases e : allM intOf ys with
    | none => rw [e] at hg; cases hg
    | some ns =>
      rw [e] at hg
      cases hg
      rw [allM_int e] at t2
      rw [dp_ints t2] at t1
      exact h pins s σ H _ us Q I r ⟨a, ns, rfl, .inl (sameL hF t1), q_val hF q rfl (.int _)⟩
  · cases hg
def gAll : List D → Option Slot
  | [.list xs] => (allM bOf xs).map fun ns => .val (.bool (ns.all id))
  | _ => none
def gAny : List D → Option Slot
  | [.list xs] => (allM bOf xs).map fun ns => .val (.bool (ns.any id))
  | _ => none
theorem cv_all (h : CallR X (.builtin "all") (rAll X.K)) : CallV X (.builtin "all") gAll := by
  intro pins s σ H xs us Q I r h'
  obtain ⟨F, ds, sl, hF, hd, hg, q⟩ := h'
  unfold gAll at hg
  split at hg
  · rename_i ys
    obtain ⟨v, rfl, hv⟩ := dn1 hd
    obtain ⟨a, vs, rfl, t1, t2⟩ := dp_lst hv
    cases e : allM bOf ys with
    | none => rw [e] at hg; cases hg
    | some ns =>
      rw [e] at hg
      cases hg
      rw [allM_bool e] at t2
      rw [dp_bools t2] at t1
      exact h pins s σ H _ us Q I r ⟨a, ns, rfl, .inl (sameL hF t1), q_val hF q rfl (.bl _)⟩
  · cases hg
theorem cv_any (h : CallR X (.builtin "any") (rAny X.K)) : CallV X (.builtin "any") gAny := by
  intro pins s σ H xs us Q I r h'
  obtain ⟨F, ds, sl, hF, hd, hg, q⟩ := h'
  unfold gAny at hg
  split at hg
  · rename_i ys
    obtain ⟨v, rfl, hv⟩ := dn1 hd
    obtain ⟨a, vs, rfl, t1, t2⟩ := dp_lst hv
    cases e : allM bOf ys with
    | none => rw [e] at hg; cases hg
    | some ns =>
      rw [e] at hg
      cases hg
      rw [allM_bool e] at t2
      rw [dp_bools t2] at t1
      exact h pins s σ H _ us Q I r ⟨a, ns, rfl, .inl (sameL hF t1), q_val hF q rfl (.bl _)⟩
  · cases hg
def gTuple : List D → Option Slot
  | [.list xs] => some (.val (.tuple xs))
  | [.tuple xs] => some (.val (.tuple xs))
  | _ => none
theorem cv_tuple : CallV X (.type "tuple") gTuple := by
  intro pins s σ H xs us Q I r h
  obtain ⟨F, ds, sl, hF, hd, hg, q⟩ := h
  unfold gTuple at hg
  split at hg
  · cases hg
    obtain ⟨v, rfl, hv⟩ := dn1 hd
    obtain ⟨a, vs, rfl, t1, t2⟩ := dp_lst hv
    exact call_tuple_of pins s σ H _ us Q I r ⟨a, vs, rfl, .inl ⟨.inl (sameL hF t1), fun p np => q_tup hF q rfl t2 np⟩⟩
  · cases hg
    obtain ⟨v, rfl, hv⟩ := dn1 hd
    obtain ⟨a, vs, rfl, t1, t2⟩ := dp_tup hv
    exact call_tuple_of pins s σ H _ us Q I r ⟨a, vs, rfl, .inr ⟨sameT hF t1, q_val hF q rfl hv⟩⟩
  · cases hg
def gList : List D → Option Slot
  | [.list xs] => some (.own xs)
  | [.tuple xs] => some (.own xs)
  | _ => none
theorem cv_list : CallV X (.type "list") gList := by
  intro pins s σ H xs us Q I r h
  obtain ⟨F, ds, sl, hF, hd, hg, q⟩ := h
  unfold gList at hg
  split at hg
  · cases hg
    obtain ⟨v, rfl, hv⟩ := dn1 hd
    obtain ⟨a, vs, rfl, t1, t2⟩ := dp_lst hv
    exact call_list_of pins s σ H _ us Q I r ⟨a, vs, rfl, .inl (.inl (sameL hF t1)), fun p np => q_lst hF q rfl t2 np⟩
  · cases hg
    obtain ⟨v, rfl, hv⟩ := dn1 hd
    obtain ⟨a, vs, rfl, t1, t2⟩ := dp_tup hv
    exact call_list_of pins s σ H _ us Q I r ⟨a, vs, rfl, .inr (sameT hF t1), fun p np => q_lst hF q rfl t2 np⟩
  · cases hg
end

/-! ### the calls -/
section
variable {X : Cx} {R : Type} [Fam R] {L : LX} {pos p : Pos} {x : Str} {e : Expr} {es : List Expr} {fs : M R (List D)} {g : List D → Option Slot} {id T : String}
theorem ve_callB (hc : CallR X (.builtin id) (rOfL L.K g)) (hg : Gl X x) (hm : X.mg x = none) (hv : bootBuiltins x = some (.builtin id)) (ha : PA X (e :: es) (liftA L fs)) (hn : x ≠ "__name__" := by decide) (hdb : (x == ("__debug__" : Str)) = false := by decide)
    (he : starEach (e :: es) X.env = (false, eval e X.env) :: starEach es X.env := by rfl) (hpl : (backTo pos (starEach es X.env)).any (·.1) = false := by rfl) : PE X (.Call (.Name x p) (e :: es) [] pos) (lift L (vCB g fs)) :=
  peImp (pe_callB hc hg hm hv ha hn hdb he hpl) fun _ _ _ h => cb_of h
theorem ve_callTy (hc : CallR X (.type T) (rOfL L.K g)) (hg : Gl X x) (hm : X.mg x = none) (hv : bootBuiltins x = some (.type T)) (ha : PA X (e :: es) (liftA L fs)) (hn : x ≠ "__name__" := by decide) (hdb : (x == ("__debug__" : Str)) = false := by decide)
    (he : starEach (e :: es) X.env = (false, eval e X.env) :: starEach es X.env := by rfl) (hpl : (backTo pos (starEach es X.env)).any (·.1) = false := by rfl) : PE X (.Call (.Name x p) (e :: es) [] pos) (lift L (vCB g fs)) :=
  peImp (pe_callTy hc hg hm hv ha hn hdb he hpl) fun _ _ _ h => cb_of h
end
end L2.VL

/-! VL3: statements; what a slot's own list serves. -/
namespace L2.VL
open PySem PySem.Spec PyProof.Rows

/-! ### an object held aside -/
section
variable {R : Type} [Fam R] {K : PySem.W.Frag} {C : Ctx R} {F F' H H' : Hp} {σ : St} {ρ : List Slot} {r : R} {v : V} {s : Slot}
def Ctx.put (C : Ctx R) (a : Addr) (o : HO) : Ctx R := { C with gh := upd C.gh a o }
/-- with more held aside -/
abbrev Ctx.gho (C : Ctx R) (g : Hp) : Ctx R := { C with gh := g }
theorem VOk.less {g : Hp} (sg : Same C.gh g) (h : VOk K (C.gho g) F H v s) : VOk K C F H v s := by
  cases s with
  | emp => trivial
  | val d => exact h
  | root => exact h
  | own ds =>
    obtain ⟨b, vs, rfl, h1, h2, h3, h4, h5⟩ := h
    exact ⟨b, vs, rfl, h1, h2, sg.free h3, h4, h5⟩
  | ownT ds =>
    obtain ⟨b, vs, rfl, h1, h2, h3, h4, h5⟩ := h
    exact ⟨b, vs, rfl, h1, h2, sg.free h3, h4, h5⟩
theorem Hel.less {g : Hp} (sg : Same C.gh g) (h : Hel K (C.gho g) F H r) : Hel K C F H r :=
  ⟨⟨h.ok.fam, h.ok.stay, h.ok.there, h.ok.fp0, h.ok.f0⟩, h.fF, h.new, h.fH, h.frame, h.hr, fun b u e => h.gh b u (sg b u e)⟩
theorem Rel.less {g : Hp} (sg : Same C.gh g) (h : Rel K (C.gho g) F σ H ρ r) : Rel K C F σ H ρ r :=
  ⟨h.hel.less sg, h.len, fun i s e n => by
    obtain ⟨v, e1, e2⟩ := h.slot i s e n
    exact ⟨v, e1, e2.less sg⟩, h.apart⟩
theorem GoodS.less {L : LX} {g : Hp} {x : Out R} {E : Ends} (sg : Same C.gh g) (h : GoodS L C F x E) : GoodS L (C.gho g) F x E := by
  cases x with
  | stuck => exact h
  | nx ρ r => exact fun σ F' H' a b => h σ F' H' (a.less sg) b
  | bk ρ r => exact fun σ F' H' a b => h σ F' H' (a.less sg) b
  | ct ρ r => exact fun σ F' H' a b => h σ F' H' (a.less sg) b
  | rt s r => exact fun v F' H' a b c => h v F' H' (a.less sg) (b.less sg) c
  | exc c d ρ r => exact fun σ F' H' cls dd v a b => h σ F' H' cls dd v (a.less sg) b
theorem Rel.put {a : Addr} {o : HO} (h : Rel K C F σ H ρ r) (nt : NotTup o) (ha : H a = some o) (nF : F a = none) (n0 : C.H0 a = none)
    (al : ∀ (i : Nat) (t : Slot), ρ[i]? = some t → t.isOwn = true → σ[i]? ≠ some (some (.ref a))) : Rel K (C.put a o) F σ H ρ r := by
  refine ⟨⟨⟨h.hel.ok.fam, h.hel.ok.stay, h.hel.ok.there, h.hel.ok.fp0, h.hel.ok.f0⟩, h.hel.fF, h.hel.new, h.hel.fH, h.hel.frame, h.hel.hr, fun b u e => ?_⟩, h.len, fun i s e n => ?_, h.apart⟩
  · by_cases hb : b = a
    · subst hb
      have e' : upd C.gh b o b = some u := e
      rw [upd_same] at e'
      cases e'
      exact ⟨ha, nF, n0, nt⟩
    · have e' : upd C.gh a o b = some u := e
      rw [upd_ne hb] at e'
      exact h.hel.gh b u e'
  · obtain ⟨v, e1, e2⟩ := h.slot i s e n
    refine ⟨v, e1, ?_⟩
    cases s with
    | emp => trivial
    | val d => exact e2
    | root => exact e2
    | own ds =>
      obtain ⟨b, vs, rfl, h1, h2, h3, h4, h5⟩ := e2
      have hb : b ≠ a := fun z => by subst z; exact al i _ e rfl e1
      exact ⟨b, vs, rfl, h1, h2, by show upd C.gh a o b = none; rw [upd_ne hb]; exact h3, h4, h5⟩
    | ownT ds =>
      obtain ⟨b, vs, rfl, h1, h2, h3, h4, h5⟩ := e2
      have hb : b ≠ a := fun z => by subst z; exact al i _ e rfl e1
      exact ⟨b, vs, rfl, h1, h2, by show upd C.gh a o b = none; rw [upd_ne hb]; exact h3, h4, h5⟩
theorem VOk.unput {a : Addr} {o : HO} (ng : C.gh a = none) (h : VOk K (C.put a o) F H v s) : VOk K C F H v s := by
  cases s with
  | emp => trivial
  | val d => exact h
  | root => exact h
  | own ds =>
    obtain ⟨b, vs, rfl, h1, h2, h3, h4, h5⟩ := h
    have h3' : upd C.gh a o b = none := h3
    have hb : b ≠ a := fun z => by subst z; rw [upd_same] at h3'; cases h3'
    rw [upd_ne hb] at h3'
    exact ⟨b, vs, rfl, h1, h2, h3', h4, h5⟩
  | ownT ds =>
    obtain ⟨b, vs, rfl, h1, h2, h3, h4, h5⟩ := h
    have h3' : upd C.gh a o b = none := h3
    have hb : b ≠ a := fun z => by subst z; rw [upd_same] at h3'; cases h3'
    rw [upd_ne hb] at h3'
    exact ⟨b, vs, rfl, h1, h2, h3', h4, h5⟩
theorem Rel.unput {a : Addr} {o : HO} (ng : C.gh a = none) (h : Rel K (C.put a o) F σ H ρ r) : Rel K C F σ H ρ r :=
  ⟨⟨⟨h.hel.ok.fam, h.hel.ok.stay, h.hel.ok.there, h.hel.ok.fp0, h.hel.ok.f0⟩, h.hel.fF, h.hel.new, h.hel.fH, h.hel.frame, h.hel.hr, fun b u e => h.hel.gh b u (by
    show upd C.gh a o b = some u
    rw [upd_ne (ne_of_none e ng)]; exact e)⟩, h.len, fun i s e n => by
    obtain ⟨v, e1, e2⟩ := h.slot i s e n
    exact ⟨v, e1, e2.unput ng⟩, h.apart⟩
/-- what is held aside stands as it stood -/
theorem Rel.aside {a : Addr} {o : HO} (h : Rel K (C.put a o) F σ H ρ r) : H a = some o ∧ F a = none ∧ C.H0 a = none ∧ ∀ (i : Nat) (t : Slot), ρ[i]? = some t → t.isOwn = true → σ[i]? ≠ some (some (.ref a)) := by
  obtain ⟨h1, h2, h3, _⟩ := h.hel.gh a o (show upd C.gh a o a = some o from upd_same)
  refine ⟨h1, h2, h3, fun i t e ot z => ?_⟩
  obtain ⟨v, e1, e2⟩ := h.slot i t e (fun q => by subst q; cases ot)
  rw [z] at e1
  obtain rfl : V.ref a = v := Option.some.inj (Option.some.inj e1)
  cases t with
  | own _ =>
    obtain ⟨b, _, q, _, _, g, _⟩ := e2
    cases q
    have g' : upd C.gh a o a = none := g
    rw [upd_same] at g'; cases g'
  | ownT _ =>
    obtain ⟨b, _, q, _, _, g, _⟩ := e2
    cases q
    have g' : upd C.gh a o a = none := g
    rw [upd_same] at g'; cases g'
  | emp => cases ot
  | val _ => cases ot
  | root => cases ot
theorem Good.ctx {α : Type} {L : LX} {C C' : Ctx R} {σ : St} {F : Hp} {x : Res R α} {P P' : α → List Slot → R → Hp → Hp → Prop} (w : ∀ {F σ H ρ r}, Rel L.K C' F σ H ρ r → Rel L.K C F σ H ρ r) (h : Good L C σ F x P)
    (q : ∀ a ρ r F' H', Rel L.K C' F' σ H' ρ r → Same F F' → P a ρ r F' H' → P' a ρ r F' H') : Good L C' σ F x P' := by
  cases x with
  | stuck => exact h
  | ok a ρ r => exact fun F' H' a b => q _ _ _ _ _ a b (h F' H' (w a) b)
  | exc c d ρ r => exact fun σ F' H' cls dd v a b => h σ F' H' cls dd v (w a) b
/-- the own object of a value, if it is one -/
theorem ResOk.own_at (q : ResOk K C F H σ ρ v s) (o : s.isOwn = true) : ∃ a ob, v = .ref a ∧ NotTup ob ∧ H a = some ob ∧ C.H0 a = none ∧ C.gh a = none ∧ F a = none ∧ (∀ (i : Nat) (t : Slot), ρ[i]? = some t → t.isOwn = true → σ[i]? ≠ some (some (.ref a))) ∧
    ∀ {F' H' : Hp}, Same F F' → H' a = some ob → F' a = none → VOk K C F' H' v s := by
  obtain ⟨q1, q2⟩ := q
  cases s with
  | own ds =>
    obtain ⟨a, vs, rfl, h1, h2, h3, h4, h5⟩ := q1
    exact ⟨a, _, rfl, notTup_lst, h1, h2, h3, h4, q2 rfl, fun sm hh hf => ⟨a, vs, rfl, hh, h2, h3, hf, dpAllS sm ds h5⟩⟩
  | ownT ds =>
    obtain ⟨a, vs, rfl, h1, h2, h3, h4, h5⟩ := q1
    exact ⟨a, _, rfl, notTup_dT, h1, h2, h3, h4, q2 rfl, fun sm hh hf => ⟨a, vs, rfl, hh, h2, h3, hf, h5.same sm⟩⟩
  | emp => cases o
  | val _ => cases o
  | root => cases o
theorem VOk.same (h : VOk K C F H v s) (o : s.isOwn = false) (sm : Same F F') (H' : Hp) : VOk K C F' H' v s := by
  cases s with
  | own ds => cases o
  | ownT ds => cases o
  | emp => trivial
  | val _ => exact dpS sm _ h
  | root => exact h

/-! ### several values at once, each its own -/
def ResAll (K : PySem.W.Frag) (C : Ctx R) (F H : Hp) (σ : St) (ρ : List Slot) : List V → List Slot → Prop
  | [], [] => True
  | v :: vs, s :: ss => ResOk K C F H σ ρ v s ∧ (s.isOwn = true → ∀ (k : Nat) (t : Slot), ss[k]? = some t → t.isOwn = true → vs[k]? ≠ some v) ∧ ResAll K C F H σ ρ vs ss
  | _, _ => False
def liftB (L : LX) (f : M R (List Slot)) : TA := fun σ H Q => ∃ (C : Ctx R) (F : Hp) (ρ : List Slot) (r : R), Rel L.K C F σ H ρ r ∧ Good L C σ F (f ρ r) fun ss ρ' _ F' H' => ∀ vs, ResAll L.K C F' H' σ ρ' vs ss → Q vs H'
def bNil : M R (List Slot) := ret []
def bCons (fa : M R Slot) (fs : M R (List Slot)) : M R (List Slot) := bnd fa fun s => bnd fs fun ss => ret (s :: ss)
theorem ResAll.unput {a : Addr} {o : HO} (ng : C.gh a = none) : ∀ {vs : List V} {ss : List Slot}, ResAll K (C.put a o) F H σ ρ vs ss → ResAll K C F H σ ρ vs ss ∧ ∀ (k : Nat) (t : Slot), ss[k]? = some t → t.isOwn = true → vs[k]? ≠ some (.ref a)
  | [], [], _ => ⟨trivial, fun k t e => by simp at e⟩
  | v :: vs, s :: ss, ⟨h1, h2, h3⟩ => by
    obtain ⟨q1, q2⟩ := ResAll.unput ng h3
    refine ⟨⟨⟨h1.1.unput ng, h1.2⟩, h2, q1⟩, fun k t e o z => ?_⟩
    cases k with
    | succ k => exact q2 k t (by simpa using e) o (by simpa using z)
    | zero =>
      have e' : s = t := by simpa using e
      have z' : v = .ref a := by simpa using z
      subst e' z'
      have h1' := h1.1
      cases s with
      | own _ =>
        obtain ⟨b, _, q, _, _, g, _⟩ := h1'
        cases q
        have g' : upd C.gh a _ a = none := g
        rw [upd_same] at g'; cases g'
      | ownT _ =>
        obtain ⟨b, _, q, _, _, g, _⟩ := h1'
        cases q
        have g' : upd C.gh a _ a = none := g
        rw [upd_same] at g'; cases g'
      | emp => cases o
      | val _ => cases o
      | root => cases o
  | [], _ :: _, h => h.elim
  | _ :: _, [], h => h.elim
end
section
variable {X : Cx} {R : Type} [Fam R] {L : LX} {pos : Pos} {a b : Expr} {es : List Expr} {fa fb fe : M R Slot} {fs : M R (List Slot)}
theorem vb_nil : PA X [] (liftB L (bNil : M R (List Slot))) := paImp pa_nil fun σ H Q ⟨C, F, ρ, r, hR, g0⟩ => g0 F H hR (Same.refl _) [] trivial
theorem vb_cons (ha : PE X a (lift L fa)) (hs : PA X es (liftB L fs)) (hst : starEach (a :: es) X.env = (false, eval a X.env) :: starEach es X.env := by rfl) : PA X (a :: es) (liftB L (bCons fa fs)) :=
  paImp (pa_cons ha hs hst) fun σ H Q ⟨C, F, ρ, r, hR, g0⟩ => ⟨C, F, ρ, r, hR, (Good.bnd g0).imp fun s ρ1 r1 F1 H1 R1 S1 g1 x rx => by
    cases o : s.isOwn with
    | false =>
      exact ⟨C, F1, ρ1, r1, R1, (Good.bnd g1).imp fun ss ρ2 r2 F2 H2 R2 S2 g2 xs rxs => g2 F2 H2 R2 (Same.refl _) _ ⟨⟨rx.1.same o S2 H2, fun z => absurd z (by rw [o]; exact Bool.false_ne_true)⟩, fun z => absurd z (by rw [o]; exact Bool.false_ne_true), rxs⟩⟩
    | true =>
      obtain ⟨ad, ob, rfl, nt, h1, h2, h3, h4, al, back⟩ := rx.own_at o
      refine ⟨C.put ad ob, F1, ρ1, r1, R1.put nt h1 h4 h2 al, Good.ctx (fun z => z.unput h3) (Good.bnd g1) fun ss ρ2 r2 F2 H2 R2 S2 g2 xs rxs => ?_⟩
      obtain ⟨k1, k2, k3, k4⟩ := R2.aside
      obtain ⟨q1, q2⟩ := rxs.unput h3
      exact g2 F2 H2 (R2.unput h3) (Same.refl _) _ ⟨⟨back S2 k1 k2, fun _ => k4⟩, fun _ => q2, q1⟩⟩

/-! ### statements -/
def sNext : MS R := fun ρ r => .nx ρ r
def sNever : MS R := fun _ _ => .stuck
def sBreak : MS R := fun ρ r => .bk ρ r
def sCont : MS R := fun ρ r => .ct ρ r
def sSeq (g h : MS R) : MS R := fun ρ r => match g ρ r with
  | .nx ρ' r' => h ρ' r'
  | .stuck => .stuck
  | .bk ρ' r' => .bk ρ' r'
  | .ct ρ' r' => .ct ρ' r'
  | .rt s r' => .rt s r'
  | .exc c d ρ' r' => .exc c d ρ' r'
/-- a value, then -/
def thenS {α : Type} (m : M R α) (k : α → MS R) : MS R := fun ρ r => match m ρ r with
  | .ok a ρ' r' => k a ρ' r'
  | .stuck => .stuck
  | .exc c d ρ' r' => .exc c d ρ' r'
def sRet (f : M R Slot) : MS R := thenS f fun s _ r => .rt s r
def sRetN : MS R := fun _ r => .rt (.val .none) r
def sExpr (f : M R Slot) : MS R := thenS f fun _ ρ r => .nx ρ r
def sSet (i : Nat) (f : M R Slot) : MS R := thenS f fun s ρ r => .nx (ρ.set i s) r
def sIf (t : M R Bool) (g h : MS R) : MS R := thenS t fun b => if b = true then g else h
/-- a target takes a datum -/
def sAsg (t : D → List Slot → Option (List Slot)) (f : M R Slot) : MS R := thenS (toD f) fun d ρ r => match t d ρ with
  | some ρ' => .nx ρ' r
  | none => .stuck
def sPar (i j : Nat) (f : M R (List Slot)) : MS R := thenS f fun ss ρ r => match ss with
  | [s, t] => .nx ((ρ.set i s).set j t) r
  | _ => .stuck
def sPar3 (i j k : Nat) (f : M R (List Slot)) : MS R := thenS f fun ss ρ r => match ss with
  | [s, t, u] => .nx (((ρ.set i s).set j t).set k u) r
  | _ => .stuck
variable {st : Stmt} {rest : List Stmt} {g h : MS R}
theorem GoodS.thenS {α : Type} {C : Ctx R} {σ : St} {F : Hp} {m : Res R α} {k : α → MS R} {E : Ends}
    (q : GoodS L C F (match m with | .ok a ρ' r' => k a ρ' r' | .stuck => .stuck | .exc c d ρ' r' => .exc c d ρ' r') E) : Good L C σ F m fun a ρ' r' F' _ => GoodS L C F' (k a ρ' r') E := by
  cases m with
  | stuck => exact q
  | ok a ρ r => exact fun F' H' _ s => GoodS.mono s q
  | exc c d ρ r => exact q
theorem vs_nil : PSs X [] (liftS L (sNext : MS R)) := pssImp pss_nil fun D σ H ⟨C, F, ρ, r, hR, g0⟩ => g0 σ F H hR (Same.refl _)
theorem vs_cons (h1 : PS X st (liftS L g)) (h2 : PSs X rest (liftS L h)) : PSs X (st :: rest) (liftS L (sSeq g h)) :=
  pssImp (pss_cons h1 h2) fun D σ H ⟨C, F, ρ, r, hR, g0⟩ => ⟨C, F, ρ, r, hR, by
    unfold sSeq at g0
    cases e : g ρ r with
    | nx ρ' r' => rw [e] at g0; exact fun σ' F' H' R' S' => ⟨C, F', ρ', r', R', GoodS.mono S' g0⟩
    | stuck => rw [e] at g0; exact g0
    | bk ρ' r' => rw [e] at g0; exact g0
    | ct ρ' r' => rw [e] at g0; exact g0
    | rt s r' => rw [e] at g0; exact g0
    | exc c d ρ' r' => rw [e] at g0; exact g0⟩
theorem vs_one (h1 : PS X st (liftS L g)) : PSs X [st] (liftS L g) := pss_one h1
theorem vs_pass : PS X (.Pass pos) (liftS L (sNext : MS R)) := psImp ps_pass fun D σ H ⟨C, F, ρ, r, hR, g0⟩ => g0 σ F H hR (Same.refl _)
theorem vs_break : PS X (.Break pos) (liftS L (sBreak : MS R)) := psImp ps_break fun D σ H ⟨C, F, ρ, r, hR, g0⟩ => g0 σ F H hR (Same.refl _)
theorem vs_continue : PS X (.Continue pos) (liftS L (sCont : MS R)) := psImp ps_continue fun D σ H ⟨C, F, ρ, r, hR, g0⟩ => g0 σ F H hR (Same.refl _)
theorem vs_never : PS X st (liftS L (sNever : MS R)) := psImp ps_never fun D σ H ⟨C, F, ρ, r, hR, g0⟩ => g0
theorem vss_never {sts : List Stmt} : PSs X sts (liftS L (sNever : MS R)) := pssImp pss_never fun D σ H ⟨C, F, ρ, r, hR, g0⟩ => g0
theorem vs_ret (he : PE X a (lift L fa)) : PS X (.Return (some a) pos) (liftS L (sRet fa)) := psImp (ps_ret he) fun D σ H ⟨C, F, ρ, r, hR, g0⟩ =>
  ⟨C, F, ρ, r, hR, (GoodS.thenS g0).imp fun s ρ1 r1 F1 H1 R1 S1 g1 v rv => g1 v F1 H1 R1.hel rv.1 (Same.refl _)⟩
theorem vs_retN : PS X (.Return none pos) (liftS L (sRetN : MS R)) := psImp ps_retN fun D σ H ⟨C, F, ρ, r, hR, g0⟩ => g0 _ F H hR.hel .non (Same.refl _)
theorem vs_expr (he : PE X a (lift L fa)) (hs : swapsWith a none pos.line X.env = pure false := by rfl) : PS X (.Expr a pos) (liftS L (sExpr fa)) := psImp (ps_expr he hs) fun D σ H ⟨C, F, ρ, r, hR, g0⟩ =>
  ⟨C, F, ρ, r, hR, (GoodS.thenS g0).imp fun s ρ1 r1 F1 H1 R1 S1 g1 v rv => g1 σ F1 H1 R1 (Same.refl _)⟩
theorem vs_if {c : Expr} {tc : M R Bool} {xs ys : List Stmt} (hc : PT X c (liftT L tc)) (ha : PSs X xs (liftS L g)) (hb : PSs X ys (liftS L h)) : PS X (.If c xs ys pos) (liftS L (sIf tc g h)) := psImp (ps_if hc ha hb) fun D σ H ⟨C, F, ρ, r, hR, g0⟩ =>
  ⟨C, F, ρ, r, hR, (GoodS.thenS g0).imp fun b ρ1 r1 F1 H1 R1 S1 g1 => by
    cases b with
    | true => exact iteT ⟨C, F1, ρ1, r1, R1, g1⟩
    | false => exact iteF ⟨C, F1, ρ1, r1, R1, g1⟩⟩
theorem vs_set {i : Nat} {x : Str} {pos' : Pos} (hN : X.N.Nodup) (hi : X.N[i]? = some x) (hx : Loc X.env.scope x) (he : PE X a (lift L fa)) (hs : swapsWith a (some (.Name x pos')) pos.line X.env = pure false := by rfl) (hf : X.fn x = true ∨ X.env.scope.names.lookup x = some .local := by first | exact .inl rfl | exact .inr rfl | assumption) :
    PS X (.Assign [.Name x pos'] a pos) (liftS L (sSet i fa)) := psImp (ps_set hN hi hx he hs hf) fun D σ H ⟨C, F, ρ, r, hR, g0⟩ =>
  ⟨C, F, ρ, r, hR, (GoodS.thenS g0).imp fun s ρ1 r1 F1 H1 R1 S1 g1 v rv => g1 _ F1 H1 (R1.setSlot i rv) (Same.refl _)⟩
/-- targets -/
def gNm (i : Nat) : D → List Slot → Option (List Slot) := fun d ρ => some (ρ.set i (.val d))
def gAll2 : List (D → List Slot → Option (List Slot)) → List D → List Slot → Option (List Slot)
  | [], [], ρ => some ρ
  | t :: ts, d :: ds, ρ => (t d ρ).bind (gAll2 ts ds)
  | _, _, _ => none
def gTp (ts : List (D → List Slot → Option (List Slot))) : D → List Slot → Option (List Slot)
  | .tuple ds, ρ => gAll2 ts ds ρ
  | _, _ => none
def liftGs (R : Type) [Fam R] (K : PySem.W.Frag) (js : List Nat) (ts : List (D → List Slot → Option (List Slot))) : TGs := fun vs σ H Q => ∃ (C : Ctx R) (F : Hp) (ρ : List Slot) (r : R) (ds : List D) (ρ' : List Slot), Rel K C F σ H ρ r ∧ DnAll K F vs ds ∧ gAll2 ts ds ρ = some ρ' ∧ ∀ σ', But js σ σ' → Rel K C F σ' H ρ' r → Q σ' H
theorem But.refl (js : List Nat) (σ : St) : But js σ σ := ⟨rfl, fun _ _ => rfl⟩
theorem But.trans {js ks : List Nat} {σ σ1 σ2 : St} (a : But js σ σ1) (b : But ks σ1 σ2) : But (js ++ ks) σ σ2 := ⟨b.1.trans a.1, fun j h => (b.2 j fun z => h (List.mem_append_right _ z)).trans (a.2 j fun z => h (List.mem_append_left _ z))⟩
theorem pgImp {e : Expr} {t t' : TG} (h : PG X e t) (w : ∀ v σ H Q, t' v σ H Q → t v σ H Q) : PG X e t' := ⟨fun pins s σ H v u Q I rv q => h.run pins s σ H v u Q I rv (w _ _ _ _ q)⟩
theorem pgsImp {e : List Expr} {t t' : TGs} (h : PGs X e t) (w : ∀ v σ H Q, t' v σ H Q → t v σ H Q) : PGs X e t' := ⟨fun pins s σ H v u Q I rv q => h.run pins s σ H v u Q I rv (w _ _ _ _ q)⟩
theorem vg_name {i : Nat} {x : Str} (hN : X.N.Nodup) (hi : X.N[i]? = some x) (hx : Loc X.env.scope x) (hf : X.fn x = true ∨ X.env.scope.names.lookup x = some .local := by first | exact .inl rfl | exact .inr rfl | assumption) :
    PG X (.Name x pos) (liftG R L.K [i] (gNm i)) := pgImp (pg_name hN hi hx hf) fun v σ H Q ⟨C, F, ρ, r, d, ρ', hR, hd, e, q⟩ => by
  cases e
  exact q _ ⟨List.length_set, fun j h => List.getElem?_set_ne fun z => h (by rw [z]; exact List.mem_singleton.mpr rfl)⟩ (hR.setSlot i ⟨hd, fun z => nomatch z⟩)
theorem vgs_nil : PGs X [] (liftGs R L.K [] []) := pgsImp pgs_nil fun vs σ H Q ⟨C, F, ρ, r, ds, ρ', hR, hd, e, q⟩ => by
  cases ds with
  | nil => cases e; exact ⟨dnAll_nil' hd, q σ (But.refl _ _) hR⟩
  | cons => cases e
theorem vgs_cons {e : Expr} {es : List Expr} {t : D → List Slot → Option (List Slot)} {ts : List (D → List Slot → Option (List Slot))} {js ks : List Nat} (h1 : PG X e (liftG R L.K js t)) (h2 : PGs X es (liftGs R L.K ks ts))
    (hs : (assignEach (e :: es) X.env).map (·.2) = assign e X.env :: (assignEach es X.env).map (·.2) := by rfl) : PGs X (e :: es) (liftGs R L.K (js ++ ks) (t :: ts)) :=
  pgsImp (pgs_cons h1 h2 hs) fun vs σ H Q ⟨C, F, ρ, r, ds, ρ', hR, hd, e, q⟩ => by
    cases ds with
    | nil => cases e
    | cons d ds =>
      cases hd with
      | cons hd1 hd2 =>
        have e' : (t d ρ).bind (gAll2 ts ds) = some ρ' := e
        cases z : t d ρ with
        | none => rw [z] at e'; cases e'
        | some ρ1 =>
          rw [z] at e'
          exact ⟨_, _, rfl, C, F, ρ, r, d, ρ1, hR, hd1, z, fun σ' b1 R' => ⟨C, F, ρ1, r, ds, ρ', R', hd2, e', fun σ'' b2 R'' => q σ'' (b1.trans b2) R''⟩⟩
theorem gAll2_len : ∀ {ts : List (D → List Slot → Option (List Slot))} {ds : List D} {ρ ρ' : List Slot}, gAll2 ts ds ρ = some ρ' → ds.length = ts.length
  | [], [], _, _, _ => rfl
  | t :: ts, d :: ds, ρ, ρ', h => by
    have h' : (t d ρ).bind (gAll2 ts ds) = some ρ' := h
    cases z : t d ρ with
    | none => rw [z] at h'; cases h'
    | some ρ1 =>
      rw [z] at h'
      exact congrArg (· + 1) (gAll2_len h')
  | [], _ :: _, _, _, h => by cases h
  | _ :: _, [], _, _, h => by cases h
theorem vg_tup {es : List Expr} {k : Nat} {ts : List (D → List Slot → Option (List Slot))} {n : Nat} {js : List Nat} (hc : X.calm = true) (h : PGs X es (liftGs R L.K js ts)) (hn : (assignEach es X.env).length = n := by rfl) (hst : (assignEach es X.env).findIdx? (·.1) = none := by rfl) (hts : ts.length = n := by rfl) (hK : X.K = L.K := by rfl) : PG X (.Tuple es k pos) (liftG R L.K js (gTp ts)) :=
  pgImp (pg_tup (n := n) hc h hn hst) fun v σ H Q ⟨C, F, ρ, r, d, ρ', hR, hd, e, q⟩ => by
    cases d with
    | tuple ds =>
      obtain ⟨a, vs, rfl, t1, t2⟩ := dp_tup hd
      exact ⟨a, vs, rfl, by rw [hK]; exact sameT hR.hel.fH t1, by rw [dpAll_len t2, gAll2_len e]; exact hts, C, F, ρ, r, ds, ρ', hR, t2, e, q⟩
    | _ => cases e
theorem vs_asg {tg : Expr} {t : D → List Slot → Option (List Slot)} {js : List Nat} (he : PE X a (lift L fa)) (hg : PG X tg (liftG R L.K js t)) (hs : swapsWithSole [tg] a pos.line X.env = pure false := by rfl) (hw : swappedStores [tg] a X.env = pure none := by rfl)
    (h1 : (assignEach [tg] X.env).map (·.2) = [assign tg X.env] := by rfl) :
    PS X (.Assign [tg] a pos) (liftS L (sAsg t fa)) := psImp (ps_asg (useD he) hg hs hw h1) fun D σ H ⟨C, F, ρ, r, hR, g0⟩ =>
  ⟨C, F, ρ, r, hR, (GoodS.thenS g0).imp fun d ρ1 r1 F1 H1 R1 S1 g1 v dv => by
    cases z : t d ρ1 with
    | none => rw [z] at g1; exact g1.elim
    | some ρ2 =>
      rw [z] at g1
      exact ⟨C, F1, ρ1, r1, d, ρ2, R1, dv, z, fun σ' _ R' => g1 σ' F1 H1 R' (Same.refl _)⟩⟩
theorem get_set {α : Type} {l : List α} {i j : Nat} {x y : α} (h : (l.set i x)[j]? = some y) : (j = i ∧ i < l.length ∧ y = x) ∨ (j ≠ i ∧ l[j]? = some y) := by
  by_cases hij : i = j
  · subst hij
    rcases Nat.lt_or_ge i l.length with z | z
    · rw [List.getElem?_set_self z] at h; exact .inl ⟨rfl, z, (Option.some.inj h).symm⟩
    · rw [List.getElem?_eq_none (by simpa using z)] at h; cases h
  · rw [List.getElem?_set_ne hij] at h; exact .inr ⟨fun z => hij z.symm, h⟩
theorem Rel.set2 {K : PySem.W.Frag} {C : Ctx R} {F H : Hp} {σ : St} {ρ : List Slot} {r : R} {v w : V} {s t : Slot} {i : Nat} (hR : Rel K C F σ H ρ r) (qs : ResOk K C F H σ ρ v s) (qt : ResOk K C F H σ ρ w t) (al : s.isOwn = true → t.isOwn = true → w ≠ v) :
    Rel K C F (σ.set i (some v)) H (ρ.set i s) r ∧ ResOk K C F H (σ.set i (some v)) (ρ.set i s) w t := by
  refine ⟨hR.setSlot i qs, qt.1, fun o k u e ou z => ?_⟩
  rcases get_set e with ⟨rfl, hl, rfl⟩ | ⟨hk, e'⟩
  · rw [List.getElem?_set_self (by rw [hR.len]; exact hl)] at z
    exact al ou o (Option.some.inj (Option.some.inj z)).symm
  · rw [List.getElem?_set_ne (Ne.symm hk)] at z
    exact qt.2 o k u e' ou z
theorem vs_par {i j : Nat} {x y : Str} {px py pt : Pos} {kt k2 pt2} (hc : X.calm = true) (hN : X.N.Nodup) (hi : X.N[i]? = some x) (hj : X.N[j]? = some y) (hij : i ≠ j)
    (hx : X.env.scope.names.lookup x = some .local) (hy : X.env.scope.names.lookup y = some .local) (ha : PA X [a, b] (liftB L fs))
    (hw : swappedStores [.Tuple [.Name x px, .Name y py] kt pt] (.Tuple [a, b] k2 pt2) X.env = pure (some [x, y]))
    (hs : swapsWithSole [.Tuple [.Name x px, .Name y py] kt pt] (.Tuple [a, b] k2 pt2) pos.line X.env = pure false := by rfl) :
    PS X (.Assign [.Tuple [.Name x px, .Name y py] kt pt] (.Tuple [a, b] k2 pt2) pos) (liftS L (sPar i j fs)) :=
  psImp (ps_par hc hN hi hj hij hx hy ha hw hs) fun D σ H ⟨C, F, ρ, r, hR, g0⟩ =>
  ⟨C, F, ρ, r, hR, (GoodS.thenS g0).imp fun ss ρ1 r1 F1 H1 R1 S1 g1 vs rv => by
    match ss, vs, rv with
    | [s, t], [v, w], ⟨q1, q2, q3, _⟩ =>
      obtain ⟨R2, q4⟩ := R1.set2 (i := i) q1 q3 fun o o' z => q2 o 0 t rfl o' (by rw [z] <;> rfl)
      exact ⟨v, w, rfl, g1 _ F1 H1 (R2.setSlot j q4) (Same.refl _)⟩
    | [_, _], [_], h => exact h.2.2.elim
    | [_, _], [], h => exact h.elim
    | [_, _], _ :: _ :: _ :: _, h => exact h.2.2.2.2.elim
    | [], _, _ => exact g1.elim
    | [_], _, _ => exact g1.elim
    | _ :: _ :: _ :: _, _, _ => exact g1.elim⟩
end
end L2.VL

/-! VL4: a slot's own list; loops; comprehensions. -/
namespace L2.VL
open PySem PySem.Spec PyProof.Rows

section
variable {R : Type} [Fam R] {K : PySem.W.Frag} {C : Ctx R} {F F' H H' : Hp} {σ : St} {ρ : List Slot} {r : R} {v : V} {s : Slot}
theorem lt_of_get {α : Type} {l : List α} {i : Nat} {x : α} (h : l[i]? = some x) : i < l.length := by
  rcases Nat.lt_or_ge i l.length with z | z
  · exact z
  · rw [List.getElem?_eq_none z] at h; cases h
/-- an own object changes in place -/
theorem Rel.change {i : Nat} {a : Addr} {o : HO} {s s' : Slot} (h : Rel K C F σ H ρ r) (e : ρ[i]? = some s) (os : s.isOwn = true) (ev : σ[i]? = some (some (.ref a))) (n0 : C.H0 a = none) (ng : C.gh a = none) (nF : F a = none)
    (new : VOk K C F (upd H a o) (.ref a) s') : Rel K C F σ (upd H a o) (ρ.set i s') r := by
  have hl := lt_of_get e
  refine ⟨⟨h.hel.ok, h.hel.fF, h.hel.new, fun b u q => ?_, fun b u q nf => ?_, ?_, fun b u q => ?_⟩, by rw [List.length_set]; exact h.len, fun j t ej nj => ?_, fun j k t u w hjk e1 e2 o1 o2 z1 z2 => ?_⟩
  · rw [upd_ne (ne_of_none q nF)]; exact h.hel.fH b u q
  · rw [upd_ne (ne_of_none q n0)]; exact h.hel.frame b u q nf
  · refine h.hel.ok.stay r H _ h.hel.hr fun b u fb q => ?_
    obtain ⟨o', e', _⟩ := h.hel.ok.fp0 b fb
    rw [upd_ne (ne_of_none e' n0)]; exact q
  · obtain ⟨g1, g2, g3⟩ := h.hel.gh b u q
    exact ⟨by rw [upd_ne (ne_of_none q ng)]; exact g1, g2, g3⟩
  · rcases get_set ej with ⟨rfl, _, rfl⟩ | ⟨hk, e'⟩
    · exact ⟨_, ev, new⟩
    · obtain ⟨w, e1, e2⟩ := h.slot j t e' nj
      refine ⟨w, e1, ?_⟩
      cases t with
      | emp => trivial
      | val d => exact e2
      | root => exact e2
      | own ds =>
        obtain ⟨b, vs, rfl, h1, h2, h3, h4, h5⟩ := e2
        have hb : b ≠ a := fun z => by subst z; exact h.apart j i _ _ _ hk e' e rfl os e1 ev
        exact ⟨b, vs, rfl, by rw [upd_ne hb]; exact h1, h2, h3, h4, h5⟩
      | ownT ds =>
        obtain ⟨b, vs, rfl, h1, h2, h3, h4, h5⟩ := e2
        have hb : b ≠ a := fun z => by subst z; exact h.apart j i _ _ _ hk e' e rfl os e1 ev
        exact ⟨b, vs, rfl, by rw [upd_ne hb]; exact h1, h2, h3, h4, h5⟩
  · -- apart
    rcases get_set e1 with ⟨rfl, _, rfl⟩ | ⟨hj, e1'⟩
    · rcases get_set e2 with ⟨rfl, _, rfl⟩ | ⟨hk, e2'⟩
      · exact hjk rfl
      · exact h.apart j k s u w hjk e e2' os o2 z1 z2
    · rcases get_set e2 with ⟨rfl, _, rfl⟩ | ⟨hk, e2'⟩
      · exact h.apart j k t s w hjk e1' e o1 os z1 z2
      · exact h.apart j k t u w hjk e1' e2' o1 o2 z1 z2
end

section
variable {X : Cx} {R : Type} [Fam R] {L : LX} {pos : Pos} {a b e : Expr} {es : List Expr} {fa fb fe : M R Slot}
/-- the list that slot i owns -/
def ownOf : Option Slot → Option (List D)
  | some (.own ds) => some ds
  | _ => none
theorem ownOf_some {o : Option Slot} {ds : List D} (h : ownOf o = some ds) : o = some (.own ds) := by
  unfold ownOf at h
  split at h
  · cases h; rfl
  · cases h
/-- xs.append(e), xs a slot's own list -/
def vApp (i : Nat) (fe : M R Slot) : M R Slot := fun ρ0 r0 => match ownOf ρ0[i]? with
  | none => .stuck
  | some _ => (bnd (toD fe) fun d => fun ρ r => match ownOf ρ[i]? with
    | none => .stuck
    | some ds => if ds.length < 1000000 then .ok (.val .none) (ρ.set i (.own (ds ++ [d]))) r else .stuck) ρ0 r0
theorem ve_app {i : Nat} {x : Str} {p apos cpos : Pos} (hK : X.K = L.K) (hN : X.N[i]? = some x) (hv : Vis X.env.scope x) (he : PE X e (lift L fe)) (hd : (x == ("__debug__" : Str)) = false := by decide) (hcd : (x == ("__classdict__" : Str)) = false := by decide)
    (hst : starEach [e] X.env = (false, eval e X.env) :: starEach [] X.env := by rfl)
    (hbase : attributeBase (.Name x p) "append" X.env (eval (.Name x p) X.env) = eval (.Name x p) X.env := by rfl)
    (hfew : ((backTo cpos (starEach [e] X.env)).all (fun x => !x.1) && (backToKw cpos (keywordEach [] X.env)).all (fun x => x.1.isSome)
      && decide ([e].length + ([] : List Keyword).length + (if ([] : List Keyword).isEmpty then 0 else 1) < 30)) = true := by rfl)
    (hline : (apos.endLine == cpos.line) = true := by rfl) (hplain : (backTo cpos (starEach [] X.env)).any (·.1) = false := by rfl) :
    PE X (.Call (.Attribute (.Name x p) "append" apos) [e] [] cpos) (lift L (vApp i fe)) :=
  peImp (pe_bm PySem.F.plainAttrs_list PySem.F.slot_list_append PySem.F.type_list_append mt_append (pe_var hN hv hd hcd) (pa_cons (useD he) pa_nil hst) hbase hfew hline hst hplain) fun σ H Q ⟨C, F, ρ, r, hR, g0⟩ => by
    unfold vApp at g0
    cases z0 : ownOf ρ[i]? with
    | none => rw [z0] at g0; exact g0.elim
    | some ds0 =>
      rw [z0] at g0
      obtain ⟨v, ev, ad, vs0, rfl, a1, a2, a3, a4, a5⟩ := hR.slot i _ (ownOf_some z0) (fun z => nomatch z)
      refine ⟨.ref ad, ev, .inl ⟨rfl, vs0, .inl (.inl a1)⟩, C, F, ρ, r, hR, (Good.bnd g0).imp fun d ρ1 r1 F1 H1 R1 S1 g1 y dy => ?_⟩
      cases z1 : ownOf ρ1[i]? with
      | none => rw [z1] at g1; exact g1.elim
      | some ds =>
        rw [z1] at g1
        dsimp only at g1
        obtain ⟨v, ev', ad', vs, rfl, b1, b2, b3, b4, b5⟩ := R1.slot i _ (ownOf_some z1) (fun z => nomatch z)
        rw [ev] at ev'
        cases ev'
        by_cases hl : ds.length < 1000000
        · rw [if_pos hl] at g1
          have hl' : vs.length < sizeLine := by rw [dpAll_len b5, sizeLine_eq]; omega
          refine ⟨ad, vs, y, rfl, rfl, b1, hl', ?_⟩
          have R2 := R1.change (s' := .own (ds ++ [d])) (o := .lst (vs ++ [y])) (ownOf_some z1) rfl ev b2 b3 b4 ⟨ad, _, rfl, upd_same, b2, b3, b4, dpAll_app b5 (.cons dy .nil)⟩
          exact g1 F1 _ R2 (Same.refl _) .non ⟨.non, fun z => nomatch z⟩
        · rw [if_neg hl] at g1; exact g1.elim
/-- xs.pop() -/
def vPop (i : Nat) : M R Slot := fun ρ r => match ownOf ρ[i]? with
  | none => .stuck
  | some ds => match ds[ds.length - 1]? with
    | none => .stuck
    | some d => .ok (.val d) (ρ.set i (.own ds.dropLast)) r
theorem dpAll_dropLast {K : PySem.W.Frag} {F : Hp} {vs : List V} {ds : List D} (h : DnAll K F vs ds) : DnAll K F vs.dropLast ds.dropLast := by
  rw [List.dropLast_eq_take, List.dropLast_eq_take, dpAll_len h]
  exact dpAll_take _ h
theorem ve_pop {i : Nat} {x : Str} {p apos cpos : Pos} (hN : X.N[i]? = some x) (hv : Vis X.env.scope x) (hd : (x == ("__debug__" : Str)) = false := by decide) (hcd : (x == ("__classdict__" : Str)) = false := by decide)
    (hbase : attributeBase (.Name x p) "pop" X.env (eval (.Name x p) X.env) = eval (.Name x p) X.env := by rfl) (hline : (apos.endLine == cpos.line) = true := by rfl) :
    PE X (.Call (.Attribute (.Name x p) "pop" apos) [] [] cpos) (lift L (vPop i : M R Slot)) :=
  peImp (pe_bm0 PySem.F.plainAttrs_list PySem.F.slot_list_pop PySem.F.type_list_pop mt_pop (pe_var hN hv hd hcd) hbase hline) fun σ H Q ⟨C, F, ρ, r, hR, g0⟩ => by
    unfold vPop at g0
    cases z0 : ownOf ρ[i]? with
    | none => rw [z0] at g0; exact g0.elim
    | some ds =>
      rw [z0] at g0
      obtain ⟨v, ev, ad, vs, rfl, a1, a2, a3, a4, a5⟩ := hR.slot i _ (ownOf_some z0) (fun z => nomatch z)
      cases z1 : ds[ds.length - 1]? with
      | none => simp only [z1] at g0; exact g0.elim
      | some d =>
        simp only [z1] at g0
        obtain ⟨y, e1, e2⟩ := dpAll_get a5 z1
        refine ⟨.ref ad, ev, .inl ⟨rfl, vs, .inl (.inl a1)⟩, ad, vs, y, rfl, rfl, a1, by rw [dpAll_len a5]; exact e1, ?_⟩
        have R2 := hR.change (s' := .own ds.dropLast) (o := .lst vs.dropLast) (ownOf_some z0) rfl ev a2 a3 a4 ⟨ad, _, rfl, upd_same, a2, a3, a4, dpAll_dropLast a5⟩
        exact g0 F _ R2 (Same.refl _) y ⟨e2, fun z => nomatch z⟩
/-- xs[e], xs a name: its own list stays its own -/
def slotD : Option Slot → Option D
  | some (.val d) => some d
  | some (.own ds) => some (.list ds)
  | _ => none
theorem slotD_at {K : PySem.W.Frag} {C : Ctx R} {F H : Hp} {σ : St} {ρ : List Slot} {r : R} {i : Nat} {d : D} (h : Rel K C F σ H ρ r) (e : slotD ρ[i]? = some d) : ∃ v, σ[i]? = some (some v) ∧ Same F H ∧
    ((∃ ds a vs, d = .list ds ∧ v = .ref a ∧ H a = some (.lst vs) ∧ DnAll K F vs ds) ∨ Dn K F v d) := by
  unfold slotD at e
  split at e
  · rename_i d' ed
    cases e
    obtain ⟨v, e1, e2⟩ := h.slot i _ ed (fun z => nomatch z)
    exact ⟨v, e1, h.hel.fH, .inr e2⟩
  · rename_i ds ed
    cases e
    obtain ⟨v, e1, a, vs, rfl, h1, _, _, _, h5⟩ := h.slot i _ ed (fun z => nomatch z)
    exact ⟨_, e1, h.hel.fH, .inl ⟨ds, a, vs, rfl, rfl, h1, h5⟩⟩
  · cases e
def vIxV (i : Nat) (fb : M R Slot) : M R Slot := fun ρ0 r0 => match slotD ρ0[i]? with
  | none => .stuck
  | some _ => (bnd (toD fb) fun e => fun ρ r => match slotD ρ[i]? with
    | none => .stuck
    | some d => ofO (gIx d e) ρ r) ρ0 r0
/-- an item of what a slot holds -/
theorem ix_slot {K : PySem.W.Frag} {F H : Hp} {v y : V} {d e : D} {s : Slot} {Q : VK} (hF : Same F H) (hv : (∃ ds a vs, d = .list ds ∧ v = .ref a ∧ H a = some (.lst vs) ∧ DnAll K F vs ds) ∨ Dn K F v d) (dy : Dn K F y e) (e1 : gIx d e = some s)
    (q : ∀ v F' H', Ext F H F' H' → NewOk K F' H H' v s → Q v H') : rIx K v y H Q := by
  cases e with
  | int j =>
    cases dp_int dy
    rcases hv with ⟨ds, a, vs, rfl, rfl, h1, h2⟩ | hv
    · have hg : (atI ds j).map Slot.val = some s := e1
      cases z : atI ds j with
      | none => rw [z] at hg; cases hg
      | some d =>
        rw [z] at hg
        cases hg
        obtain ⟨w, w1, w2⟩ := atI_dn h2 z
        exact .inl ⟨a, vs, j, w, rfl, rfl, .inl (.inl h1), w1, q_val hF q rfl w2⟩
    · cases d with
      | tuple xs =>
        obtain ⟨a, vs, rfl, t1, t2⟩ := dp_tup hv
        have hg : (atI xs j).map Slot.val = some s := e1
        cases z : atI xs j with
        | none => rw [z] at hg; cases hg
        | some d =>
          rw [z] at hg
          cases hg
          obtain ⟨w, w1, w2⟩ := atI_dn t2 z
          exact .inr (.inl ⟨a, vs, j, w, rfl, rfl, sameT hF t1, w1, q_val hF q rfl w2⟩)
      | list xs =>
        obtain ⟨a, vs, rfl, t1, t2⟩ := dp_lst hv
        have hg : (atI xs j).map Slot.val = some s := e1
        cases z : atI xs j with
        | none => rw [z] at hg; cases hg
        | some d =>
          rw [z] at hg
          cases hg
          obtain ⟨w, w1, w2⟩ := atI_dn t2 z
          exact .inl ⟨a, vs, j, w, rfl, rfl, .inl (sameL hF t1), w1, q_val hF q rfl w2⟩
      | str xs =>
        have hg : (if xs.length ≤ 1000000 then (atI xs.cps.toList j).map fun c => Slot.val (.str ⟨#[c]⟩) else none) = some s := e1
        by_cases hl : xs.length ≤ 1000000
        · rw [if_pos hl] at hg
          cases z : atI xs.cps.toList j with
          | none => rw [z] at hg; cases hg
          | some d =>
            rw [z] at hg
            cases hg
            exact .inr (.inr ⟨xs, j, d, dp_str hv, rfl, Nat.le_trans hl (by rw [sizeLine_eq]; decide), z, q_val hF q rfl (.str _)⟩)
        · rw [if_neg hl] at hg; cases hg
      | _ => cases e1
  | _ => cases d <;> cases e1
theorem ve_ixv {i : Nat} {x : Str} {p : Pos} (hK : X.K = L.K) (hN : X.N[i]? = some x) (hv : Vis X.env.scope x) (hb : PE X b (lift L fb)) (hs : PlainIx b) (hd : (x == ("__debug__" : Str)) = false := by decide) (hcd : (x == ("__classdict__" : Str)) = false := by decide) :
    PE X (.Subscript (.Name x p) b pos) (lift L (vIxV i fb)) :=
  peImp (pe_ix ix_seq (pe_var hN hv hd hcd) (useD hb) hs) fun σ H Q ⟨C, F, ρ, r, hR, g0⟩ => by
    unfold vIxV at g0
    cases z0 : slotD ρ[i]? with
    | none => rw [z0] at g0; exact g0.elim
    | some d0 =>
      rw [z0] at g0
      obtain ⟨v, ev, _⟩ := slotD_at hR z0
      refine ⟨v, ev, C, F, ρ, r, hR, (Good.bnd g0).imp fun e ρ1 r1 F1 H1 R1 S1 g1 y dy => ?_⟩
      cases z1 : slotD ρ1[i]? with
      | none => rw [z1] at g1; exact g1.elim
      | some d =>
        rw [z1] at g1
        dsimp only at g1
        obtain ⟨w, ev', hF, hw⟩ := slotD_at R1 z1
        rw [ev] at ev'
        cases ev'
        obtain ⟨s, e1, q⟩ := fin_of R1 g1
        rw [hK]
        exact ix_slot hF hw dy e1 q
/-- len(xs), xs a name -/
def vLenV (i : Nat) : M R Slot := fun ρ r => match slotD ρ[i]? with
  | none => .stuck
  | some d => ofO (gLen [d]) ρ r
theorem ve_lenv {i : Nat} {x : Str} {p pn : Pos} (hK : X.K = L.K) (hN : X.N[i]? = some x) (hv : Vis X.env.scope x) (hg : Gl X "len") (hm : X.mg "len" = none) (hd : (x == ("__debug__" : Str)) = false := by decide) (hcd : (x == ("__classdict__" : Str)) = false := by decide)
    (hst : starEach [Expr.Name x p] X.env = (false, eval (.Name x p) X.env) :: starEach [] X.env := by rfl) (hpl : (backTo pos (starEach [] X.env)).any (·.1) = false := by rfl) :
    PE X (.Call (.Name "len" pn) [.Name x p] [] pos) (lift L (vLenV i : M R Slot)) :=
  peImp (pe_callB (call_len_seq.or call_len_str) hg hm PySem.boot_len (pa_cons (pe_var hN hv hd hcd) pa_nil hst) (by decide) (by decide) hst hpl) fun σ H Q ⟨C, F, ρ, r, hR, g0⟩ => by
    unfold vLenV at g0
    cases z0 : slotD ρ[i]? with
    | none => rw [z0] at g0; exact g0.elim
    | some d =>
      rw [z0] at g0
      dsimp only at g0
      obtain ⟨v, ev, hF, hw⟩ := slotD_at hR z0
      obtain ⟨s, e1, q⟩ := fin_of hR g0
      refine ⟨v, ev, ?_⟩
      rcases hw with ⟨ds, a, vs, rfl, rfl, h1, h2⟩ | hw
      · cases e1
        exact .inl ⟨a, vs, rfl, .inl (.inl (.inl h1)), by rw [dpAll_len h2]; exact q_val hF q rfl (.int _)⟩
      · cases d with
        | tuple xs =>
          cases e1
          obtain ⟨a, vs, rfl, t1, t2⟩ := dp_tup hw
          exact .inl ⟨a, vs, rfl, .inr (by rw [hK]; exact sameT hF t1), by rw [dpAll_len t2]; exact q_val hF q rfl (.int _)⟩
        | list xs =>
          cases e1
          obtain ⟨a, vs, rfl, t1, t2⟩ := dp_lst hw
          exact .inl ⟨a, vs, rfl, .inl (.inl (sameL hF t1)), by rw [dpAll_len t2]; exact q_val hF q rfl (.int _)⟩
        | str xs =>
          obtain ⟨n1, rfl, _⟩ := small_some e1
          exact .inr ⟨xs, by rw [dp_str hw], n1, q_val hF q rfl (.int _)⟩
        | _ => cases e1
/-- truth of a datum -/
def truD : D → Option Bool
  | .none => some false
  | .bool b => some b
  | .int i => some (i != 0)
  | .str x => small x.length ((x.length : Int) != 0)
  | .tuple xs => some (!xs.isEmpty)
  | .list xs => some (!xs.isEmpty)
  | .dict _ => none
theorem isEmpty_dn {K : PySem.W.Frag} {F : Hp} {vs : List V} {ds : List D} (h : DnAll K F vs ds) : vs.isEmpty = ds.isEmpty := by cases h <;> rfl
theorem truD_ok {K : PySem.W.Frag} {F H : Hp} {v : V} {d : D} {k : Bool} (hF : Same F H) (hv : (∃ ds a vs, d = .list ds ∧ v = .ref a ∧ H a = some (.lst vs) ∧ DnAll K F vs ds) ∨ Dn K F v d) (e : truD d = some k) : TruV K v H k := by
  rcases hv with ⟨ds, a, vs, rfl, rfl, h1, h2⟩ | hw
  · cases e
    exact .inl ⟨vs, .inl (.inl h1), by rw [isEmpty_dn h2]⟩
  · cases d with
    | none => cases e; rw [dp_none hw]; rfl
    | bool b => cases e; rw [dp_bool hw]; rfl
    | int b => cases e; rw [dp_int hw]; rfl
    | str x =>
      obtain ⟨n1, rfl, _⟩ := small_some e
      rw [dp_str hw]
      exact ⟨n1, rfl⟩
    | tuple xs =>
      cases e
      obtain ⟨a, vs, rfl, t1, t2⟩ := dp_tup hw
      exact .inr (.inl ⟨vs, sameT hF t1, by rw [isEmpty_dn t2]⟩)
    | list xs =>
      cases e
      obtain ⟨a, vs, rfl, t1, t2⟩ := dp_lst hw
      exact .inl ⟨vs, .inl (sameL hF t1), by rw [isEmpty_dn t2]⟩
    | dict _ => cases e
def tTruV (i : Nat) : M R Bool := fun ρ r => match slotD ρ[i]? with
  | none => .stuck
  | some d => ofO (truD d) ρ r
theorem vt_truv {i : Nat} {x : Str} {p : Pos} (hK : X.K = L.K) (hN : X.N[i]? = some x) (hv : Vis X.env.scope x) (hd : (x == ("__debug__" : Str)) = false := by decide) (hcd : (x == ("__classdict__" : Str)) = false := by decide) : PT X (.Name x p) (liftT L (tTruV i : M R Bool)) :=
  ptImp (pt_truth (pe_var hN hv hd hcd) (by intro _; rfl)) fun σ H Q ⟨C, F, ρ, r, hR, g0⟩ => by
    unfold tTruV at g0
    cases z0 : slotD ρ[i]? with
    | none => rw [z0] at g0; exact g0.elim
    | some d =>
      rw [z0] at g0
      dsimp only at g0
      obtain ⟨v, ev, hF, hw⟩ := slotD_at hR z0
      cases z1 : truD d with
      | none => rw [z1] at g0; exact g0.elim
      | some k =>
        rw [z1] at g0
        refine ⟨v, ev, k, ?_, g0 F H hR (Same.refl _)⟩
        rw [hK]
        exact truD_ok hF hw z1
def tTru (f : M R Slot) : M R Bool := bnd (toD f) fun d => ofO (truD d)
theorem vt_tru (hK : X.K = L.K) (ha : PE X a (lift L fa)) (he : ∀ whole, isTrue a X.env whole = (do let v ← whole; standAt a.pos; holding [v] (truthy v)) := by intro _; rfl) : PT X a (liftT L (tTru fa)) :=
  ptImp (pt_truth (useD ha) he) fun σ H Q ⟨C, F, ρ, r, hR, g0⟩ => ⟨C, F, ρ, r, hR, (Good.bnd g0).imp fun d ρ1 r1 F1 H1 R1 S1 g1 v dv => by
    cases z1 : truD d with
    | none => rw [z1] at g1; exact g1.elim
    | some k =>
      rw [z1] at g1
      exact ⟨k, by rw [hK]; exact truD_ok R1.hel.fH (.inr dv) z1, g1 F1 H1 R1 (Same.refl _)⟩⟩
/-- xs[i] = e, xs a slot's own list -/
def sSetIx (i : Nat) (fi fe : M R Slot) : MS R := thenS (toD fe) fun d => fun ρ0 r0 => match ownOf ρ0[i]? with
  | none => .stuck
  | some _ => (thenS (toD fi) fun e => fun ρ r => match ownOf ρ[i]?, e with
    | some ds, .int k => (match ixN ds.length k with
      | some j => .nx (ρ.set i (.own (ds.set j d))) r
      | none => .stuck)
    | _, _ => .stuck) ρ0 r0
theorem vs_setIx {i : Nat} {x : Str} {p tpos : Pos} {fi : M R Slot} (hN : X.N[i]? = some x) (hv : Vis X.env.scope x) (he : PE X e (lift L fe)) (hb : PE X b (lift L fi)) (hd : (x == ("__debug__" : Str)) = false := by decide) (hcd : (x == ("__classdict__" : Str)) = false := by decide)
    (ha : ∀ v, assign (.Subscript (.Name x p) b tpos) X.env v = (do
      let ov ← holding [v] (eval (.Name x p) X.env)
      let iv ← holding [v, ov] (eval b X.env)
      standAt tpos
      holding [v, ov, iv] (setItem ov iv v)
      release [v, ov, iv] []) := by intro _; rfl)
    (hs : swapsWithSole [.Subscript (.Name x p) b tpos] e pos.line X.env = pure false := by rfl) (hw : swappedStores [.Subscript (.Name x p) b tpos] e X.env = pure none := by rfl)
    (h1 : (assignEach [Expr.Subscript (.Name x p) b tpos] X.env).map (·.2) = [assign (.Subscript (.Name x p) b tpos) X.env] := by rfl) :
    PS X (.Assign [.Subscript (.Name x p) b tpos] e pos) (liftS L (sSetIx i fi fe)) :=
  psImp (ps_asg (useD he) (pg_sub (pe_var hN hv hd hcd) (useD hb) set_list ha) hs hw h1) fun D σ H ⟨C, F, ρ, r, hR, g0⟩ =>
  ⟨C, F, ρ, r, hR, (GoodS.thenS g0).imp fun d ρ1 r1 F1 H1 R1 S1 g1 y dy => by
    cases z0 : ownOf ρ1[i]? with
    | none => rw [z0] at g1; exact g1.elim
    | some ds0 =>
      rw [z0] at g1
      dsimp only at g1
      obtain ⟨v, ev, ad, vs0, rfl, a1, a2, a3, a4, a5⟩ := R1.slot i _ (ownOf_some z0) (fun z => nomatch z)
      refine ⟨.ref ad, ev, C, F1, ρ1, r1, R1, (GoodS.thenS g1).imp fun e' ρ2 r2 F2 H2 R2 S2 g2 w dw => ?_⟩
      split at g2
      · rename_i ds k z1
        obtain ⟨v, ev', ad', vs, rfl, b1, b2, b3, b4, b5⟩ := R2.slot i _ (ownOf_some z1) (fun z => nomatch z)
        rw [ev] at ev'
        cases ev'
        cases z2 : ixN ds.length k with
        | none => rw [z2] at g2; exact g2.elim
        | some j =>
          rw [z2] at g2
          dsimp only at g2
          have R3 := R2.change (s' := .own (ds.set j d)) (o := .lst (vs.set j y)) (ownOf_some z1) rfl ev b2 b3 b4 ⟨ad, _, rfl, upd_same, b2, b3, b4, dpAll_set (dpS S2 d dy) j b5⟩
          exact ⟨ad, vs, k, j, rfl, dp_int dw, b1, by rw [dpAll_len b5]; exact z2, g2 σ F2 _ R3 (Same.refl _)⟩
      · exact g2.elim⟩
end
end L2.VL

/-! VL5: loops and comprehensions. -/
namespace L2.VL
open PySem PySem.Spec PyProof.Rows

/-! ### what is walked -/
/-- J yields the data ds, one by one, from the frozen heap F on, while what is held aside (gh) stands -/
structure Walks (K : PySem.W.Frag) (gh : Hp) (J : It) (F : Hp) (ds : List D) : Prop where
  go : ∀ (i : Nat) (d : D) (F1 H1 : Hp), ds[i]? = some d → Same F F1 → Same F1 H1 → Same gh H1 → J.go i H1 ∧ ∀ x H2, J.yld i H1 x H2 → ∃ F2, Ext F1 H1 F2 H2 ∧ Dn K F2 x d
  stop : ∀ (i : Nat) (F1 H1 : Hp), ds.length ≤ i → Same F F1 → Same F1 H1 → Same gh H1 → J.stop i H1
def liftI {R : Type} [Fam R] (L : LX) (f : M R (List D)) : TI := fun σ H Rr => ∃ (C : Ctx R) (F : Hp) (ρ : List Slot) (r : R), Rel L.K C F σ H ρ r ∧ Good L C σ F (f ρ r) fun ds ρ' r' F' _ => ∀ J H' g, Same C.gh g → Rel L.K (C.gho g) F' σ H' ρ' r' → Walks L.K g J F' ds → Rr J H'
theorem piImp {X : Cx} {tg e : Expr} {t t' : TI} (h : PI X tg e t) (w : ∀ σ H R, t' σ H R → t σ H R) : PI X tg e t' := ⟨fun pins s σ H R I q => h.run pins s σ H R I (w _ _ _ q)⟩
theorem piOr {X : Cx} {tg e : Expr} {t u : TI} (h : PI X tg e t) (h' : PI X tg e u) : PI X tg e (fun σ H R => t σ H R ∨ u σ H R) := ⟨fun pins s σ H R I q => by
  rcases q with q | q
  · exact h.run pins s σ H R I q
  · exact h'.run pins s σ H R I q⟩
theorem walks_lst {K : PySem.W.Frag} {gh F : Hp} {a : Addr} {vs : List V} {ds : List D} (h : Rd F a (.lst vs)) (t : DnAll K F vs ds) : Walks K gh (Itl K a) F ds where
  go := fun i d F1 H1 e s1 s2 _ => by
    obtain ⟨v, e1, e2⟩ := dpAll_get t e
    have hq : SqL K H1 a vs := .inl (sameL s2 (sameL s1 h))
    refine ⟨⟨vs, v, hq, e1⟩, fun x H2 y => ?_⟩
    obtain ⟨rfl, y⟩ := y
    have : v = x := Option.some.inj (e1.symm.trans (y vs hq))
    subst this
    exact ⟨F1, Ext.refl s2, dpS s1 d e2⟩
  stop := fun i F1 H1 hl s1 s2 _ => ⟨vs, .inl (sameL s2 (sameL s1 h)), by rw [dpAll_len t]; exact hl⟩
theorem walks_tup {K : PySem.W.Frag} {gh F : Hp} {a : Addr} {vs : List V} {ds : List D} (h : SqT K F a vs) (t : DnAll K F vs ds) : Walks K gh (Itt K a) F ds where
  go := fun i d F1 H1 e s1 s2 _ => by
    obtain ⟨v, e1, e2⟩ := dpAll_get t e
    have hq : SqT K H1 a vs := sameT s2 (sameT s1 h)
    refine ⟨⟨vs, v, hq, e1⟩, fun x H2 y => ?_⟩
    obtain ⟨rfl, y⟩ := y
    have : v = x := Option.some.inj (e1.symm.trans (y vs hq))
    subst this
    exact ⟨F1, Ext.refl s2, dpS s1 d e2⟩
  stop := fun i F1 H1 hl s1 s2 _ => ⟨vs, sameT s2 (sameT s1 h), by rw [dpAll_len t]; exact hl⟩
def rangeD (lo : Int) (n : Nat) : List D := (List.range n).map fun (i : Nat) => .int (lo + (i : Int))
theorem rangeD_len (lo : Int) (n : Nat) : (rangeD lo n).length = n := by unfold rangeD; rw [List.length_map, List.length_range]
theorem rangeD_get {lo : Int} {n i : Nat} {d : D} (h : (rangeD lo n)[i]? = some d) : i < n ∧ d = .int (lo + (i : Int)) := by
  have hl := lt_of_get h
  rw [rangeD_len] at hl
  unfold rangeD at h
  rw [List.getElem?_map, List.getElem?_range hl] at h
  exact ⟨hl, (Option.some.inj h).symm⟩
theorem walks_rng {K : PySem.W.Frag} {gh F : Hp} {lo : Int} {n : Nat} : Walks K gh (Itr lo n) F (rangeD lo n) where
  go := fun i d F1 H1 e s1 s2 _ => by
    obtain ⟨hl, rfl⟩ := rangeD_get e
    refine ⟨hl, fun x H2 y => ?_⟩
    obtain ⟨rfl, rfl⟩ := y
    exact ⟨F1, Ext.refl s2, .int _⟩
  stop := fun i F1 H1 hl s1 s2 _ => by rw [rangeD_len] at hl; exact hl
def strsD (x : Str) : List D := x.cps.toList.map fun c => .str ⟨#[c]⟩
theorem walks_str {K : PySem.W.Frag} {gh F : Hp} {x : Str} : Walks K gh (Its x) F (strsD x) where
  go := fun i d F1 H1 e s1 s2 _ => by
    have hl := lt_of_get e
    unfold strsD at hl e
    rw [List.length_map, Array.length_toList] at hl
    rw [List.getElem?_map, Array.getElem?_toList] at e
    refine ⟨hl, fun y H2 q => ?_⟩
    obtain ⟨rfl, c, e1, rfl⟩ := q
    rw [e1] at e
    cases e
    exact ⟨F1, Ext.refl s2, .str _⟩
  stop := fun i F1 H1 hl s1 s2 _ => by
    unfold strsD at hl
    rw [List.length_map, Array.length_toList] at hl
    exact hl

section
variable {X : Cx} {R : Type} [Fam R] {L : LX} {pos : Pos} {a b c e tg : Expr} {es : List Expr} {fa fb fe : M R Slot} {fs : M R (List D)}
def seqOf : D → Option (List D)
  | .tuple ds => some ds
  | .list ds => some ds
  | .str x => some (strsD x)
  | _ => none
def iSeq (f : M R Slot) : M R (List D) := bnd (toD f) fun d => ofO (seqOf d)
theorem Good.det {α : Type} {C : Ctx R} {σ : St} {F : Hp} {x : Res R α} {P Q : α → List Slot → R → Hp → Hp → Prop} (h : Good L C σ F x P) (q : ∀ a ρ r, x = .ok a ρ r → ∀ F' H', Rel L.K C F' σ H' ρ r → Same F F' → P a ρ r F' H' → Q a ρ r F' H') : Good L C σ F x Q := by
  cases x with
  | stuck => exact h
  | ok a ρ r => exact fun F' H' u v => q _ _ _ rfl _ _ u v (h F' H' u v)
  | exc c d ρ r => exact h
theorem vi_seq (hK : X.K = L.K) (ha : PE X a (lift L fa)) : PI X tg a (liftI L (iSeq fa)) :=
  piImp (piOr (pi_list (useD ha)) (piOr (pi_tup (useD ha)) (pi_str (useD ha)))) fun σ H Rr ⟨C, F, ρ, r, hR, g0⟩ => by
    have g1 := Good.bnd g0
    cases z : toD fa ρ r with
    | stuck => rw [z] at g1; exact g1.elim
    | exc c d ρ' r' => rw [z] at g1; exact .inl ⟨C, F, ρ, r, hR, by rw [z]; exact g1⟩
    | ok d ρ1 r1 =>
      cases d with
      | list ds =>
        refine .inl ⟨C, F, ρ, r, hR, g1.det fun d' ρ' r' e F1 H1 R1 S1 g2 v dv => ?_⟩
        rw [z] at e
        cases e
        obtain ⟨ad, vs, rfl, t1, t2⟩ := dp_lst dv
        refine ⟨ad, rfl, ⟨vs, .inl (sameL R1.hel.fH t1)⟩, ?_⟩
        rw [hK]
        exact g2 F1 H1 R1 (Same.refl _) _ H1 C.gh (Same.refl _) R1 (walks_lst t1 t2)
      | tuple ds =>
        refine .inr (.inl ⟨C, F, ρ, r, hR, g1.det fun d' ρ' r' e F1 H1 R1 S1 g2 v dv => ?_⟩)
        rw [z] at e
        cases e
        obtain ⟨ad, vs, rfl, t1, t2⟩ := dp_tup dv
        refine ⟨ad, rfl, ⟨vs, by rw [hK]; exact sameT R1.hel.fH t1⟩, ?_⟩
        rw [hK]
        exact g2 F1 H1 R1 (Same.refl _) _ H1 C.gh (Same.refl _) R1 (walks_tup t1 t2)
      | str x =>
        refine .inr (.inr ⟨C, F, ρ, r, hR, g1.det fun d' ρ' r' e F1 H1 R1 S1 g2 v dv => ?_⟩)
        rw [z] at e
        cases e
        exact ⟨x, dp_str dv, g2 F1 H1 R1 (Same.refl _) _ H1 C.gh (Same.refl _) R1 walks_str⟩
      | none => exact .inl ⟨C, F, ρ, r, hR, g1.det fun d' ρ' r' e F1 H1 R1 S1 g2 v dv => by rw [z] at e; cases e; exact g2.elim⟩
      | bool _ => exact .inl ⟨C, F, ρ, r, hR, g1.det fun d' ρ' r' e F1 H1 R1 S1 g2 v dv => by rw [z] at e; cases e; exact g2.elim⟩
      | int _ => exact .inl ⟨C, F, ρ, r, hR, g1.det fun d' ρ' r' e F1 H1 R1 S1 g2 v dv => by rw [z] at e; cases e; exact g2.elim⟩
      | dict _ => exact .inl ⟨C, F, ρ, r, hR, g1.det fun d' ρ' r' e F1 H1 R1 S1 g2 v dv => by rw [z] at e; cases e; exact g2.elim⟩
/-- ranges -/
def rg1 : List D → Option (List D)
  | [.int j] => if j.natAbs ≤ 1000000 then some (rangeD 0 j.toNat) else none
  | _ => none
def rg2 : List D → Option (List D)
  | [.int i, .int j] => if i.natAbs ≤ 1000000 ∧ j.natAbs ≤ 1000000 then some (rangeD i (j - i).toNat) else none
  | _ => none
def iRg (g : List D → Option (List D)) (fs : M R (List D)) : M R (List D) := bnd fs fun ds => ofO (g ds)
theorem vi_range1 {p : Pos} (hg : Gl X "range") (hm : X.mg "range" = none) (ha : PA X [a] (liftA L fs)) (hs : starEach [a] X.env = [(false, eval a X.env)] := by rfl) : PI X tg (.Call (.Name "range" p) [a] [] pos) (liftI L (iRg rg1 fs)) :=
  piImp (pi_range1 hg hm ha hs) fun σ H Rr ⟨C, F, ρ, r, hR, g0⟩ => ⟨C, F, ρ, r, hR, (Good.bnd g0).imp fun ds ρ1 r1 F1 H1 R1 S1 g1 vs dv => by
    cases z : rg1 ds with
    | none => rw [z] at g1; exact g1.elim
    | some xs =>
      rw [z] at g1
      unfold rg1 at z
      split at z
      · rename_i j
        by_cases hj : j.natAbs ≤ 1000000
        · rw [if_pos hj] at z
          cases z
          obtain ⟨v, rfl, hv⟩ := dn1 dv
          exact ⟨j, by rw [dp_int hv], by omega, by omega, g1 F1 H1 R1 (Same.refl _) _ H1 C.gh (Same.refl _) R1 walks_rng⟩
        · rw [if_neg hj] at z; cases z
      · cases z⟩
theorem vi_range2 {p : Pos} (hg : Gl X "range") (hm : X.mg "range" = none) (ha : PA X [a, b] (liftA L fs)) (hs : starEach [a, b] X.env = [(false, eval a X.env), (false, eval b X.env)] := by rfl) (hs2 : starEach [b] X.env = [(false, eval b X.env)] := by rfl) :
    PI X tg (.Call (.Name "range" p) [a, b] [] pos) (liftI L (iRg rg2 fs)) :=
  piImp (pi_range2 hg hm ha hs hs2) fun σ H Rr ⟨C, F, ρ, r, hR, g0⟩ => ⟨C, F, ρ, r, hR, (Good.bnd g0).imp fun ds ρ1 r1 F1 H1 R1 S1 g1 vs dv => by
    cases z : rg2 ds with
    | none => rw [z] at g1; exact g1.elim
    | some xs =>
      rw [z] at g1
      unfold rg2 at z
      split at z
      · rename_i i j
        by_cases hj : i.natAbs ≤ 1000000 ∧ j.natAbs ≤ 1000000
        · rw [if_pos hj] at z
          cases z
          obtain ⟨v, w, rfl, hv, hw⟩ := dn2 dv
          exact ⟨i, j, by rw [dp_int hv, dp_int hw], ⟨by omega, by omega, by omega, by omega⟩, g1 F1 H1 R1 (Same.refl _) _ H1 C.gh (Same.refl _) R1 walks_rng⟩
        · rw [if_neg hj] at z; cases z
      · cases z⟩

/-! ### for -/
def wipeS (js : List Nat) (ρ : List Slot) : List Slot := js.foldl (fun ρ j => ρ.set j .emp) ρ
theorem wipeS_len : ∀ (js : List Nat) (ρ : List Slot), (wipeS js ρ).length = ρ.length
  | [], _ => rfl
  | j :: js, ρ => by
    show (wipeS js (ρ.set j .emp)).length = ρ.length
    rw [wipeS_len js, List.length_set]
theorem wipeS_get : ∀ (js : List Nat) (ρ : List Slot) (i : Nat) (s : Slot), (wipeS js ρ)[i]? = some s → s ≠ .emp → ρ[i]? = some s ∧ i ∉ js
  | [], _, _, _, h, _ => ⟨h, List.not_mem_nil⟩
  | j :: js, ρ, i, s, h, n => by
    obtain ⟨h1, h2⟩ := wipeS_get js (ρ.set j .emp) i s h n
    rcases get_set h1 with ⟨_, _, rfl⟩ | ⟨hk, e⟩
    · exact absurd rfl n
    · exact ⟨e, fun z => by
        rcases List.mem_cons.mp z with z | z
        · exact hk z
        · exact h2 z⟩
theorem Rel.wipe {K : PySem.W.Frag} {C : Ctx R} {F H : Hp} {σ : St} {ρ : List Slot} {r : R} (h : Rel K C F σ H ρ r) (js : List Nat) : Rel K C F σ H (wipeS js ρ) r :=
  h.weaken (wipeS_len js ρ) fun i s e n => (wipeS_get js ρ i s e n).1
def forL (js : List Nat) (t : D → List Slot → Option (List Slot)) (body : MS R) : List D → MS R
  | [] => fun ρ r => .nx (wipeS js ρ) r
  | d :: ds => fun ρ r => match t d (wipeS js ρ) with
    | none => .stuck
    | some ρ1 => match body ρ1 r with
      | .nx ρ2 r2 => forL js t body ds ρ2 r2
      | .ct ρ2 r2 => forL js t body ds ρ2 r2
      | .bk ρ2 r2 => .nx (wipeS js ρ2) r2
      | .rt s r2 => .rt s r2
      | .exc c d ρ2 r2 => .exc c d ρ2 r2
      | .stuck => .stuck
def sFor (js : List Nat) (it : M R (List D)) (t : D → List Slot → Option (List Slot)) (body : MS R) : MS R := thenS it fun ds => forL js t body ds
variable {body : MS R} {t : D → List Slot → Option (List Slot)} {it : M R (List D)} {xs ys : List Stmt}
theorem drop_cons {α : Type} {l : List α} {i : Nat} (h : i < l.length) : l.drop i = l[i] :: l.drop (i + 1) := List.drop_eq_getElem_cons h
theorem Rel.ghS {K : PySem.W.Frag} {C : Ctx R} {F H : Hp} {σ : St} {ρ : List Slot} {r : R} (h : Rel K C F σ H ρ r) : Same C.gh H := fun b o e => (h.hel.gh b o e).1
theorem vs_for (js : List Nat) {ks : List Nat} (hp : PassesOwn (model X.prog X.w) X.A X.env X.xe) (hc : X.calm = true) (hi : PI X tg e (liftI L it)) (hg : PG X tg (liftG R L.K ks t)) (hb : PSs X xs (liftS L body))
    (hs : ∀ x, foldedSetIterable e X.env x = pure x := by intro _; rfl) : PS X (.For tg e xs [] pos) (liftS L (sFor js it t body)) :=
  psImp (ps_for hp hc hi hg hb hs) fun E σ H ⟨C, F, ρ, r, hR, g0⟩ => ⟨C, F, ρ, r, hR, (GoodS.thenS g0).imp fun ds ρ1 r1 F1 H0 R0 S1 g1 J H1 g sg R1 w => by
    refine ⟨fun i m σ' H' => m = ds.length - i ∧ i ≤ ds.length ∧ ∃ F' ρ' r', Same F1 F' ∧ Rel L.K (C.gho g) F' σ' H' ρ' r' ∧ GoodS L C F' (forL js t body (ds.drop i) ρ' r') E, ⟨ds.length, by simp, Nat.zero_le _, F1, ρ1, r1, Same.refl _, R1, g1⟩, ?_⟩
    rintro i m σ' H' ⟨rfl, hi, F', ρ', r', S', R', g'⟩
    by_cases hlt : i < ds.length
    · rw [drop_cons hlt] at g'
      unfold forL at g'
      obtain ⟨w1, w2⟩ := w.go i ds[i] F' H' (List.getElem?_eq_getElem hlt) S' R'.hel.fH R'.ghS
      refine .inr ⟨w1, fun σ' H' => ∃ F' ρ' r', Same F1 F' ∧ Rel L.K (C.gho g) F' σ' H' ρ' r' ∧ GoodS L C F' (forL js t body (ds.drop (i + 1)) ρ' r') E, fun σ2 H2 h2 => ⟨ds.length - (i + 1), by omega, rfl, hlt, h2⟩, fun x H2 y => ?_⟩
      obtain ⟨F2, x2, d2⟩ := w2 x H2 y
      have S2 := S'.trans x2.ff
      have R2 := (R'.ext x2).wipe js
      cases z : t ds[i] (wipeS js ρ') with
      | none => rw [z] at g'; exact g'.elim
      | some ρ3 =>
        rw [z] at g'
        refine ⟨C.gho g, F2, wipeS js ρ', r', ds[i], ρ3, R2, d2, z, fun σ3 _ R3 => ⟨C.gho g, F2, ρ3, r', R3, ?_⟩⟩
        have g2 := GoodS.mono x2.ff g'
        dsimp only at g2
        cases zb : body ρ3 r' with
        | stuck => rw [zb] at g2; exact g2
        | nx ρ4 r4 => rw [zb] at g2; exact fun σ4 F4 H4 R4 S4 => ⟨F4, ρ4, r4, S2.trans S4, R4, GoodS.mono S4 g2⟩
        | ct ρ4 r4 => rw [zb] at g2; exact fun σ4 F4 H4 R4 S4 => ⟨F4, ρ4, r4, S2.trans S4, R4, GoodS.mono S4 g2⟩
        | bk ρ4 r4 => rw [zb] at g2; exact fun σ4 F4 H4 R4 S4 => g2 σ4 F4 H4 ((R4.less sg).wipe js) S4
        | rt s r4 => rw [zb] at g2; exact GoodS.less (x := .rt s r4) (E := { E with nx := fun _ _ => False, bk := fun _ _ => False, ct := fun _ _ => False }) sg g2
        | exc c d ρ4 r4 => rw [zb] at g2; exact GoodS.less (x := .exc c d ρ4 r4) (E := E) sg g2
    · have ei : i = ds.length := by omega
      subst ei
      rw [List.drop_length] at g'
      exact .inl ⟨w.stop _ F' H' (Nat.le_refl _) S' R'.hel.fH R'.ghS, g' σ' F' H' ((R'.less sg).wipe js) (Same.refl _)⟩⟩

/-! ### while -/
def whileL (js : List Nat) (t : M R Bool) (body : MS R) : Nat → MS R
  | 0 => fun _ _ => .stuck
  | n + 1 => fun ρ r => match t (wipeS js ρ) r with
    | .stuck => .stuck
    | .exc c d ρ1 r1 => .exc c d ρ1 r1
    | .ok b ρ1 r1 => if b = true then (match body ρ1 r1 with
        | .nx ρ2 r2 => whileL js t body n ρ2 r2
        | .ct ρ2 r2 => whileL js t body n ρ2 r2
        | .bk ρ2 r2 => .nx (wipeS js ρ2) r2
        | .rt s r2 => .rt s r2
        | .exc c d ρ2 r2 => .exc c d ρ2 r2
        | .stuck => .stuck) else .nx ρ1 r1
/-- with so many turns at most -/
def sWhile (js : List Nat) (n : Nat) (t : M R Bool) (body : MS R) : MS R := whileL js t body n
theorem vs_while (js : List Nat) (n : Nat) {tc : M R Bool} (hp : PassesOwn (model X.prog X.w) X.A X.env X.xe) (hc : PT X c (liftT L tc)) (hb : PSs X xs (liftS L body)) : PS X (.While c xs [] pos) (liftS L (sWhile js n tc body)) :=
  psImp (ps_while hp hc hb) fun E σ H ⟨C, F, ρ, r, hR, g0⟩ => by
    refine ⟨fun m σ' H' => ∃ F' ρ' r', Rel L.K C F' σ' H' ρ' r' ∧ GoodS L C F' (whileL js tc body m ρ' r') E, ⟨n, F, ρ, r, hR, g0⟩, ?_⟩
    rintro m σ' H' ⟨F', ρ', r', R', g'⟩
    cases m with
    | zero => exact g'.elim
    | succ m =>
      unfold whileL at g'
      refine ⟨C, F', wipeS js ρ', r', R'.wipe js, ?_⟩
      cases z : tc (wipeS js ρ') r' with
      | stuck => rw [z] at g'; exact g'
      | exc c d ρ1 r1 => rw [z] at g'; exact g'
      | ok b ρ1 r1 =>
        rw [z] at g'
        intro F1 H1 R1 S1
        cases b with
        | false => exact iteF (g' σ' F1 H1 R1 S1)
        | true =>
          refine iteT ⟨fun σ2 H2 => ∃ F' ρ' r', Rel L.K C F' σ2 H2 ρ' r' ∧ GoodS L C F' (whileL js tc body m ρ' r') E, fun σ2 H2 h2 => ⟨m, Nat.lt_succ_self m, h2⟩, C, F1, ρ1, r1, R1, ?_⟩
          have g2 := GoodS.mono S1 g'
          dsimp only at g2
          rw [if_pos rfl] at g2
          cases zb : body ρ1 r1 with
          | stuck => rw [zb] at g2; exact g2
          | nx ρ4 r4 => rw [zb] at g2; exact fun σ4 F4 H4 R4 S4 => ⟨F4, ρ4, r4, R4, GoodS.mono S4 g2⟩
          | ct ρ4 r4 => rw [zb] at g2; exact fun σ4 F4 H4 R4 S4 => ⟨F4, ρ4, r4, R4, GoodS.mono S4 g2⟩
          | bk ρ4 r4 => rw [zb] at g2; exact fun σ4 F4 H4 R4 S4 => g2 σ4 F4 H4 (R4.wipe js) S4
          | rt s r4 => rw [zb] at g2; exact g2
          | exc c d ρ4 r4 => rw [zb] at g2; exact g2

/-! ### [e for x in xs if t] -/
/-- one turn's answer -/
def lcL (vs : List Nat) (t : D → List Slot → Option (List Slot)) (tt : M R Bool) (te : M R Slot) : List D → List D → M R (List D)
  | [], acc => fun ρ r => .ok acc ρ r
  | d :: ds, acc => fun ρ r => match t d (wipeS vs ρ) with
    | none => .stuck
    | some ρ1 => (bnd tt fun b => if b = true then (bnd (toD te) fun y => fun ρ2 r2 => if acc.length < 1000000 then lcL vs t tt te ds (acc ++ [y]) ρ2 r2 else .stuck) else lcL vs t tt te ds acc) ρ1 r
/-- the slots of the block's names, as they were ahead of it -/
def backS (vs : List Nat) (ρ ρ' : List Slot) : List Slot := vs.foldl (fun l i => l.set i (match ρ[i]? with | some (.val d) => .val d | some .root => .root | _ => .emp)) ρ'
def vLc (vs : List Nat) (it : M R (List D)) (t : D → List Slot → Option (List Slot)) (tt : M R Bool) (te : M R Slot) : M R Slot := bnd it fun ds => fun ρ r => match lcL vs t tt te ds [] ρ r with
  | .ok acc ρ' r' => .ok (.own acc) (backS vs ρ ρ') r'
  | .stuck => .stuck
  | .exc c d ρ' r' => .stuck
theorem wipe_get : ∀ (vs : List Nat) (σ : St) (i : Nat), i ∉ vs → (wipe σ vs)[i]? = σ[i]?
  | [], _, _, _ => rfl
  | v :: vs, σ, i, h => by
    unfold wipe
    rw [List.getElem?_set_ne (fun z => h (by rw [z]; exact List.mem_cons_self)), wipe_get vs σ i fun z => h (List.mem_cons_of_mem _ z)]
theorem wipe_in : ∀ (vs : List Nat) (σ : St) (i : Nat), i ∈ vs → i < σ.length → (wipe σ vs)[i]? = some none
  | [], _, _, h, _ => absurd h List.not_mem_nil
  | v :: vs, σ, i, h, hl => by
    unfold wipe
    by_cases hv : v = i
    · subst hv; rw [List.getElem?_set_self (by rw [wipe_length]; exact hl)]
    · rw [List.getElem?_set_ne hv]
      rcases List.mem_cons.mp h with z | z
      · exact absurd z.symm hv
      · exact wipe_in vs σ i z hl
theorem wipe_eq {vs : List Nat} {σ σ' : St} (hl : σ'.length = σ.length) (h : ∀ j, j ∉ vs → σ'[j]? = σ[j]?) : wipe σ' vs = wipe σ vs := by
  apply List.ext_getElem?
  intro i
  by_cases hi : i ∈ vs
  · rcases Nat.lt_or_ge i σ.length with z | z
    · rw [wipe_in vs σ i hi z, wipe_in vs σ' i hi (by rw [hl]; exact z)]
    · rw [List.getElem?_eq_none (by rw [wipe_length, hl]; exact z), List.getElem?_eq_none (by rw [wipe_length]; exact z)]
  · rw [wipe_get vs σ i hi, wipe_get vs σ' i hi, h i hi]
theorem wipe_but {vs js : List Nat} {σ σ' : St} (h : But js (wipe σ vs) σ') (hs : ∀ j ∈ js, j ∈ vs) : wipe σ' vs = wipe σ vs := by
  have h1 : wipe σ' vs = wipe (wipe σ vs) vs := wipe_eq h.1 fun j hj => h.2 j fun z => hj (hs j z)
  rw [h1]
  exact wipe_eq (wipe_length σ vs) fun j hj => wipe_get vs σ j hj
theorem Rel.wipeB {K : PySem.W.Frag} {C : Ctx R} {F H : Hp} {σ : St} {ρ : List Slot} {r : R} (h : Rel K C F σ H ρ r) (vs : List Nat) : Rel K C F (L2.wipe σ vs) H (wipeS vs ρ) r :=
  h.weakenS (wipeS_len vs ρ) (wipe_length σ vs) fun i s e n => by
    obtain ⟨e1, e2⟩ := wipeS_get vs ρ i s e n
    exact ⟨e1, wipe_get vs σ i e2⟩
theorem backS_len (ρ : List Slot) : ∀ (vs : List Nat) (ρ' : List Slot), (backS vs ρ ρ').length = ρ'.length
  | [], _ => rfl
  | v :: vs, ρ' => by
    unfold backS
    rw [List.foldl_cons]
    exact (backS_len ρ vs _).trans List.length_set
theorem backS_get (ρ : List Slot) : ∀ (vs : List Nat) (ρ' : List Slot) (i : Nat) (s : Slot), (backS vs ρ ρ')[i]? = some s → s ≠ .emp → (i ∉ vs ∧ ρ'[i]? = some s) ∨ (ρ[i]? = some s ∧ s.isOwn = false)
  | [], _, _, _, h, _ => .inl ⟨List.not_mem_nil, h⟩
  | v :: vs, ρ', i, s, h, n => by
    unfold backS at h
    rw [List.foldl_cons] at h
    rcases backS_get ρ vs _ i s h n with ⟨h1, h2⟩ | h2
    · rcases get_set h2 with ⟨rfl, _, e⟩ | ⟨hk, e⟩
      · right
        cases z : ρ[i]? with
        | none => rw [z] at e; exact absurd e n
        | some u =>
          rw [z] at e
          cases u with
          | val d => subst e; exact ⟨rfl, rfl⟩
          | root => subst e; exact ⟨rfl, rfl⟩
          | emp => exact absurd e n
          | own _ => exact absurd e n
          | ownT _ => exact absurd e n
      · exact .inl ⟨fun z => by
          rcases List.mem_cons.mp z with z | z
          · exact hk z
          · exact h1 z, e⟩
    · exact .inr h2
/-- behind a block the slots are as they were -/
theorem Rel.back {K : PySem.W.Frag} {C : Ctx R} {F F' H H' : Hp} {σ : St} {ρ ρ' : List Slot} {r r' : R} {vs : List Nat} (h : Rel K C F σ H ρ r) (s : Same F F') (h' : Rel K C F' (L2.wipe σ vs) H' (wipeS vs ρ') r') : Rel K C F' σ H' (backS vs ρ ρ') r' := by
  have key : ∀ (i : Nat) (s : Slot), (backS vs ρ ρ')[i]? = some s → s ≠ .emp → i ∉ vs → ρ'[i]? = some s → (wipeS vs ρ')[i]? = some s := by
    intro i s _ n hi e
    have hl := lt_of_get e
    -- the wipe does not touch i
    have w : ∀ (js : List Nat) (l : List Slot), i ∉ js → (wipeS js l)[i]? = l[i]? := by
      intro js
      induction js with
      | nil => intro l _; rfl
      | cons j js ih =>
        intro l hj
        show (wipeS js (l.set j .emp))[i]? = l[i]?
        rw [ih _ fun z => hj (List.mem_cons_of_mem _ z), List.getElem?_set_ne fun z => hj (by rw [z]; exact List.mem_cons_self)]
    rw [w vs ρ' hi]
    exact e
  refine ⟨h'.hel, ?_, fun i t e n => ?_, fun i j t u v hij e1 e2 o1 o2 z1 z2 => ?_⟩
  · rw [backS_len]
    have := h'.len
    rw [wipe_length, wipeS_len] at this
    exact this
  · rcases backS_get ρ vs ρ' i t e n with ⟨hi, e'⟩ | ⟨e', o⟩
    · obtain ⟨v, e1, e2⟩ := h'.slot i t (key i t e n hi e') n
      rw [wipe_get vs σ i hi] at e1
      exact ⟨v, e1, e2⟩
    · obtain ⟨v, e1, e2⟩ := h.slot i t e' n
      exact ⟨v, e1, e2.same o s H'⟩
  · have n1 : t ≠ .emp := fun z => by subst z; cases o1
    have n2 : u ≠ .emp := fun z => by subst z; cases o2
    rcases backS_get ρ vs ρ' i t e1 n1 with ⟨hi, e1'⟩ | ⟨_, o⟩
    · rcases backS_get ρ vs ρ' j u e2 n2 with ⟨hj, e2'⟩ | ⟨_, o⟩
      · refine h'.apart i j t u v hij (key i t e1 n1 hi e1') (key j u e2 n2 hj e2') o1 o2 ?_ ?_
        · rw [wipe_get vs σ i hi]; exact z1
        · rw [wipe_get vs σ j hj]; exact z2
      · rw [o] at o2; cases o2
    · rw [o] at o1; cases o1
/-- what is held aside is changed and taken back -/
theorem Rel.swap {K : PySem.W.Frag} {C : Ctx R} {F H : Hp} {σ : St} {ρ : List Slot} {r : R} {a : Addr} {o o' : HO} (ng : C.gh a = none) (h : Rel K (C.put a o) F σ H ρ r) : Rel K C F σ (upd H a o') ρ r := by
  obtain ⟨k1, k2, k3, k4⟩ := h.aside
  have h' := h.unput ng
  refine ⟨⟨h'.hel.ok, h'.hel.fF, h'.hel.new, fun b u q => ?_, fun b u q nf => ?_, ?_, fun b u q => ?_⟩, h'.len, fun i s e n => ?_, h'.apart⟩
  · rw [upd_ne (ne_of_none q k2)]; exact h'.hel.fH b u q
  · rw [upd_ne (ne_of_none q k3)]; exact h'.hel.frame b u q nf
  · refine h'.hel.ok.stay r H _ h'.hel.hr fun b u fb q => ?_
    obtain ⟨o1, e1, _⟩ := h'.hel.ok.fp0 b fb
    rw [upd_ne (ne_of_none e1 k3)]; exact q
  · obtain ⟨g1, g2, g3⟩ := h'.hel.gh b u q
    exact ⟨by rw [upd_ne (ne_of_none q ng)]; exact g1, g2, g3⟩
  · obtain ⟨v, e1, e2⟩ := h'.slot i s e n
    refine ⟨v, e1, ?_⟩
    cases s with
    | emp => trivial
    | val d => exact e2
    | root => exact e2
    | own ds =>
      obtain ⟨b, vs, rfl, h1, h2, h3, h4, h5⟩ := e2
      have hb : b ≠ a := fun z => by subst z; exact k4 i _ e rfl e1
      exact ⟨b, vs, rfl, by rw [upd_ne hb]; exact h1, h2, h3, h4, h5⟩
    | ownT ds =>
      obtain ⟨b, vs, rfl, h1, h2, h3, h4, h5⟩ := e2
      have hb : b ≠ a := fun z => by subst z; exact k4 i _ e rfl e1
      exact ⟨b, vs, rfl, by rw [upd_ne hb]; exact h1, h2, h3, h4, h5⟩
/-- a block lets nothing out -/
def LX.blk (L : LX) : LX := ⟨L.K, L.mg, fun _ _ _ _ => False⟩
theorem Good.noexc {α : Type} {C : Ctx R} {σ : St} {F : Hp} {x : Res R α} {P : α → List Slot → R → Hp → Hp → Prop} (h : match x with | .ok a ρ r => ∀ F' H', Rel L.K C F' σ H' ρ r → Same F F' → P a ρ r F' H' | _ => False) : Good L.blk C σ F x P := by
  cases x with
  | stuck => exact h
  | ok a ρ r => exact h
  | exc c d ρ r => exact h.elim
/-- what a comprehension's turns come to -/
def LcOk (K : PySem.W.Frag) (C : Ctx R) (σ : St) (vs : List Nat) (Q : VK) (Dd : Addr) (F : Hp) (x : Res R (List D)) : Prop :=
  match x with
  | .ok acc ρ r => ∀ F' H' av, Rel K C F' (L2.wipe σ vs) H' (wipeS vs ρ) r → Same F F' → H' Dd = some (.lst av) → F' Dd = none → C.H0 Dd = none → DnAll K F' av acc → (∀ (i : Nat) (t : Slot), (wipeS vs ρ)[i]? = some t → t.isOwn = true → (L2.wipe σ vs)[i]? ≠ some (some (.ref Dd))) → Q (.ref Dd) H'
  | _ => False
theorem lc_ok {vs js : List Nat} {wi : TI} {tt : M R Bool} {te : M R Slot} (hs : ∀ j ∈ js, j ∈ vs) (hw : wi = liftI L it) {σ : St} {H : Hp} {Q : VK} (h : lift L (vLc vs it t tt te) σ H Q) :
    tLc wi (liftG R L.K js t) (liftT L.blk tt) (liftD L.blk (toD te)) vs σ H Q := by
  subst hw
  obtain ⟨C, F, ρ, r, hR, g0⟩ := h
  refine ⟨C, F, ρ, r, hR, (Good.bnd g0).imp fun ds ρ1 r1 F1 H00 R00 S1 g1 J H1 g sg R0 w Dd nD => ?_⟩
  have R1 := R0.less sg
  have ng' : (C.gho g).gh Dd = none := R0.hel.freeG nD
  have n0 : C.H0 Dd = none := R1.hel.free nD
  have ng : C.gh Dd = none := R1.hel.freeG nD
  have nF : F1 Dd = none := R1.hel.freeF nD
  -- what the turns come to
  have G1 : LcOk L.K C σ vs Q Dd F1 (lcL vs t tt te ds [] ρ1 r1) := by
    cases z : lcL vs t tt te ds [] ρ1 r1 with
    | stuck => rw [z] at g1; exact g1
    | exc c d ρ' r' => rw [z] at g1; exact g1
    | ok acc ρ' r' =>
      rw [z] at g1
      intro F' H' av R' S' hD hF h0 hA al
      have RB := R1.back S' R'
      refine g1 F' H' RB S' _ ⟨⟨Dd, av, rfl, hD, h0, ng, hF, hA⟩, fun _ i u e o z => ?_⟩
      have n1 : u ≠ .emp := fun z => by subst z; cases o
      rcases backS_get ρ1 vs ρ' i u e n1 with ⟨hi, e'⟩ | ⟨_, o'⟩
      · obtain ⟨v, e1, e2⟩ := RB.slot i u e n1
        have w1 : ∀ (js : List Nat) (l : List Slot), i ∉ js → (wipeS js l)[i]? = l[i]? := by
          intro js
          induction js with
          | nil => intro l _; rfl
          | cons j js ih =>
            intro l hj
            show (wipeS js (l.set j .emp))[i]? = l[i]?
            rw [ih _ fun z => hj (List.mem_cons_of_mem _ z), List.getElem?_set_ne fun z => hj (by rw [z]; exact List.mem_cons_self)]
        refine al i u (by rw [w1 vs ρ' hi]; exact e') o ?_
        rw [wipe_get vs σ i hi]
        exact z
      · rw [o'] at o; cases o
  clear g1
  refine ⟨fun i m H' => m = ds.length - i ∧ i ≤ ds.length ∧ ∃ F' ρ' r' acc av, Same F1 F' ∧ Rel L.K (C.gho g) F' (L2.wipe σ vs) H' (wipeS vs ρ') r' ∧ H' Dd = some (.lst av) ∧ F' Dd = none ∧ DnAll L.K F' av acc ∧
      (∀ (i : Nat) (t : Slot), (wipeS vs ρ')[i]? = some t → t.isOwn = true → (L2.wipe σ vs)[i]? ≠ some (some (.ref Dd))) ∧ LcOk L.K C σ vs Q Dd F' (lcL vs t tt te (ds.drop i) acc ρ' r'), ⟨ds.length, by simp, Nat.zero_le _, F1, ρ1, r1, [], [], Same.refl _, ?_, upd_same, nF, .nil, ?_, G1⟩, ?_⟩
  · exact (R0.wipeB vs).ext (newAny R0.hel.fH nD)
  · intro i t e o z
    obtain ⟨v, e1, e2⟩ := (R1.wipeB vs).slot i t e (fun q => by subst q; cases o)
    rw [z] at e1
    obtain rfl : V.ref Dd = v := Option.some.inj (Option.some.inj e1)
    cases t with
    | own _ => obtain ⟨_, _, q, e, _⟩ := e2; cases q; rw [nD] at e; cases e
    | ownT _ => obtain ⟨_, _, q, e, _⟩ := e2; cases q; rw [nD] at e; cases e
    | emp => cases o
    | val _ => cases o
    | root => cases o
  rintro i m H' ⟨rfl, hi, F', ρ', r', acc, av, S', R', hD, hF, hA, al, G'⟩
  by_cases hlt : i < ds.length
  · rw [drop_cons hlt] at G'
    unfold lcL at G'
    obtain ⟨w1, w2⟩ := w.go i ds[i] F' H' (List.getElem?_eq_getElem hlt) S' R'.hel.fH R'.ghS
    refine .inr ⟨w1, fun H' => ∃ F' ρ' r' acc av, Same F1 F' ∧ Rel L.K (C.gho g) F' (L2.wipe σ vs) H' (wipeS vs ρ') r' ∧ H' Dd = some (.lst av) ∧ F' Dd = none ∧ DnAll L.K F' av acc ∧
      (∀ (i : Nat) (t : Slot), (wipeS vs ρ')[i]? = some t → t.isOwn = true → (L2.wipe σ vs)[i]? ≠ some (some (.ref Dd))) ∧ LcOk L.K C σ vs Q Dd F' (lcL vs t tt te (ds.drop (i + 1)) acc ρ' r'), fun H2 h2 => ⟨ds.length - (i + 1), by omega, rfl, hlt, h2⟩, fun x H2 y => ?_⟩
    obtain ⟨F2, x2, d2⟩ := w2 x H2 y
    have S2 := S'.trans x2.ff
    have R2 := (R'.ext x2).put notTup_lst (x2.hh _ _ hD) (x2.keepF hD hF notTup_lst) n0 al
    have A2 := dpAllS x2.ff acc hA
    cases z : t ds[i] (wipeS vs ρ') with
    | none => rw [z] at G'; exact G'.elim
    | some ρ3 =>
      rw [z] at G'
      refine ⟨(C.gho g).put Dd (.lst av), F2, wipeS vs ρ', r', ds[i], ρ3, R2, d2, z, fun σ3 b3 R3 => ⟨wipe_but b3 hs, ?_⟩⟩
      have ew : L2.wipe σ3 vs = L2.wipe σ vs := wipe_but b3 hs
      dsimp only at G'
      refine ⟨(C.gho g).put Dd (.lst av), F2, ρ3, r', R3, ?_⟩
      unfold bnd at G'
      cases zt : tt ρ3 r' with
      | stuck => rw [zt] at G'; exact G'.elim
      | exc c d ρ4 r4 => rw [zt] at G'; exact G'.elim
      | ok b ρ4 r4 =>
        rw [zt] at G'
        intro F4 H4 R4 S4
        cases b with
        | false =>
          refine iteF ?_
          have G2 : LcOk L.K C σ vs Q Dd F' (lcL vs t tt te (ds.drop (i + 1)) acc ρ4 r4) := G'
          obtain ⟨k1, k2, k3, k4⟩ := (R4.wipeB vs).aside
          rw [ew] at k4
          have R5 := (R4.unput ng').wipeB vs
          rw [ew] at R5
          refine ⟨F4, ρ4, r4, acc, av, S2.trans S4, R5, k1, k2, dpAllS S4 acc A2, k4, ?_⟩
          cases zz : lcL vs t tt te (ds.drop (i + 1)) acc ρ4 r4 with
          | stuck => rw [zz] at G2; exact G2
          | exc c d ρ5 r5 => rw [zz] at G2; exact G2
          | ok acc' ρ5 r5 => rw [zz] at G2; exact fun F'' H'' av' a1 a2 => G2 F'' H'' av' a1 ((x2.ff.trans S4).trans a2)
        | true =>
          refine iteT ⟨(C.gho g).put Dd (.lst av), F4, ρ4, r4, R4, ?_⟩
          have G2 : LcOk L.K C σ vs Q Dd F' ((bnd (toD te) fun y => fun ρ2 r2 => if acc.length < 1000000 then lcL vs t tt te (ds.drop (i + 1)) (acc ++ [y]) ρ2 r2 else .stuck) ρ4 r4) := G'
          unfold bnd at G2
          cases ze : toD te ρ4 r4 with
          | stuck => rw [ze] at G2; exact G2.elim
          | exc c d ρ5 r5 => rw [ze] at G2; exact G2.elim
          | ok y ρ5 r5 =>
            rw [ze] at G2
            intro F5 H5 R5 S5 yv dy
            have G3 : LcOk L.K C σ vs Q Dd F' (if acc.length < 1000000 then lcL vs t tt te (ds.drop (i + 1)) (acc ++ [y]) ρ5 r5 else .stuck) := G2
            by_cases hl : acc.length < 1000000
            · rw [if_pos hl] at G3
              obtain ⟨k1, k2, k3, k4⟩ := (R5.wipeB vs).aside
              rw [ew] at k4
              have R6 := (R5.swap (o' := .lst (av ++ [yv])) ng').wipeB vs
              rw [ew] at R6
              refine ⟨av, k1, by rw [dpAll_len hA, sizeLine_eq]; omega, F5, ρ5, r5, acc ++ [y], av ++ [yv], (S2.trans S4).trans S5, R6, upd_same, k2, dpAll_app (dpAllS (S4.trans S5) acc A2) (.cons dy .nil), k4, ?_⟩
              cases zz : lcL vs t tt te (ds.drop (i + 1)) (acc ++ [y]) ρ5 r5 with
              | stuck => rw [zz] at G3; exact G3
              | exc c d ρ5 r5 => rw [zz] at G3; exact G3
              | ok acc' ρ6 r6 => rw [zz] at G3; exact fun F'' H'' av' a1 a2 => G3 F'' H'' av' a1 (((x2.ff.trans S4).trans S5).trans a2)
            · rw [if_neg hl] at G3; exact G3.elim
  · have ei : i = ds.length := by omega
    subst ei
    rw [List.drop_length] at G'
    exact .inl ⟨w.stop _ F' H' (Nat.le_refl _) S' R'.hel.fH R'.ghS, G' F' H' av (R'.less sg) (Same.refl _) hD hF n0 hA al⟩
/-- tests of a comprehension -/
def ttYes : M R Bool := ret true
theorem ptsImp {e : List Expr} {t t' : TT} (h : PTs X e t) (w : ∀ σ H Q, t' σ H Q → t σ H Q) : PTs X e t' := ⟨fun pins s σ H Q I q => h.run pins s σ H Q I (w _ _ _ q)⟩
theorem vts_nil : PTs X [] (liftT L (ttYes : M R Bool)) := ptsImp pts_nil fun σ H Q ⟨C, F, ρ, r, hR, g0⟩ => g0 F H hR (Same.refl _)
theorem vts_one {tt : M R Bool} (h : PT X c (liftT L tt)) : PTs X [c] (liftT L tt) := pts_one h
theorem ve_lc {elt iter : Expr} {ifs : List Expr} {scope : Scope} {own : List (Str × Nat)} {js : List Nat} {tt : M R Bool} {te : M R Slot} (hc : X.calm = true) (hN : X.N.Nodup) (hi : PI X tg iter (liftI L it)) (ok : BlkOk X.N X.env.scope scope own)
    (hg : ∀ (s : Shared) (H : Hp) (C : Addr) (cl : List (Str × Addr)) (fp : List Addr), PG (X.blk s H scope (compEnvC scope cl C X.env) fp) tg (liftG R L.K js t)) (ht : ∀ (s : Shared) (H : Hp) (C : Addr) (cl : List (Str × Addr)) (fp : List Addr), PTs (X.blk s H scope (compEnvC scope cl C X.env) fp) ifs (liftT L.blk tt))
    (he : ∀ (s : Shared) (H : Hp) (C : Addr) (cl : List (Str × Addr)) (fp : List Addr), PE (X.blk s H scope (compEnvC scope cl C X.env) fp) elt (lift L.blk te)) (hj : ∀ j ∈ js, j ∈ own.map (·.2) := by decide) (hs : ∀ x, foldedSetIterable iter X.env x = pure x := by intro _; rfl) :
    PE X (.ListComp elt [⟨tg, iter, ifs, 0⟩] scope pos) (lift L (vLc (own.map (·.2)) it t tt te)) :=
  peImp (pe_lc hc hN hi ok hg ht (fun s H C cl fp => useD (he s H C cl fp)) hs) fun _ _ _ h => lc_ok hj rfl h
theorem vs_setLc {i : Nat} {y : Str} {py : Pos} {elt iter : Expr} {ifs : List Expr} {scope : Scope} {own : List (Str × Nat)} {spos : Pos} {js : List Nat} {tt : M R Bool} {te : M R Slot} (hc : X.calm = true) (hN : X.N.Nodup) (hy : X.N[i]? = some y) (hyl : X.env.scope.names.lookup y = some .local)
    (hsw : swapsWith (.ListComp elt [⟨tg, iter, ifs, 0⟩] scope pos) (some (.Name y py)) spos.line X.env = pure true) (hi : PI X tg iter (liftI L it)) (ok : BlkOk X.N X.env.scope scope own)
    (hg : ∀ (s : Shared) (H : Hp) (C : Addr) (cl : List (Str × Addr)) (fp : List Addr), PG (X.blk s H scope (compEnvC scope cl C X.env) fp) tg (liftG R L.K js t)) (ht : ∀ (s : Shared) (H : Hp) (C : Addr) (cl : List (Str × Addr)) (fp : List Addr), PTs (X.blk s H scope (compEnvC scope cl C X.env) fp) ifs (liftT L.blk tt))
    (he : ∀ (s : Shared) (H : Hp) (C : Addr) (cl : List (Str × Addr)) (fp : List Addr), PE (X.blk s H scope (compEnvC scope cl C X.env) fp) elt (lift L.blk te)) (hj : ∀ j ∈ js, j ∈ own.map (·.2) := by decide) (hs : ∀ x, foldedSetIterable iter X.env x = pure x := by intro _; rfl) :
    PS X (.Assign [.Name y py] (.ListComp elt [⟨tg, iter, ifs, 0⟩] scope pos) spos) (liftS L (sSet i (vLc (own.map (·.2)) it t tt te))) :=
  psImp (ps_setLc hc hN hy hyl hsw hi ok hg ht (fun s H C cl fp => useD (he s H C cl fp)) hs) fun E σ H ⟨C, F, ρ, r, hR, g0⟩ =>
    lc_ok hj rfl ⟨C, F, ρ, r, hR, (GoodS.thenS g0).imp fun s ρ1 r1 F1 H1 R1 S1 g1 v rv => g1 _ F1 H1 (R1.setSlot i rv) (Same.refl _)⟩
end
end L2.VL

/-! VL6: defs, their promises by data, their calls. -/
namespace L2.VL
open PySem PySem.Spec PyProof.Rows

/-- the program, the world, the written part, the module's names, the base -/
structure G0 where
  P : Program
  w : World
  K : PySem.W.Frag
  mg : Str → Option Value
  base : Heap

inductive POut where
  | stuck
  | ret (s : Slot)
  | exc (c : Str) (d : D)
def outP : Out Unit → POut
  | .nx _ _ => .ret (.val .none)
  | .rt .root _ => .stuck
  | .rt s _ => .ret s
  | .exc c d _ _ => .exc c d
  | _ => .stuck
/-- a def's answer by its arguments -/
def runP (n : Nat) (g : MS Unit) : List D → POut := fun ds => outP (g (ds.map Slot.val ++ List.replicate (n - ds.length) Slot.emp) ())
def PGood (K : PySem.W.Frag) (mg : Str → Option Value) (F H : Hp) (x : POut) (Q : VK) (E : XK) : Prop :=
  match x with
  | .stuck => False
  | .ret s => ∀ v F' H', Ext F H F' H' → NewOk K F' H H' v s → Q v H'
  | .exc c d => ∀ cls dd v F' H', Ext F H F' H' → mg c = some cls → H' dd = some (.xd [(("value" : Str), v)]) → Dn K F' v d → E cls (some dd) H'
def spP (K : PySem.W.Frag) (mg : Str → Option Value) (n : Nat) (m : List D → POut) : Sp := fun vs H Q E => ∃ F ds, Same F H ∧ DnAll K F vs ds ∧ ds.length = n ∧ PGood K mg F H (m ds) Q E

/-! ### a def as it stands -/
structure DefAt (K : PySem.W.Frag) (mg : Str → Option Value) (x : Str) (st : Stmt) (dvs : List V) (f : Addr) (fd : FuncData) : Prop where
  ex : ∃ (oc : Value) (od : Option Addr) (dV kV doc pm : Value) (an : Option Addr) (cdv ct : Value) (osl : Array (Option Value)),
    fd = PySem.W.fnOf x x (defArgs st) (defBody st) (defScope st) dV kV doc pm an cdv ct ∧ K.lookup f = some ⟨oc, od, .func fd, osl⟩ ∧ PySem.W.codeIn K cdv x = true ∧ DflV K dV dvs
  kp : PySem.W.keepIn K (.ref f) = true
  mg : mg x = some (.ref f)
/-- a def that keeps a promise -/
def FnS (G : G0) (k : Nat) (x : Str) (st : Stmt) (dvs : List V) (ps : List Str) (sp : Sp) : Prop := ∃ f fd, DefAt G.K G.mg x st dvs f fd ∧ FnOk G.P G.w G.K G.mg G.base (L2.CX G.P G.w) k f fd ps sp
abbrev FnP (G : G0) (k : Nat) (x : Str) (st : Stmt) (dvs : List V) (ps : List Str) (m : List D → POut) : Prop := FnS G k x st dvs ps (spP G.K G.mg ps.length m)
theorem FnS.mono {G : G0} {j k : Nat} {x : Str} {st : Stmt} {dvs : List V} {ps : List Str} {sp : Sp} (A : FnS G j x st dvs ps sp) (h : j ≤ k) : FnS G k x st dvs ps sp := let ⟨f, fd, a, b⟩ := A; ⟨f, fd, a, b.mono h⟩
theorem FnS.imp {G : G0} {k : Nat} {x : Str} {st : Stmt} {dvs : List V} {ps : List Str} {sp sp' : Sp} (A : FnS G k x st dvs ps sp) (h : ∀ vs H Q E, sp' vs H Q E → sp vs H Q E) : FnS G k x st dvs ps sp' := let ⟨f, fd, a, b⟩ := A; ⟨f, fd, a, b.imp h⟩
/-- the answer said otherwise -/
theorem FnP.as {G : G0} {k : Nat} {x : Str} {st : Stmt} {dvs : List V} {ps : List Str} {m m' : List D → POut} (A : FnP G k x st dvs ps m) (h : ∀ ds, m' ds = .stuck ∨ m ds = m' ds) : FnP G k x st dvs ps m' :=
  A.imp fun vs H Q E ⟨F, ds, h1, h2, h3, h4⟩ => ⟨F, ds, h1, h2, h3, by
    rcases h ds with e | e
    · rw [e] at h4; exact h4.elim
    · rw [e]; exact h4⟩

/-! ### the promise by the body -/
theorem dn_val {R : Type} [Fam R] {K : PySem.W.Frag} {C : Ctx R} {F H : Hp} : ∀ {vs : List V} {ds : List D}, DnAll K F vs ds → ∀ (i : Nat) (s : Slot), (ds.map Slot.val)[i]? = some s → ∃ v, vs[i]? = some v ∧ VOk K C F H v s ∧ s.isOwn = false
  | _, _, .nil, i, s, e => by simp at e
  | v :: _, d :: _, .cons h t, 0, s, e => by
    have e' : Slot.val d = s := by simpa using e
    subst e'
    exact ⟨v, rfl, h, rfl⟩
  | _, _, .cons h t, i + 1, s, e => by
    obtain ⟨v, h1, h2⟩ := dn_val (C := C) (H := H) t i s (by simpa using e)
    exact ⟨v, by simpa using h1, h2⟩
theorem rep_emp {n i : Nat} {s : Slot} (h : (List.replicate n Slot.emp)[i]? = some s) : s = .emp := by
  rw [List.getElem?_replicate] at h
  split at h
  · exact (Option.some.inj h).symm
  · cases h
/-- the slots at a def's entry -/
theorem start_rel {R : Type} [Fam R] {K : PySem.W.Frag} {C : Ctx R} {F H : Hp} {r : R} {vs : List V} {ss : List Slot} {N : List Str} (hel : Hel K C F H r) (hl : vs.length ≤ N.length) (hs : ss.length = vs.length)
    (h : ∀ (i : Nat) (s : Slot), ss[i]? = some s → ∃ v, vs[i]? = some v ∧ VOk K C F H v s ∧ s.isOwn = false) : Rel K C F (start N vs) H (ss ++ List.replicate (N.length - ss.length) Slot.emp) r := by
  refine ⟨hel, ?_, fun i s e n => ?_, fun i j s t v hij e1 e2 o1 o2 z1 z2 => ?_⟩
  · unfold start
    rw [List.length_append, List.length_append, List.length_map, List.length_replicate, List.length_replicate, hs]
  · rcases Nat.lt_or_ge i ss.length with hi | hi
    · rw [List.getElem?_append_left hi] at e
      obtain ⟨v, e1, e2, _⟩ := h i s e
      refine ⟨v, ?_, e2⟩
      unfold start
      rw [List.getElem?_append_left (by rw [List.length_map, ← hs]; exact hi), List.getElem?_map, e1]
      rfl
    · rw [List.getElem?_append_right hi] at e
      exact absurd (rep_emp e) n
  · rcases Nat.lt_or_ge i ss.length with hi | hi
    · rw [List.getElem?_append_left hi] at e1
      obtain ⟨_, _, _, o⟩ := h i s e1
      rw [o] at o1; cases o1
    · rw [List.getElem?_append_right hi] at e1
      rw [rep_emp e1] at o1; cases o1
def ctxU (F H : Hp) : Ctx Unit := ⟨F, H, fun _ => none, .non, fun _ => False, fun _ _ => True⟩
theorem helU {K : PySem.W.Frag} {F H : Hp} (h : Same F H) : Hel K (ctxU F H) F H () :=
  ⟨⟨trivial, fun _ _ _ _ _ => trivial, fun _ _ _ _ z => z.elim, fun _ z => z.elim, fun b o e => ⟨h b o e, fun z => z⟩⟩, Same.refl _, fun b o e => .inl e, h, fun b o e _ => e, trivial, fun b o e => by cases e⟩
theorem extU {K : PySem.W.Frag} {F H F' H' : Hp} {r : Unit} (h : Hel K (ctxU F H) F' H' r) : Ext F H F' H' := ⟨h.fF, fun b o e => h.frame b o e fun z => z, h.fH, h.new⟩
theorem newU {K : PySem.W.Frag} {F H F' H' : Hp} {v : V} {s : Slot} (h : VOk K (ctxU F H) F' H' v s) (hn : s ≠ .root) : NewOk K F' H H' v s := by
  cases s with
  | emp => trivial
  | val d => exact h
  | root => exact absurd rfl hn
  | own ds =>
    obtain ⟨a, vs, rfl, h1, h2, h3, h4, h5⟩ := h
    exact ⟨a, vs, rfl, h2, h1, h4, h5⟩
  | ownT ds =>
    obtain ⟨a, vs, rfl, h1, h2, h3, h4, h5⟩ := h
    exact ⟨a, vs, rfl, h2, h1, h4, h5⟩
section
variable {P : Program} {w : World} {K : PySem.W.Frag} {mg : Str → Option Value} {base : Heap}
/-- THE RULE for a def of data: its body, read -/
theorem fnP_mk {x : Str} {st : Stmt} {dvs : List V} {N ps : List Str} {k : Nat} {g : MS Unit} (A : ∃ f fd, DefAt K mg x st dvs f fd) (S : FnScope N ps (defScope st)) (hl : ps.length ≤ N.length)
    (body : ∀ (f : Addr) (cdv : Value) (A : Around) (outer : List Env) (s : Shared) (H : Hp) (E : XK), Room k (A.deeper (envOfC x (defScope st) s.heap.objs.size f cdv)) →
      PSs (cxOf (L2.CX P w) P w K mg base N x (defScope st) f cdv A outer s H E) (defBody st) (liftS ⟨K, mg, fun c d _ H => E c d H⟩ g)) :
    FnP ⟨P, w, K, mg, base⟩ (k + 1) x st dvs ps (runP N.length g) := by
  obtain ⟨f, fd, A⟩ := A
  refine ⟨f, fd, A, ?_⟩
  obtain ⟨oc, od, dV, kV, doc, pm, an, cdv, ct, osl, rfl, lk, hcd, hD⟩ := A.ex
  refine fn_of lk hcd S (fun vs H Q E h => ?_) fun A outer s H vs Q E hr hsp => ⟨_, body f cdv A outer s H E hr, ?_⟩
  · obtain ⟨F, ds, h1, h2, h3, _⟩ := h
    rw [dpAll_len h2]; exact h3
  · obtain ⟨F, ds, h1, h2, h3, h4⟩ := hsp
    have lv : vs.length = ds.length := dpAll_len h2
    refine ⟨ctxU F H, F, _, (), start_rel (ss := ds.map Slot.val) (helU h1) (by rw [lv, h3]; exact hl) (by rw [List.length_map, lv]) (dn_val h2), ?_⟩
    rw [List.length_map]
    unfold runP at h4
    cases z : g (ds.map Slot.val ++ List.replicate (N.length - ds.length) Slot.emp) () with
    | stuck => rw [z] at h4; exact h4
    | bk _ _ => rw [z] at h4; exact h4.elim
    | ct _ _ => rw [z] at h4; exact h4.elim
    | nx ρ r =>
      rw [z] at h4
      exact fun σ' F' H' R' _ => h4 .non F' H' (extU R'.hel) .non
    | rt s r =>
      rw [z] at h4
      intro v F' H' hh hv _
      cases s with
      | root => exact h4.elim
      | emp => exact h4 v F' H' (extU hh) (newU hv nofun)
      | val d => exact h4 v F' H' (extU hh) (newU hv nofun)
      | own d => exact h4 v F' H' (extU hh) (newU hv nofun)
      | ownT d => exact h4 v F' H' (extU hh) (newU hv nofun)
    | exc c d ρ r =>
      rw [z] at h4
      exact fun σ F' H' cls dd v R' _ hm hx hd => h4 cls dd v F' H' (extU R'.hel) hm hx hd
end

/-! ### calls -/
section
variable {X : Cx} {R : Type} [Fam R] {L : LX} {pos p : Pos} {x : Str} {e : Expr} {es : List Expr} {fs : M R (List D)} {st : Stmt} {dvs : List V} {ps : List Str} {m : List D → POut} {k : Nat}
abbrev gOf (X : Cx) : G0 := ⟨X.prog, X.w, X.K, X.mg, X.base⟩
def vCallP (m : List D → POut) (fs : M R (List D)) : M R Slot := bnd fs fun ds => fun ρ r => match m ds with
  | .ret s => .ok s ρ r
  | .exc c d => .exc c d ρ r
  | .stuck => .stuck
theorem pgood_of {C : Ctx R} {σ : St} {F H : Hp} {ρ : List Slot} {r : R} {x : POut} {Q : VK} (hR : Rel L.K C F σ H ρ r)
    (g : Good L C σ F (match x with | .ret s => Res.ok s ρ r | .exc c d => .exc c d ρ r | .stuck => .stuck) fun s ρ' _ F' H' => ∀ v, ResOk L.K C F' H' σ ρ' v s → Q v H') : PGood L.K L.mg F H x Q (WE L.W σ) := by
  cases x with
  | stuck => exact g
  | ret s => exact fun v F' H' x n => g F' H' (hR.ext x) x.ff v (n.res hR x)
  | exc c d => exact fun cls dd v F' H' x hm hx hd => g σ F' H' cls dd v (hR.ext x) x.ff hm hx hd
/-- every parameter is written -/
theorem DefAt.binds0 {K : PySem.W.Frag} {mg : Str → Option Value} {f : Addr} {fd : FuncData} (A : DefAt K mg x st [] f fd)
    (h : ∀ (kV doc pm : Value) (an : Option Addr) (cdv ct : Value) (us : List Value), us.length = ps.length → bindArgs (PySem.W.fnOf x x (defArgs st) (defBody st) (defScope st) .none kV doc pm an cdv ct) ⟨us, []⟩ = pure (ps.zip us)) : Binds K fd ps [] := by
  obtain ⟨oc, od, dV, kV, doc, pm, an, cdv, ct, osl, rfl, lk, hcd, hD⟩ := A.ex
  rcases hD with ⟨_, rfl⟩ | ⟨e, _⟩
  · exact .all (h kV doc pm an cdv ct)
  · exact absurd rfl e
theorem ve_callP (A : FnP (gOf X) k x st [] ps m) (hr : Room k X.A) (hg : Gl X x) (hK : X.K = L.K) (hM : X.mg = L.mg) (hx : ∀ σ, PassesAt (L2.CX X.prog X.w) X σ (WE L.W σ)) (ha : PA X (e :: es) (liftA L fs))
    (hb : ∀ (kV doc pm : Value) (an : Option Addr) (cdv ct : Value) (us : List Value), us.length = ps.length → bindArgs (PySem.W.fnOf x x (defArgs st) (defBody st) (defScope st) .none kV doc pm an cdv ct) ⟨us, []⟩ = pure (ps.zip us))
    (hn : ∀ ρ r ds ρ' r', fs ρ r = .ok ds ρ' r' → ds.length = ps.length) (hdb : (x == ("__debug__" : Str)) = false := by decide) (he : starEach (e :: es) X.env = (false, eval e X.env) :: starEach es X.env := by rfl) (hpl : (backTo pos (starEach es X.env)).any (·.1) = false := by rfl) :
    PE X (.Call (.Name x p) (e :: es) [] pos) (lift L (vCallP m fs)) := by
  obtain ⟨f, fd, A, F⟩ := A
  refine peImp (pe_callS F hr hg A.mg A.kp (A.binds0 hb) hx ha hdb he hpl) fun σ H Q ⟨C, F0, ρ, r, hR, g0⟩ => ⟨C, F0, ρ, r, hR, (Good.bnd g0).det fun ds ρ1 r1 eq F1 H1 R1 S1 g1 vs dv => ⟨F1, ds, R1.hel.fH, ?_, hn _ _ _ _ _ eq, ?_⟩⟩
  · show DnAll X.K F1 vs ds
    rw [hK]; exact dv
  · show PGood X.K X.mg F1 H1 (m ds) Q (WE L.W σ)
    rw [hK, hM]
    exact pgood_of R1 g1
/-- how many there are -/
theorem aCons_len {fa : M R Slot} {fs : M R (List D)} {n : Nat} (h : ∀ ρ r ds ρ' r', fs ρ r = .ok ds ρ' r' → ds.length = n) : ∀ ρ r ds ρ' r', aCons fa fs ρ r = .ok ds ρ' r' → ds.length = n + 1 := by
  intro ρ r ds ρ' r' e
  unfold aCons bnd at e
  cases z : toD fa ρ r with
  | stuck => rw [z] at e; cases e
  | exc c d ρ1 r1 => rw [z] at e; cases e
  | ok d ρ1 r1 =>
    rw [z] at e
    have e' : (fs ρ1 r1).bind (fun ds => ret (d :: ds)) = .ok ds ρ' r' := e
    cases z2 : fs ρ1 r1 with
    | stuck => rw [z2] at e'; cases e'
    | exc c d ρ1 r1 => rw [z2] at e'; cases e'
    | ok ds1 ρ2 r2 =>
      rw [z2] at e'
      have e2 : (ret (d :: ds1) : M R (List D)) ρ2 r2 = .ok ds ρ' r' := e'
      unfold ret at e2
      cases e2
      rw [List.length_cons, h _ _ _ _ _ z2]
theorem aNil_len : ∀ ρ r ds ρ' r', (aNil : M R (List D)) ρ r = .ok ds ρ' r' → ds.length = 0 := by
  intro ρ r ds ρ' r' e
  unfold aNil ret at e
  cases e
  rfl
/-- no exception leaves a block -/
theorem passBlk {X : Cx} {L : LX} (σ : St) : PassesAt (L2.CX X.prog X.w) X σ (WE L.blk.W σ) := fun _ _ _ _ _ _ h => by
  obtain ⟨_, _, _, _, _, _, _, _, _, _, _, _, z⟩ := h
  exact z.elim

/-! ### a resource: what a def does to it -/
inductive ROut (R : Type) where
  | stuck
  | ret (s : Slot) (r : R)
  | exc (c : Str) (d : D) (r : R)
def outR : Out R → ROut R
  | .nx _ r => .ret (.val .none) r
  | .rt s r => .ret s r
  | .exc c d _ r => .exc c d r
  | _ => .stuck
def runR (n : Nat) (g : MS R) : List Slot → R → ROut R := fun ss r => outR (g (ss ++ List.replicate (n - ss.length) Slot.emp) r)
def RGood (K : PySem.W.Frag) (mg : Str → Option Value) (C : Ctx R) (x : ROut R) (Q : VK) (E : XK) : Prop :=
  match x with
  | .stuck => False
  | .ret s r => ∀ v F' H', Hel K C F' H' r → VOk K C F' H' v s → Q v H'
  | .exc c d r => ∀ cls dd v F' H', Hel K C F' H' r → mg c = some cls → H' dd = some (.xd [(("value" : Str), v)]) → Dn K F' v d → E cls (some dd) H'
def ArgsOk (K : PySem.W.Frag) (C : Ctx R) (F H : Hp) (vs : List V) (ss : List Slot) : Prop := ss.length = vs.length ∧ ∀ (i : Nat) (s : Slot), ss[i]? = some s → ∃ v, vs[i]? = some v ∧ VOk K C F H v s ∧ s.isOwn = false
def spR (K : PySem.W.Frag) (mg : Str → Option Value) (n : Nat) (m : List Slot → R → ROut R) : Sp := fun vs H Q E => ∃ (C : Ctx R) (r : R) (ss : List Slot), Hel K C C.F0 H r ∧ C.H0 = H ∧ (C.gh = fun _ => none) ∧ ArgsOk K C C.F0 H vs ss ∧ ss.length = n ∧ RGood K mg C (m ss r) Q E
abbrev FnR (G : G0) (k : Nat) (x : Str) (st : Stmt) (dvs : List V) (ps : List Str) (m : List Slot → R → ROut R) : Prop := FnS G k x st dvs ps (spR G.K G.mg ps.length m)
theorem fnR_mk {P : Program} {w : World} {K : PySem.W.Frag} {mg : Str → Option Value} {base : Heap} {N : List Str} {g : MS R} (A : ∃ f fd, DefAt K mg x st dvs f fd) (S : FnScope N ps (defScope st)) (hl : ps.length ≤ N.length)
    (body : ∀ (f : Addr) (cdv : Value) (A : Around) (outer : List Env) (s : Shared) (H : Hp) (E : XK), Room k (A.deeper (envOfC x (defScope st) s.heap.objs.size f cdv)) →
      PSs (cxOf (L2.CX P w) P w K mg base N x (defScope st) f cdv A outer s H E) (defBody st) (liftS ⟨K, mg, fun c d _ H => E c d H⟩ g)) :
    FnR ⟨P, w, K, mg, base⟩ (k + 1) x st dvs ps (runR N.length g) := by
  obtain ⟨f, fd, A⟩ := A
  refine ⟨f, fd, A, ?_⟩
  obtain ⟨oc, od, dV, kV, doc, pm, an, cdv, ct, osl, rfl, lk, hcd, hD⟩ := A.ex
  refine fn_of lk hcd S (fun vs H Q E h => ?_) fun A outer s H vs Q E hr hsp => ⟨_, body f cdv A outer s H E hr, ?_⟩
  · obtain ⟨C, r, ss, _, _, _, h2, h3, _⟩ := h
    rw [← h2.1]; exact h3
  · obtain ⟨C, r, ss, hh, h0, hg, ⟨l1, h2⟩, h3, h4⟩ := hsp
    refine ⟨C, C.F0, _, r, start_rel (ss := ss) hh (by rw [← l1, h3]; exact hl) l1 h2, ?_⟩
    unfold runR at h4
    cases z : g (ss ++ List.replicate (N.length - ss.length) Slot.emp) r with
    | stuck => rw [z] at h4; exact h4
    | bk _ _ => rw [z] at h4; exact h4.elim
    | ct _ _ => rw [z] at h4; exact h4.elim
    | nx ρ r => rw [z] at h4; exact fun σ' F' H' R' _ => h4 .non F' H' R'.hel .non
    | rt s r => rw [z] at h4; exact fun v F' H' hh hv _ => h4 v F' H' hh hv
    | exc c d ρ r => rw [z] at h4; exact fun σ F' H' cls dd v R' _ hm hx hd => h4 cls dd v F' H' R'.hel hm hx hd
/-- arguments: data, or the resource's root -/
def argOf : Slot → Option Slot
  | .val d => some (.val d)
  | .own ds => some (.val (.list ds))
  | .root => some .root
  | _ => none
def rNil : M R (List Slot) := ret []
def rCons (fa : M R Slot) (fs : M R (List Slot)) : M R (List Slot) := bnd fa fun s => bnd (ofO (argOf s)) fun t => bnd fs fun ss => ret (t :: ss)
def liftR (L : LX) (f : M R (List Slot)) : TA := fun σ H Q => ∃ (C : Ctx R) (F : Hp) (ρ : List Slot) (r : R), Rel L.K C F σ H ρ r ∧ Good L C σ F (f ρ r) fun ss ρ' _ F' H' => ∀ vs, ArgsOk L.K C F' H' vs ss → Q vs H'
variable {a : Expr} {fa : M R Slot} {gs : M R (List Slot)}
theorem vr_nil : PA X [] (liftR L (rNil : M R (List Slot))) := paImp pa_nil fun σ H Q ⟨C, F, ρ, r, hR, g0⟩ => g0 F H hR (Same.refl _) [] ⟨rfl, fun i s e => by simp at e⟩
theorem arg_ok {C : Ctx R} {σ : St} {F H : Hp} {ρ : List Slot} {r : R} {s t : Slot} {v : V} {K : PySem.W.Frag} (hR : Rel K C F σ H ρ r) (q : ResOk K C F H σ ρ v s) (e : argOf s = some t) :
    ∃ F', Same F F' ∧ Rel K C F' σ H ρ r ∧ t.isOwn = false ∧ ∀ (F'' H'' : Hp), Same F' F'' → VOk K C F'' H'' v t := by
  cases s with
  | val d => cases e; exact ⟨F, Same.refl _, hR, rfl, fun F'' H'' s => dpS s d q.1⟩
  | own ds =>
    cases e
    obtain ⟨F', s1, R1, d1⟩ := frz_ok hR q rfl
    exact ⟨F', s1, R1, rfl, fun F'' H'' s => dpS s _ d1⟩
  | root => cases e; exact ⟨F, Same.refl _, hR, rfl, fun F'' H'' s => q.1⟩
  | emp => cases e
  | ownT _ => cases e
theorem vr_cons (ha : PE X a (lift L fa)) (hs : PA X es (liftR L gs)) (hst : starEach (a :: es) X.env = (false, eval a X.env) :: starEach es X.env := by rfl) : PA X (a :: es) (liftR L (rCons fa gs)) :=
  paImp (pa_cons ha hs hst) fun σ H Q ⟨C, F, ρ, r, hR, g0⟩ => ⟨C, F, ρ, r, hR, (Good.bnd g0).imp fun s ρ1 r1 F1 H1 R1 S1 g1 x rx => by
    cases z : argOf s with
    | none => rw [z] at g1; exact g1.elim
    | some t =>
      rw [z] at g1
      obtain ⟨F2, S2, R2, o2, k2⟩ := arg_ok R1 rx z
      have g2 : Good L C σ F1 ((bnd gs fun ss => ret (t :: ss)) ρ1 r1) _ := g1
      refine ⟨C, F2, ρ1, r1, R2, (Good.bnd (Good.mono S2 g2)).imp fun ss ρ3 r3 F3 H3 R3 S3 g3 vs dv => g3 F3 H3 R3 (Same.refl _) _ ⟨congrArg (· + 1) dv.1, fun i u e => ?_⟩⟩
      cases i with
      | zero =>
        have e' : t = u := by simpa using e
        subst e'
        exact ⟨x, rfl, k2 F3 H3 S3, o2⟩
      | succ i =>
        obtain ⟨v, h1, h2⟩ := dv.2 i u (by simpa using e)
        exact ⟨v, by simpa using h1, h2⟩⟩
def vCallR (m : List Slot → R → ROut R) (gs : M R (List Slot)) : M R Slot := bnd gs fun ss => fun ρ r => match m ss r with
  | .ret s r' => .ok s ρ r'
  | .exc c d r' => .exc c d ρ r'
  | .stuck => .stuck
/-- the callee's stand within the caller's -/
def Ctx.sub (C : Ctx R) (F H : Hp) : Ctx R := ⟨F, H, fun _ => none, C.rootV, C.fp, C.holds⟩
theorem Hel.sub {K : PySem.W.Frag} {C : Ctx R} {F H : Hp} {r : R} (h : Hel K C F H r) : Hel K (C.sub F H) F H r :=
  ⟨⟨h.ok.fam, h.ok.stay, h.ok.there, fun b fb => h.ok.there r H b h.hr fb, fun b o e => ⟨h.fH b o e, fun fb => by
    rcases h.new b o e with z | z | ⟨xs, z⟩
    · exact (h.ok.f0 b o z).2 fb
    · obtain ⟨o', e', _⟩ := h.ok.fp0 b fb
      rw [z] at e'; cases e'
    · obtain ⟨o', e', nt⟩ := h.ok.there r H b h.hr fb
      have q1 := h.fH b o e
      rw [e'] at q1
      exact absurd ((Option.some.inj q1).trans z) (nt xs)⟩⟩, Same.refl _, fun b o e => .inl e, h.fH, fun b o e _ => e, h.hr, fun b o e => by cases e⟩
theorem Hel.up {K : PySem.W.Frag} {C : Ctx R} {F H F' H' : Hp} {r r' : R} (h : Hel K C F H r) (h' : Hel K (C.sub F H) F' H' r') : Hel K C F' H' r' := by
  have nF : ∀ b o, NotTup o → ¬ C.fp b → H b = some o → F b = none → F' b = none := fun b o nt fb e n => by
    cases q : F' b with
    | none => rfl
    | some o' =>
      rcases h'.new b o' q with z | z | ⟨xs, z⟩
      · have z' : F b = some o' := z
        rw [n] at z'; cases z'
      · have z' : H b = none := z
        rw [e] at z'; cases z'
      · have q1 := h'.fH b o' q
        rw [h'.frame b o e fb] at q1
        exact absurd ((Option.some.inj q1).trans z) (nt xs)
  refine ⟨h.ok, h.fF.trans h'.fF, fun b o e => ?_, h'.fH, fun b o e n => h'.frame b o (h.frame b o e n) n, h'.hr, fun b o e => ?_⟩
  · rcases h'.new b o e with z | z | z
    · exact h.new b o z
    · exact .inr (.inl (h.free z))
    · exact .inr (.inr z)
  · obtain ⟨g1, g2, g3, g4⟩ := h.gh b o e
    have nf : ¬ C.fp b := fun fb => by
      obtain ⟨o', e', _⟩ := h.ok.fp0 b fb
      rw [g3] at e'; cases e'
    exact ⟨h'.frame b o g1 nf, nF b o g4 nf g1 g2, g3, g4⟩
theorem Rel.up {K : PySem.W.Frag} {C : Ctx R} {F H F' H' : Hp} {σ : St} {ρ : List Slot} {r r' : R} (h : Rel K C F σ H ρ r) (h' : Hel K (C.sub F H) F' H' r') : Rel K C F' σ H' ρ r' := by
  have nf : ∀ b, C.H0 b = none → ¬ C.fp b := fun b n fb => by
    obtain ⟨o', e', _⟩ := h.hel.ok.fp0 b fb
    rw [n] at e'; cases e'
  have nF : ∀ b o, NotTup o → ¬ C.fp b → H b = some o → F b = none → F' b = none := fun b o nt fb e n => by
    cases q : F' b with
    | none => rfl
    | some o' =>
      rcases h'.new b o' q with z | z | ⟨xs, z⟩
      · have z' : F b = some o' := z
        rw [n] at z'; cases z'
      · have z' : H b = none := z
        rw [e] at z'; cases z'
      · have q1 := h'.fH b o' q
        rw [h'.frame b o e fb] at q1
        exact absurd ((Option.some.inj q1).trans z) (nt xs)
  refine ⟨h.hel.up h', h.len, fun i s e n => ?_, h.apart⟩
  obtain ⟨v, e1, e2⟩ := h.slot i s e n
  refine ⟨v, e1, ?_⟩
  cases s with
  | emp => trivial
  | val d => exact dpS h'.fF d e2
  | root => exact e2
  | own ds =>
    obtain ⟨a, vs, rfl, h1, h2, h3, h4, h5⟩ := e2
    exact ⟨a, vs, rfl, h'.frame a _ h1 (nf a h2), h2, h3, nF a _ notTup_lst (nf a h2) h1 h4, dpAllS h'.fF ds h5⟩
  | ownT ds =>
    obtain ⟨a, vs, rfl, h1, h2, h3, h4, h5⟩ := e2
    exact ⟨a, vs, rfl, h'.frame a _ h1 (nf a h2), h2, h3, nF a _ notTup_dT (nf a h2) h1 h4, h5.same h'.fF⟩
theorem VOk.up {K : PySem.W.Frag} {C : Ctx R} {F H F' H' : Hp} {σ : St} {ρ : List Slot} {r r' : R} {v : V} {s : Slot} (h : Rel K C F σ H ρ r) (h' : Hel K (C.sub F H) F' H' r') (q : VOk K (C.sub F H) F' H' v s) : ResOk K C F' H' σ ρ v s := by
  cases s with
  | emp => exact ⟨trivial, fun z => nomatch z⟩
  | val d => exact ⟨q, fun z => nomatch z⟩
  | root => exact ⟨q, fun z => nomatch z⟩
  | own ds =>
    obtain ⟨a, vs, rfl, h1, h2, h3, h4, h5⟩ := q
    have h2' : H a = none := h2
    refine ⟨⟨a, vs, rfl, h1, h.hel.free h2', h.hel.freeG h2', h4, h5⟩, fun _ i t e o z => ?_⟩
    obtain ⟨v, e1, e2⟩ := h.slot i t e (fun q => by subst q; cases o)
    rw [z] at e1
    obtain rfl : V.ref a = v := Option.some.inj (Option.some.inj e1)
    cases t with
    | own _ => obtain ⟨_, _, q, e, _⟩ := e2; cases q; rw [h2'] at e; cases e
    | ownT _ => obtain ⟨_, _, q, e, _⟩ := e2; cases q; rw [h2'] at e; cases e
    | emp => cases o
    | val _ => cases o
    | root => cases o
  | ownT ds =>
    obtain ⟨a, vs, rfl, h1, h2, h3, h4, h5⟩ := q
    have h2' : H a = none := h2
    refine ⟨⟨a, vs, rfl, h1, h.hel.free h2', h.hel.freeG h2', h4, h5⟩, fun _ i t e o z => ?_⟩
    obtain ⟨v, e1, e2⟩ := h.slot i t e (fun q => by subst q; cases o)
    rw [z] at e1
    obtain rfl : V.ref a = v := Option.some.inj (Option.some.inj e1)
    cases t with
    | own _ => obtain ⟨_, _, q, e, _⟩ := e2; cases q; rw [h2'] at e; cases e
    | ownT _ => obtain ⟨_, _, q, e, _⟩ := e2; cases q; rw [h2'] at e; cases e
    | emp => cases o
    | val _ => cases o
    | root => cases o
theorem ArgsOk.sub {K : PySem.W.Frag} {C : Ctx R} {F H : Hp} {vs : List V} {ss : List Slot} (h : ArgsOk K C F H vs ss) : ArgsOk K (C.sub F H) F H vs ss := ⟨h.1, fun i s e => by
  obtain ⟨v, e1, e2, o⟩ := h.2 i s e
  refine ⟨v, e1, ?_, o⟩
  cases s with
  | emp => trivial
  | val d => exact e2
  | root => exact e2
  | own _ => cases o
  | ownT _ => cases o⟩
theorem rgood_of {C : Ctx R} {σ : St} {F H : Hp} {ρ : List Slot} {r : R} {x : ROut R} {Q : VK} (hR : Rel L.K C F σ H ρ r)
    (g : Good L C σ F (match x with | .ret s r' => Res.ok s ρ r' | .exc c d r' => .exc c d ρ r' | .stuck => .stuck) fun s ρ' _ F' H' => ∀ v, ResOk L.K C F' H' σ ρ' v s → Q v H') : RGood L.K L.mg (C.sub F H) x Q (WE L.W σ) := by
  cases x with
  | stuck => exact g
  | ret s r' => exact fun v F' H' hh hv => g F' H' (hR.up hh) hh.fF v (VOk.up hR hh hv)
  | exc c d r' => exact fun cls dd v F' H' hh hm hx hd => g σ F' H' cls dd v (hR.up hh) hh.fF hm hx hd
theorem ve_callR {m : List Slot → R → ROut R} (A : FnR (gOf X) k x st [] ps m) (hr : Room k X.A) (hg : Gl X x) (hK : X.K = L.K) (hM : X.mg = L.mg) (hx : ∀ σ, PassesAt (L2.CX X.prog X.w) X σ (WE L.W σ)) (ha : PA X (e :: es) (liftR L gs))
    (hb : ∀ (kV doc pm : Value) (an : Option Addr) (cdv ct : Value) (us : List Value), us.length = ps.length → bindArgs (PySem.W.fnOf x x (defArgs st) (defBody st) (defScope st) .none kV doc pm an cdv ct) ⟨us, []⟩ = pure (ps.zip us))
    (hn : ∀ ρ r ds ρ' r', gs ρ r = .ok ds ρ' r' → ds.length = ps.length) (hdb : (x == ("__debug__" : Str)) = false := by decide) (he : starEach (e :: es) X.env = (false, eval e X.env) :: starEach es X.env := by rfl) (hpl : (backTo pos (starEach es X.env)).any (·.1) = false := by rfl) :
    PE X (.Call (.Name x p) (e :: es) [] pos) (lift L (vCallR m gs)) := by
  obtain ⟨f, fd, A, F⟩ := A
  refine peImp (pe_callS F hr hg A.mg A.kp (A.binds0 hb) hx ha hdb he hpl) fun σ H Q ⟨C, F0, ρ, r, hR, g0⟩ => ⟨C, F0, ρ, r, hR, (Good.bnd g0).det fun ss ρ1 r1 eq F1 H1 R1 S1 g1 vs dv => ⟨C.sub F1 H1, r1, ss, ?_, rfl, rfl, ?_, hn _ _ _ _ _ eq, ?_⟩⟩
  · show Hel X.K (C.sub F1 H1) F1 H1 r1
    rw [hK]; exact R1.hel.sub
  · show ArgsOk X.K (C.sub F1 H1) F1 H1 vs ss
    rw [hK]; exact dv.sub
  · show RGood X.K X.mg (C.sub F1 H1) (m ss r1) Q (WE L.W σ)
    rw [hK, hM]
    exact rgood_of R1 g1
theorem rCons_len {fa : M R Slot} {gs : M R (List Slot)} {n : Nat} (h : ∀ ρ r ds ρ' r', gs ρ r = .ok ds ρ' r' → ds.length = n) : ∀ ρ r ds ρ' r', rCons fa gs ρ r = .ok ds ρ' r' → ds.length = n + 1 := by
  intro ρ r ds ρ' r' e
  unfold rCons bnd at e
  cases z : fa ρ r with
  | stuck => rw [z] at e; cases e
  | exc c d ρ1 r1 => rw [z] at e; cases e
  | ok s ρ1 r1 =>
    rw [z] at e
    have e1 : ((ofO (argOf s) : M R Slot) ρ1 r1).bind (fun t ρ r => (gs ρ r).bind fun ss => ret (t :: ss)) = .ok ds ρ' r' := e
    cases z1 : argOf s with
    | none => rw [z1] at e1; cases e1
    | some t =>
      rw [z1] at e1
      have e' : (gs ρ1 r1).bind (fun ss => ret (t :: ss)) = .ok ds ρ' r' := e1
      cases z2 : gs ρ1 r1 with
      | stuck => rw [z2] at e'; cases e'
      | exc c d ρ1 r1 => rw [z2] at e'; cases e'
      | ok ds1 ρ2 r2 =>
        rw [z2] at e'
        have e2 : (ret (t :: ds1) : M R (List Slot)) ρ2 r2 = .ok ds ρ' r' := e'
        unfold ret at e2
        cases e2
        rw [List.length_cons, h _ _ _ _ _ z2]
theorem rNil_len : ∀ ρ r ds ρ' r', (rNil : M R (List Slot)) ρ r = .ok ds ρ' r' → ds.length = 0 := by
  intro ρ r ds ρ' r' e
  unfold rNil ret at e
  cases e
  rfl
end
end L2.VL

/-! VL7: isinstance, chains, slices, repeats. -/
namespace L2.VL
open PySem PySem.Spec PyProof.Rows

/-! ### isinstance(x, T), T a built-in type -/
def tyD : D → String
  | .none => "NoneType"
  | .bool _ => "bool"
  | .int _ => "int"
  | .str _ => "str"
  | .tuple _ => "tuple"
  | .list _ => "list"
  | .dict _ => "dict"
theorem tyX_rdL {K : PySem.W.Frag} {H : Hp} {a : Addr} {vs : List V} (h : Rd H a (.lst vs)) : TyX K H (.ref a) (.type "list") := by
  rcases h with h | ⟨o, h⟩
  · exact .base (.lst h)
  · exact .base (.frz h)
theorem tyX_sqT {K : PySem.W.Frag} {H : Hp} {a : Addr} {vs : List V} (h : SqT K H a vs) : TyX K H (.ref a) (.type "tuple") := by
  rcases h with (h | ⟨o, h⟩) | ⟨o, its, n, h1, h2, _⟩
  · exact .base (.tup h)
  · exact .fTuple h
  · exact .kTuple h1 h2
theorem tyX_of {K : PySem.W.Frag} {F H : Hp} {v : V} {d : D} (hF : Same F H) (h : Dn K F v d) (hd : ∀ kvs, d ≠ .dict kvs) : TyX K H v (.type (tyD d)) := by
  cases d with
  | none => rw [dp_none h]; exact .base .non
  | bool b => rw [dp_bool h]; exact .base (.bl b)
  | int b => rw [dp_int h]; exact .base (.int b)
  | str b => rw [dp_str h]; exact .base (.str b)
  | tuple ds =>
    obtain ⟨a, vs, rfl, t1, _⟩ := dp_tup h
    exact tyX_sqT (sameT hF t1)
  | list ds =>
    obtain ⟨a, vs, rfl, t1, _⟩ := dp_lst h
    exact tyX_rdL (sameL hF t1)
  | dict kvs => exact absurd rfl (hd kvs)
def isT (T : String) : D → Bool
  | .none => false
  | .bool _ => T == "bool" || T == "int"
  | .int _ => T == "int"
  | .str _ => T == "str"
  | .tuple _ => T == "tuple"
  | .list _ => T == "list"
  | .dict _ => false
structure KitT (T : String) : Prop where
  n : ∀ K : PySem.W.Frag, PySem.W.kitOne K (.type "NoneType") (.type T) = some false
  b : ∀ K : PySem.W.Frag, PySem.W.kitOne K (.type "bool") (.type T) = some (T == "bool" || T == "int")
  i : ∀ K : PySem.W.Frag, PySem.W.kitOne K (.type "int") (.type T) = some (T == "int")
  s : ∀ K : PySem.W.Frag, PySem.W.kitOne K (.type "str") (.type T) = some (T == "str")
  t : ∀ K : PySem.W.Frag, PySem.W.kitOne K (.type "tuple") (.type T) = some (T == "tuple")
  l : ∀ K : PySem.W.Frag, PySem.W.kitOne K (.type "list") (.type T) = some (T == "list")
theorem kitInt : KitT "int" := ⟨fun _ => kit_ty (by decide +kernel), fun _ => kit_ty (by decide +kernel), fun _ => kit_ty (by decide +kernel), fun _ => kit_ty (by decide +kernel), fun _ => kit_ty (by decide +kernel), fun _ => kit_ty (by decide +kernel)⟩
theorem kitBool : KitT "bool" := ⟨fun _ => kit_ty (by decide +kernel), fun _ => kit_ty (by decide +kernel), fun _ => kit_ty (by decide +kernel), fun _ => kit_ty (by decide +kernel), fun _ => kit_ty (by decide +kernel), fun _ => kit_ty (by decide +kernel)⟩
theorem kitTuple : KitT "tuple" := ⟨fun _ => kit_ty (by decide +kernel), fun _ => kit_ty (by decide +kernel), fun _ => kit_ty (by decide +kernel), fun _ => kit_ty (by decide +kernel), fun _ => kit_ty (by decide +kernel), fun _ => kit_ty (by decide +kernel)⟩
theorem kitList : KitT "list" := ⟨fun _ => kit_ty (by decide +kernel), fun _ => kit_ty (by decide +kernel), fun _ => kit_ty (by decide +kernel), fun _ => kit_ty (by decide +kernel), fun _ => kit_ty (by decide +kernel), fun _ => kit_ty (by decide +kernel)⟩
theorem kitStr : KitT "str" := ⟨fun _ => kit_ty (by decide +kernel), fun _ => kit_ty (by decide +kernel), fun _ => kit_ty (by decide +kernel), fun _ => kit_ty (by decide +kernel), fun _ => kit_ty (by decide +kernel), fun _ => kit_ty (by decide +kernel)⟩
theorem KitT.of {T : String} (k : KitT T) (K : PySem.W.Frag) (d : D) (hd : ∀ kvs, d ≠ .dict kvs) : PySem.W.kitOne K (.type (tyD d)) (.type T) = some (isT T d) := by
  cases d with
  | none => exact k.n K
  | bool _ => exact k.b K
  | int _ => exact k.i K
  | str _ => exact k.s K
  | tuple _ => exact k.t K
  | list _ => exact k.l K
  | dict kvs => exact absurd rfl (hd kvs)
def noDict : D → Option D
  | .dict _ => none
  | d => some d
theorem noDict_some {d e : D} (h : noDict d = some e) : d = e ∧ ∀ kvs, d ≠ .dict kvs := by
  cases d <;> first | (cases h; done) | (cases h; exact ⟨rfl, nofun⟩)
section
variable {X : Cx} {R : Type} [Fam R] {L : LX} {pos p pT : Pos} {x T : Str} {Tn : String} {a b c e : Expr} {es : List Expr} {fa fb fc : M R Slot}
def vIsi (T : String) (fa : M R Slot) : M R Slot := bnd (toD fa) fun d => bnd (ofO (noDict d)) fun d => ret (.val (.bool (isT T d)))
theorem ve_isi (k : KitT Tn) (ha : PE X a (lift L fa)) (hK : X.K = L.K) (hg : Gl X "isinstance") (hm : X.mg "isinstance" = none) (hgT : Gl X T) (hmT : X.mg T = none) (hvT : bootBuiltins T = some (.type Tn)) (hv : bootBuiltins "isinstance" = some (.builtin "isinstance") := by decide +kernel)
    (hn : T ≠ "__name__" := by decide) (hd : (T == ("__debug__" : Str)) = false := by decide)
    (he : starEach [a, Expr.Name T pT] X.env = (false, eval a X.env) :: starEach [Expr.Name T pT] X.env := by rfl) (he2 : starEach [Expr.Name T pT] X.env = (false, eval (.Name T pT) X.env) :: starEach [] X.env := by rfl) (hpl : (backTo pos (starEach [Expr.Name T pT] X.env)).any (·.1) = false := by rfl) :
    PE X (.Call (.Name "isinstance" p) [a, .Name T pT] [] pos) (lift L (vIsi Tn fa)) :=
  peImp (pe_callB call_isi hg hm hv (pa_cons (useD ha) (pa_cons (pe_bltn (v := .ty Tn) hgT hmT hvT rfl hn hd) pa_nil he2) he) (by decide) (by decide) he hpl) fun σ H Q ⟨C, F, ρ, r, hR, g0⟩ =>
    ⟨C, F, ρ, r, hR, (Good.bnd g0).imp fun d ρ1 r1 F1 H1 R1 S1 g1 v dv => by
      cases z : noDict d with
      | none => rw [z] at g1; exact g1.elim
      | some d' =>
        rw [z] at g1
        obtain ⟨rfl, hd⟩ := noDict_some z
        exact ⟨v, .ty Tn, .type (tyD d), .type Tn, isT Tn d, rfl, .ty Tn, by rw [hK]; exact tyX_of R1.hel.fH dv hd, k.of _ d hd, g1 F1 H1 R1 (Same.refl _) _ ⟨.bl _, fun z => nomatch z⟩⟩⟩
/-- isinstance(x, (T, U)) -/
def vIsi2 (T U : String) (fa : M R Slot) : M R Slot := bnd (toD fa) fun d => bnd (ofO (noDict d)) fun d => ret (.val (.bool (isT T d || isT U d)))
theorem ve_isi2 {U : Str} {Un : String} {pU pt : Pos} {kt} (k : KitT Tn) (k2 : KitT Un) (ha : PE X a (lift L fa)) (hK : X.K = L.K) (hg : Gl X "isinstance") (hm : X.mg "isinstance" = none) (hgT : Gl X T) (hmT : X.mg T = none) (hvT : bootBuiltins T = some (.type Tn)) (hgU : Gl X U) (hmU : X.mg U = none) (hvU : bootBuiltins U = some (.type Un)) (hv : bootBuiltins "isinstance" = some (.builtin "isinstance") := by decide +kernel)
    (hn : T ≠ "__name__" := by decide) (hd : (T == ("__debug__" : Str)) = false := by decide) (hnU : U ≠ "__name__" := by decide) (hdU : (U == ("__debug__" : Str)) = false := by decide)
    (he : starEach [a, Expr.Tuple [.Name T pT, .Name U pU] kt pt] X.env = (false, eval a X.env) :: starEach [Expr.Tuple [.Name T pT, .Name U pU] kt pt] X.env := by rfl) (he2 : starEach [Expr.Tuple [.Name T pT, .Name U pU] kt pt] X.env = (false, eval (.Tuple [.Name T pT, .Name U pU] kt pt) X.env) :: starEach [] X.env := by rfl)
    (he3 : starEach [Expr.Name T pT, .Name U pU] X.env = (false, eval (.Name T pT) X.env) :: starEach [.Name U pU] X.env := by rfl) (he4 : starEach [Expr.Name U pU] X.env = (false, eval (.Name U pU) X.env) :: starEach [] X.env := by rfl)
    (hpl : (backTo pos (starEach [Expr.Tuple [.Name T pT, .Name U pU] kt pt] X.env)).any (·.1) = false := by rfl) :
    PE X (.Call (.Name "isinstance" p) [a, .Tuple [.Name T pT, .Name U pU] kt pt] [] pos) (lift L (vIsi2 Tn Un fa)) :=
  peImp (pe_callB call_isiT hg hm hv (pa_cons (useD ha) (pa_cons (pe_tup (pa_cons (pe_bltn (v := .ty Tn) hgT hmT hvT rfl hn hd) (pa_cons (pe_bltn (v := .ty Un) hgU hmU hvU rfl hnU hdU) pa_nil he4) he3)) pa_nil he2) he) (by decide) (by decide) he hpl) fun σ H Q ⟨C, F, ρ, r, hR, g0⟩ =>
    ⟨C, F, ρ, r, hR, (Good.bnd g0).imp fun d ρ1 r1 F1 H1 R1 S1 g1 v dv => by
      cases z : noDict d with
      | none => rw [z] at g1; exact g1.elim
      | some d' =>
        rw [z] at g1
        obtain ⟨rfl, hd⟩ := noDict_some z
        refine ⟨by show 2 ≤ sizeLine; rw [sizeLine_eq]; decide, fun tp np => ?_⟩
        have x1 : Ext F1 H1 F1 (upd H1 tp (.tup [.ty Tn, .ty Un])) := newAny R1.hel.fH np
        refine ⟨v, tp, [.ty Tn, .ty Un], .type (tyD d), [.type Tn, .type Un], isT Tn d || isT Un d, rfl, upd_same, .cons (.ty Tn) (.cons (.ty Un) .nil), by rw [hK]; exact tyX_of x1.fh dv hd, ?_, g1 F1 _ (R1.ext x1) (Same.refl _) _ ⟨.bl _, fun z => nomatch z⟩⟩
        refine kitAny_cons (k.of _ d hd) (fun hb => ?_) fun hb => by rw [hb] <;> rfl
        rw [hb, Bool.false_or]
        have h1 := k2.of X.K d hd
        unfold PySem.W.kitAny
        rw [h1]
        cases isT Un d <;> rfl⟩

/-! ### a < b < c -/
def vChain (g g' : D → D → Option Slot) (fa fb fc : M R Slot) : M R Slot := bnd (toD fa) fun d => bnd (toD fb) fun e => bnd (toB (fun ρ r => ofO (g d e) ρ r)) fun k => if k = true then (bnd (toD fc) fun f => ofO (g' e f)) else ret (.val (.bool false))
variable {g g' : D → D → Option Slot}
theorem chain_of {op op' : CmpOp} {σ : St} {H : Hp} {Q : VK} (h : lift L (vChain g g' fa fb fc) σ H Q) : tChain (rOf L.K g) (rOf L.K g') (liftD L (toD fa)) (liftD L (toD fb)) (liftD L (toD fc)) σ H Q := by
  obtain ⟨C, F, ρ, r, hR, g0⟩ := h
  refine ⟨C, F, ρ, r, hR, (Good.bnd g0).imp fun d ρ1 r1 F1 H1 R1 S1 g1 x dx => ⟨C, F1, ρ1, r1, R1, (Good.bnd g1).imp fun e ρ2 r2 F2 H2 R2 S2 g2 y dy => ?_⟩⟩
  unfold toB at g2
  cases z : g d e with
  | none =>
    have g3 := Good.bnd (Good.bnd g2)
    unfold ofO at g3
    rw [z] at g3
    exact g3.elim
  | some s =>
    have g3 := Good.bnd g2
    unfold bnd ofO at g3
    rw [z] at g3
    dsimp only [Res.bind] at g3
    refine ⟨F2, d, e, s, R2.hel.fH, dpS S2 d dx, dy, z, fun v F3 H3 x3 n3 => ?_⟩
    have R3 := R2.ext x3
    cases zb : boolOf s with
    | none => rw [zb] at g3; exact g3.elim
    | some k =>
      rw [zb] at g3
      have ok := (n3.res R2 x3).1
      refine ⟨k, boolOf_ok ok zb, ?_⟩
      have g4 := g3 F3 H3 R3 x3.ff
      dsimp only at g4
      cases k with
      | false => exact iteF (g4 F3 H3 R3 (Same.refl _) _ ⟨.bl false, fun z => nomatch z⟩)
      | true =>
        refine iteT ⟨C, F3, ρ2, r2, R3, (Good.bnd g4).imp fun f ρ4 r4 F4 H4 R4 S4 g5 w dw => ?_⟩
        obtain ⟨s5, e5, q5⟩ := fin_of R4 g5
        exact ⟨F4, e, f, s5, R4.hel.fH, dpS (x3.ff.trans S4) e dy, dw, e5, q5⟩
theorem ve_chain {op op' : CmpOp} (ho : OpR X (compareOp op) (rOf L.K g)) (ho' : OpR X (compareOp op') (rOf L.K g')) (ha : PE X a (lift L fa)) (hb : PE X b (lift L fb)) (hc : PE X c (lift L fc)) (hm : lastMarks [op, op'] [b, c] = false := by with_unfolding_all rfl) :
    PE X (.Compare a [op, op'] [b, c] pos) (lift L (vChain g g' fa fb fc)) := peImp (pe_chain ho ho' (useD ha) (useD hb) (useD hc) hm) fun _ _ _ h => chain_of (op := op) (op' := op') h
theorem vt_chain {op op' : CmpOp} (ho : OpR X (compareOp op) (rOf L.K g)) (ho' : OpR X (compareOp op') (rOf L.K g')) (ha : PE X a (lift L fa)) (hb : PE X b (lift L fb)) (hc : PE X c (lift L fc)) (hm : lastMarks [op, op'] [b, c] = false := by with_unfolding_all rfl) :
    PT X (.Compare a [op, op'] [b, c] pos) (liftT L (toB (vChain g g' fa fb fc))) := ptImp (pt_chain ho ho' (useD ha) (useD hb) (useD hc) hm) fun σ H Q ⟨C, F, ρ, r, hR, g0⟩ =>
  chain_of (op := op) (op' := op') ⟨C, F, ρ, r, hR, (Good.bnd g0).imp fun s ρ1 r1 F1 H1 R1 S1 g1 v rv => by
    unfold ofO at g1
    cases e : boolOf s with
    | none => rw [e] at g1; exact g1.elim
    | some b =>
      rw [e] at g1
      exact ⟨b, boolOf_ok rv.1 e, g1 F1 H1 R1 (Same.refl _)⟩⟩

/-! ### a[lo:hi] -/
def cutD (ds : List D) (lo hi : Option Int) : List D := (ds.drop (HT.sIx ds.length 0 lo)).take (HT.sIx ds.length ds.length hi - HT.sIx ds.length 0 lo)
def gSl (d : D) (lo hi : Option Int) : Option Slot := match d with
  | .tuple ds => some (.val (.tuple (cutD ds lo hi)))
  | .list ds => some (.own (cutD ds lo hi))
  | .str x => if x.length ≤ 1000000 then some (.val (.str (cutS x lo hi))) else none
  | _ => none
theorem cut_dn {K : PySem.W.Frag} {F : Hp} {vs : List V} {ds : List D} (lo hi : Option Int) (h : DnAll K F vs ds) : DnAll K F (cutV vs lo hi) (cutD ds lo hi) := by
  unfold cutV cutD
  rw [dpAll_len h]
  exact dpAll_take _ (dpAll_drop _ h)
theorem cut_whole {ds : List D} {lo hi : Option Int} (h : HT.sIx ds.length 0 lo = 0 ∧ HT.sIx ds.length ds.length hi = ds.length) : cutD ds lo hi = ds := by
  unfold cutD
  rw [h.1, h.2, List.drop_zero, Nat.sub_zero, List.take_length]
def rSlV (K : PySem.W.Frag) : V → Option Int → Option Int → Hp → VK → Prop := fun x lo hi H Q => ∃ F d s, Same F H ∧ Dn K F x d ∧ gSl d lo hi = some s ∧ ∀ v F' H', Ext F H F' H' → NewOk K F' H H' v s → Q v H'
theorem sl_v : SlR X (rSlV X.K) := by
  intro pins s σ H x v vl vu lo hi sl Q I rx hs pl pu h
  obtain ⟨F, d, s0, hF, hd, hg, q⟩ := h
  cases d with
  | tuple ds =>
    cases hg
    obtain ⟨ad, vs, rfl, t1, t2⟩ := dp_tup hd
    refine sl_tupA pins s σ H _ v vl vu lo hi sl Q I rx hs pl pu ⟨ad, vs, rfl, sameT hF t1, fun hw => ?_, fun hw p np => q_tup hF q rfl (cut_dn lo hi t2) np⟩
    rw [dpAll_len t2] at hw
    exact q_val hF q rfl (by rw [cut_whole hw]; exact hd)
  | list ds =>
    cases hg
    obtain ⟨ad, vs, rfl, t1, t2⟩ := dp_lst hd
    exact sl_list pins s σ H _ v vl vu lo hi sl Q I rx hs pl pu ⟨ad, vs, rfl, .inl (sameL hF t1), fun p np => q_lst hF q rfl (cut_dn lo hi t2) np⟩
  | str y =>
    have hg' : (if y.length ≤ 1000000 then some (Slot.val (.str (cutS y lo hi))) else none) = some s0 := hg
    by_cases hl : y.length ≤ 1000000
    · rw [if_pos hl] at hg'
      cases hg'
      exact sl_str pins s σ H _ v vl vu lo hi sl Q I rx hs pl pu ⟨y, dp_str hd, Nat.le_trans hl (by rw [sizeLine_eq]; decide), q_val hF q rfl (.str _)⟩
    · rw [if_neg hl] at hg'; cases hg'
  | _ => cases hg
/-- a bound -/
def liftO (L : LX) (f : M R (Option Int)) : TO := fun σ H Q => ∃ (C : Ctx R) (F : Hp) (ρ : List Slot) (r : R), Rel L.K C F σ H ρ r ∧ Good L C σ F (f ρ r) fun o _ _ _ H' => Q o H'
def oNone : M R (Option Int) := ret none
def oSome (fa : M R Slot) : M R (Option Int) := bnd (toD fa) fun d => bnd (ofO (intOf d)) fun i => ret (some i)
theorem poImp {e : Option Expr} {t t' : TO} (h : PO X e t) (w : ∀ σ H Q, t' σ H Q → t σ H Q) : PO X e t' := ⟨fun pins s σ H Q I q => h.run pins s σ H Q I (w _ _ _ q)⟩
theorem vo_none : PO X none (liftO L (oNone : M R (Option Int))) := poImp po_none fun σ H Q ⟨C, F, ρ, r, hR, g0⟩ => g0 F H hR (Same.refl _)
theorem intOf_some {d : D} {i : Int} (h : intOf d = some i) : d = .int i := by cases d <;> cases h; rfl
theorem vo_some (ha : PE X a (lift L fa)) : PO X (some a) (liftO L (oSome fa)) := poImp (po_some (useD ha)) fun σ H Q ⟨C, F, ρ, r, hR, g0⟩ => ⟨C, F, ρ, r, hR, (Good.bnd g0).imp fun d ρ1 r1 F1 H1 R1 S1 g1 v dv => by
  cases z : intOf d with
  | none => rw [z] at g1; exact g1.elim
  | some i =>
    rw [z] at g1
    cases intOf_some z
    exact ⟨i, dp_int dv, g1 F1 H1 R1 (Same.refl _)⟩⟩
def vSlice (fa : M R Slot) (lo hi : M R (Option Int)) : M R Slot := bnd (toD fa) fun d => bnd lo fun l => bnd hi fun u => ofO (gSl d l u)
theorem ve_slice {lo hi : Option Expr} {fl fh : M R (Option Int)} {p2 : Pos} (hK : X.K = L.K) (ha : PE X a (lift L fa)) (hl : PO X lo (liftO L fl)) (hh : PO X hi (liftO L fh)) : PE X (.Subscript a (.Slice lo hi none p2) pos) (lift L (vSlice fa fl fh)) :=
  peImp (pe_slice sl_v (useD ha) hl hh) fun σ H Q ⟨C, F, ρ, r, hR, g0⟩ => ⟨C, F, ρ, r, hR, (Good.bnd g0).imp fun d ρ1 r1 F1 H1 R1 S1 g1 v dv => ⟨C, F1, ρ1, r1, R1, (Good.bnd g1).imp fun l ρ2 r2 F2 H2 R2 S2 g2 =>
    ⟨C, F2, ρ2, r2, R2, (Good.bnd g2).imp fun u ρ3 r3 F3 H3 R3 S3 g3 => by
      obtain ⟨s, e1, q⟩ := fin_of R3 g3
      rw [hK]
      exact ⟨F3, d, s, R3.hel.fH, dpS (S2.trans S3) d dv, e1, q⟩⟩⟩⟩

/-! ### repeats -/
end
theorem tuple_mul1 (l : Addr) (items : Array Value) (n : Nat) (dd : Option Addr) (sl : Array (Option Value)) (x : Int) (u : Tok) (c0 : (decide (x < -(2 ^ 63)) || decide (x ≥ 2 ^ 63)) = false) (c1 : (items.isEmpty || x == 1) = true) :
    Meets (Builtin.«tuple.__mul__» ⟨[.ref l, .int x u], []⟩) (fun _ R s => s.heap.get? l = some { cls := .type "tuple", dict := dd, data := .seq items n, slots := sl } ∧ R (.ok (.ret (Value.ref l))) s) :=
  .of_wp fun prog w A R s h => by
    obtain ⟨hp, g, d, tk, os⟩ := s
    obtain ⟨hl, h⟩ := h
    have f1 := AutoSeq1.idx_int
    wp_walk using wpAny_loadPart' hl
    repeat (first
      | (refine wpAny_ite_false (decide_eq_false (by rw [c0]; exact Bool.false_ne_true)) ?_; wp_walk using wpAny_loadPart' hl)
      | (refine wpAny_ite_true (decide_eq_true c1) ?_; wp_walk using wpAny_loadPart' hl))
    all_goals exact ⟨_, rfl, h⟩
theorem tuple_mul0 (l : Addr) (items : Array Value) (n : Nat) (dd : Option Addr) (sl : Array (Option Value)) (x : Int) (u : Tok) (c0 : (decide (x < -(2 ^ 63)) || decide (x ≥ 2 ^ 63)) = false) (c1 : (items.isEmpty || x == 1) = false) (c2 : (decide (x ≤ 0) || items.isEmpty) = true) :
    Meets (Builtin.«tuple.__mul__» ⟨[.ref l, .int x u], []⟩) (fun _ R s => s.heap.get? l = some { cls := .type "tuple", dict := dd, data := .seq items n, slots := sl } ∧
      R (.ok (.ret (Value.ref s.heap.objs.size))) { s with heap := s.heap.push { cls := Value.type "tuple", data := Data.seq #[] }, toks := s.toks }) :=
  .of_wp fun prog w A R s h => by
    obtain ⟨hp, g, d, tk, os⟩ := s
    obtain ⟨hl, h⟩ := h
    have f1 := AutoSeq1.idx_int
    wp_walk using wpAny_loadPart' hl
    repeat (first
      | (refine wpAny_ite_false (decide_eq_false (by rw [c0]; exact Bool.false_ne_true)) ?_; wp_walk using wpAny_loadPart' hl)
      | (refine wpAny_ite_false (decide_eq_false (by rw [c1]; exact Bool.false_ne_true)) ?_; wp_walk using wpAny_loadPart' hl)
      | (refine wpAny_ite_true (decide_eq_true c2) ?_; wp_walk using wpAny_loadPart' hl))
    all_goals exact ⟨_, rfl, h⟩
end L2.VL

/-! VL8: repeats, t[::-1], calls with defaults and keywords. -/
namespace L2.VL
open PySem PySem.Spec PyProof.Rows

section
variable {X : Cx}
/-- a tuple times an int -/
theorem rep_tup {pins : List (Addr × Obj)} {s : Shared} {σ : St} {H : Hp} {l : Addr} {k : Int} {xs : List V} {v u : Value} {Q : VK} (I : Inv X pins σ H s) (rx : RelV (.ref l) v) (ry : RelV (.int k) u) (hT : SqT X.K H l xs) (h1 : -1000000 ≤ k ∧ k ≤ 1000000) (hz : xs.length * k.toNat ≤ 1000000)
    (qs : (List.replicate k.toNat xs).flatten = xs → Q (.ref l) H) (qn : ∀ p, H p = none → Q (.ref p) (upd H p (.tup (List.replicate k.toNat xs).flatten))) : wpAny (model X.prog X.w) X.A (binaryOp .Mult v u) (EP X pins σ Q) X.xe s := by
  cases rx
  obtain ⟨t, rfl⟩ := ry
  obtain ⟨its, r, ⟨⟨cls, dd, data, sl⟩, ho, hc, n, hd⟩, hs⟩ := I.tuple hT
  simp only at hc hd
  subst hc hd
  have hle : its.length = xs.length := r.length.symm
  have hsz0 : its.toArray.size = xs.length := by rw [List.size_toArray, hle]
  have c0 : (decide (k < -(2 ^ 63)) || decide (k ≥ 2 ^ 63)) = false := by
    rw [decide_eq_false (by omega), decide_eq_false (by omega)] <;> rfl
  by_cases e1 : (its.toArray.isEmpty || k == 1) = true
  · refine wpAny_binaryOp_repeat_ref (T := "tuple") (U := "int") (by decide) ⟨_, ho, rfl⟩ (fun s' => typeIs_int s' k t) noFill_tuple_mul F.fills_int_mul F.slot_int_rmul repeat_tuple F.slot_int_index.lookup
      (call_meets F.slot_int_rmul (typeIs_int s k t) F.entry_int_rmul (F.args_int_rmul_2 _ _) (int_rmul_tuple k t l its.toArray n dd sl)
        ⟨ho, rfl, ⟨_, ho, rfl⟩, call_meets F.slot_tuple_mul ⟨_, ho, rfl⟩ F.entry_tuple_mul (F.args_tuple_mul_2 _ _) (tuple_mul1 l its.toArray n dd sl k t c0 e1) ⟨ho, ?_⟩⟩)
    refine ⟨.ref l, H, I.tok _, rfl, qs ?_⟩
    rw [Bool.or_eq_true] at e1
    rcases e1 with e1 | e1
    · have : xs = [] := List.eq_nil_of_length_eq_zero (by
        rw [← hle]
        cases its with
        | nil => rfl
        | cons a b => simp at e1)
      subst this
      simp
    · have : k = 1 := eq_of_beq e1
      subst this
      simp
  · have e1' : (its.toArray.isEmpty || k == 1) = false := by simpa using e1
    by_cases e2 : (decide (k ≤ 0) || its.toArray.isEmpty) = true
    · refine wpAny_binaryOp_repeat_ref (T := "tuple") (U := "int") (by decide) ⟨_, ho, rfl⟩ (fun s' => typeIs_int s' k t) noFill_tuple_mul F.fills_int_mul F.slot_int_rmul repeat_tuple F.slot_int_index.lookup
        (call_meets F.slot_int_rmul (typeIs_int s k t) F.entry_int_rmul (F.args_int_rmul_2 _ _) (int_rmul_tuple k t l its.toArray n dd sl)
          ⟨ho, rfl, ⟨_, ho, rfl⟩, call_meets F.slot_tuple_mul ⟨_, ho, rfl⟩ F.entry_tuple_mul (F.args_tuple_mul_2 _ _) (tuple_mul0 l its.toArray n dd sl k t c0 e1' e2) ⟨ho, ?_⟩⟩)
      have e0 : (List.replicate k.toNat xs).flatten = [] := by
        rw [Bool.or_eq_true] at e2
        rcases e2 with e2 | e2
        · have : k.toNat = 0 := by have := of_decide_eq_true e2; omega
          rw [this]; rfl
        · rw [e2, Bool.true_or] at e1'; cases e1'
      rw [e0] at qn
      refine ⟨.ref s.heap.objs.size, _, I.laid (t' := s.toks) (o := .tup []) (fun b ob q => Heap.get?_push_of_some _ q) (Nat.le_refl _) ?_, rfl, qn _ (I.hok.fresh (Nat.le_refl _))⟩
      exact ⟨Nat.zero_le _, [], .nil, IsTup.new _ _⟩
    · have e2' : (decide (k ≤ 0) || its.toArray.isEmpty) = false := by simpa using e2
      have flen : (List.replicate k.toNat its).flatten.length ≤ 1000000 := by
        rw [PyProof.Rows.lm_len_rep_flat, hle, Nat.mul_comm]
        exact hz
      have k0 : 0 < k := by
        by_cases z : 0 < k
        · exact z
        · rw [decide_eq_true (show k ≤ 0 by omega), Bool.true_or] at e2'; cases e2'
      have hm : ((its.toArray.size : Nat) : Int) * k ≤ 1000000 := by
        rw [hsz0]
        have e3 : ((xs.length * k.toNat : Nat) : Int) = ((xs.length : Nat) : Int) * k := by
          rw [Int.natCast_mul, Int.toNat_of_nonneg (by omega)]
        omega
      have c4 : Builtin.Tuple.tupleTooMany (((its.toArray.size : Nat) : Int) * k) = false := by
        unfold Builtin.Tuple.tupleTooMany
        rw [sizeLine_eq]
        exact decide_eq_false (by omega)
      have f16 : (List.replicate k.toNat its).flatten.length ≤ sizeLine := by rw [sizeLine_eq]; omega
      refine wpAny_binaryOp_repeat_ref (T := "tuple") (U := "int") (by decide) ⟨_, ho, rfl⟩ (fun s' => typeIs_int s' k t) noFill_tuple_mul F.fills_int_mul F.slot_int_rmul repeat_tuple F.slot_int_index.lookup
        (call_meets F.slot_int_rmul (typeIs_int s k t) F.entry_int_rmul (F.args_int_rmul_2 _ _) (int_rmul_tuple k t l its.toArray n dd sl)
          ⟨ho, rfl, ⟨_, ho, rfl⟩, call_meets F.slot_tuple_mul ⟨_, ho, rfl⟩ F.entry_tuple_mul (F.args_tuple_mul_2 _ _) (tuple_mulW l its.toArray n dd sl k t c0 e1' e2' (by omega) c4 (by rw [size_rep, List.size_toArray]; exact f16)) ⟨ho, ?_⟩⟩)
      rw [size_rep]
      refine ⟨.ref s.heap.objs.size, _, I.laid (t' := s.toks) (o := .tup (List.replicate k.toNat xs).flatten) (fun b ob q => Heap.get?_push_of_some _ q) (Nat.le_refl _) ?_, rfl, qn _ (I.hok.fresh (Nat.le_refl _))⟩
      have hv := r.rep k.toNat
      exact ⟨by rw [hv.length]; exact f16, _, hv, IsTup.new _ _⟩
/-- a list times an int -/
theorem rep_lst {pins : List (Addr × Obj)} {s : Shared} {σ : St} {H : Hp} {l : Addr} {k : Int} {xs : List V} {v u : Value} {Q : VK} (I : Inv X pins σ H s) (rx : RelV (.ref l) v) (ry : RelV (.int k) u) (hH : Rd H l (.lst xs)) (h1 : -1000000 ≤ k ∧ k ≤ 1000000) (hz : xs.length * k.toNat ≤ 1000000)
    (q : ∀ p, H p = none → Q (.ref p) (upd H p (.lst (List.replicate k.toNat xs).flatten))) : wpAny (model X.prog X.w) X.A (binaryOp .Mult v u) (EP X pins σ Q) X.xe s := by
  cases rx
  obtain ⟨t, rfl⟩ := ry
  obtain ⟨its, n, r, e, z⟩ := rd_lst hH I.hok
  have hl : xs.length = its.length := r.length
  have hlen : its.toArray.size * k.toNat ≤ sizeLine := by rw [List.size_toArray, ← hl, sizeLine_eq]; omega
  have hcap : ¬ its.toArray.size * k.toNat > (2 ^ 63 - 1) / 8 := by
    have : (sizeLine : Nat) ≤ (2 ^ 63 - 1) / 8 := by decide
    omega
  have hfit : ¬ (!Builtin.List.listFitsIndex k) = true := by
    rw [fitsIndex_both (by omega) (by omega)]
    exact Bool.false_ne_true
  have hlong : ¬ Builtin.List.listTooLong (its.toArray.size * k.toNat) = true := by
    rw [notLongL hlen]
    exact Bool.false_ne_true
  have hnew : List.foldl (fun x1 x2 => x1 ++ x2) #[] (List.replicate (if its.toArray.isEmpty = true then 0 else k.toNat) its.toArray) = (List.replicate k.toNat its).flatten.toArray := by
    have f0 : ∀ m : Nat, List.foldl (fun x1 x2 => x1 ++ x2) #[] (List.replicate m its.toArray) = (List.replicate m its).flatten.toArray := fun m => by
      have := foldl_rep its m []
      rw [List.nil_append] at this
      exact this
    rw [f0]
    cases its with
    | nil => simp
    | cons a r' => rw [if_neg (by simp)]
  refine wpAny_binaryOp_repeat_ref (T := "list") (U := "int") (by decide) ⟨_, e, rfl⟩ (fun s' => typeIs_int s' k t) noFill_list_mul F.fills_int_mul F.slot_int_rmul repeat_list F.slot_int_index.lookup
    (call_meets F.slot_int_rmul (typeIs_int s k t) F.entry_int_rmul (F.args_int_rmul_2 _ _) (int___rmul___int_list k t l its.toArray n)
      ⟨e, rfl, ⟨_, e, rfl⟩, call_meets F.slot_list_mul ⟨_, e, rfl⟩ F.entry_list_mul (F.args_list_mul_2 _ _) (AutoListH.list___mul___list_int_3 l its.toArray n k t hfit hcap hlong) ⟨e, ?_⟩⟩)
  rw [hnew]
  exact ⟨.ref _, _, I.lnew (t' := s.toks) (r.rep k.toNat) (by rw [PyProof.Rows.lm_len_rep_flat, Nat.mul_comm, sizeLine_eq]; omega), rfl, q _ I.fresh⟩
def gMul : D → D → Option Slot
  | .int i, .int j => if mulOk i j then some (.val (.int (i * j))) else none
  | .tuple xs, .int k => if k.natAbs ≤ 1000000 ∧ xs.length * k.toNat ≤ 1000000 then some (.val (.tuple (List.replicate k.toNat xs).flatten)) else none
  | .list xs, .int k => if k.natAbs ≤ 1000000 ∧ xs.length * k.toNat ≤ 1000000 then some (.own (List.replicate k.toNat xs).flatten) else none
  | _, _ => none
theorem dnAll_rep {K : PySem.W.Frag} {F : Hp} {vs : List V} {ds : List D} (h : DnAll K F vs ds) : ∀ n : Nat, DnAll K F (List.replicate n vs).flatten (List.replicate n ds).flatten
  | 0 => .nil
  | n + 1 => by
    rw [List.replicate_succ, List.replicate_succ, List.flatten_cons, List.flatten_cons]
    exact dpAll_app h (dnAll_rep h n)
theorem ov_mul : OpV X (binaryOp .Mult) gMul := by
  intro pins s σ H x y v u Q I rx ry h
  obtain ⟨F, d, e, sl, hF, hd, he, hg, q⟩ := h
  cases d with
  | int i =>
    cases e with
    | int j => exact ov_mulI pins s σ H x y v u Q I rx ry ⟨F, _, _, sl, hF, hd, he, hg, q⟩
    | _ => cases hg
  | tuple xs =>
    cases e with
    | int k =>
      have hg' : (if k.natAbs ≤ 1000000 ∧ xs.length * k.toNat ≤ 1000000 then some (Slot.val (.tuple (List.replicate k.toNat xs).flatten)) else none) = some sl := hg
      by_cases hm : k.natAbs ≤ 1000000 ∧ xs.length * k.toNat ≤ 1000000
      · rw [if_pos hm] at hg'
        cases hg'
        cases dp_int he
        obtain ⟨a, vs, rfl, t1, t2⟩ := dp_tupH hd
        refine rep_tup I rx ry (.of (hF _ _ t1)) ⟨by omega, by omega⟩ (by rw [dpAll_len t2]; exact hm.2) (fun e0 => ?_) fun p np => q_tup hF q rfl (dnAll_rep t2 k.toNat) np
        have t3 := dnAll_rep t2 k.toNat
        rw [e0] at t3
        exact q_val hF q rfl (.tup t1 t3)
      · rw [if_neg hm] at hg'; cases hg'
    | _ => cases hg
  | list xs =>
    cases e with
    | int k =>
      have hg' : (if k.natAbs ≤ 1000000 ∧ xs.length * k.toNat ≤ 1000000 then some (Slot.own (List.replicate k.toNat xs).flatten) else none) = some sl := hg
      by_cases hm : k.natAbs ≤ 1000000 ∧ xs.length * k.toNat ≤ 1000000
      · rw [if_pos hm] at hg'
        cases hg'
        cases dp_int he
        obtain ⟨a, vs, rfl, t1, t2⟩ := dp_lst hd
        exact rep_lst I rx ry (sameL hF t1) ⟨by omega, by omega⟩ (by rw [dpAll_len t2]; exact hm.2) fun p np => q_lst hF q rfl (dnAll_rep t2 k.toNat) np
      · rw [if_neg hm] at hg'; cases hg'
    | _ => cases hg
  | _ => cases hg
end

/-! ### t[::-1] -/
theorem filterMap_of {α β : Type} {f : α → Option β} {g : α → β} : ∀ (l : List α), (∀ m ∈ l, f m = some (g m)) → l.filterMap f = l.map g
  | [], _ => rfl
  | a :: l, h => by
    rw [List.filterMap_cons, h a List.mem_cons_self, List.map_cons, filterMap_of l fun m hm => h m (List.mem_cons_of_mem _ hm)]
theorem rev_pick (xs : List Value) : ((List.range xs.length).filterMap fun (m : Nat) => xs.toArray[((xs.length : Int) - 1 + (m : Int) * (-1)).toNat]?).toArray = xs.reverse.toArray := by
  have h : ∀ m, m < xs.length → ((xs.length : Int) - 1 + (m : Int) * (-1)).toNat = xs.length - 1 - m := fun m hm => by omega
  congr 1
  apply List.ext_getElem?
  intro i
  have e : (List.range xs.length).filterMap (fun (m : Nat) => xs.toArray[((xs.length : Int) - 1 + (m : Int) * (-1)).toNat]?) = (List.range xs.length).map fun m => xs.getD (xs.length - 1 - m) .none := by
    refine filterMap_of _ fun m hm => ?_
    have hm' := List.mem_range.mp hm
    rw [h m hm']
    show xs.toArray[xs.length - 1 - m]? = some _
    rw [List.getElem?_toArray, List.getD_eq_getElem?_getD, List.getElem?_eq_getElem (by omega)]
    rfl
  rw [e, List.getElem?_map]
  rcases Nat.lt_or_ge i xs.length with hi | hi
  · rw [List.getElem?_range hi, List.getElem?_reverse hi, List.getElem?_eq_getElem (by omega)]
    show some (xs.getD (xs.length - 1 - i) .none) = _
    rw [List.getD_eq_getElem?_getD, List.getElem?_eq_getElem (by omega)]
    rfl
  · rw [List.getElem?_eq_none (by simpa using hi), List.getElem?_eq_none (by simpa using hi)]
    rfl
section
variable {prog : Program} {w : World} {A : Around} {E : Value → Shared → Prop} {s : Shared}
theorem sliceApplied_rev {sl : Addr} {vl vu vs : Value} {n : Nat} {Q : Int × Int × Nat → Shared → Prop} (hs : s.heap.IsSliceOf sl vl vu vs) (pl : IsPart vl none) (pu : IsPart vu none) (ps : IsPart vs (some (-1)))
    (h : Q ((n : Int) - 1, -1, n) s) : wpAny (model prog w) A (Builtin.Slice.sliceApplied (.ref sl) (pure (n : Int))) Q E s := by
  obtain ⟨os, hos, hcs, hds⟩ := id hs
  unfold Builtin.Slice.sliceApplied Builtin.Slice.sliceFields
  refine wpAny_bind (wpAny_bind (wpAny_field hos hds (x := vl) rfl (wpAny_bind (wpAny_field hos hds (x := vu) rfl (wpAny_bind (wpAny_field hos hds (x := vs) rfl (wpAny_pure ?_)))))))
  refine wpAny_bind (HT.slicePart_ ps ?_)
  show wpAny _ _ (if ((-1 : Int) == 0) = true then _ else _) _ _ s
  rw [if_neg (by decide)]
  refine wpAny_bind (HT.slicePart_ pl (wpAny_bind (HT.slicePart_ pu (wpAny_bind (wpAny_pure ?_)))))
  show wpAny _ _ (match Builtin.Slice.sliceAdjust none none (-1) (n : Int) with | (lo, hi) => pure (lo, (-1 : Int), Builtin.Slice.slicePlaces lo hi (-1))) _ _ s
  have e1 : Builtin.Slice.sliceAdjust none none (-1) (n : Int) = ((n : Int) - 1, -1) := rfl
  rw [e1]
  have e2 : Builtin.Slice.slicePlaces ((n : Int) - 1) (-1) (-1) = n := by
    unfold Builtin.Slice.slicePlaces
    rw [if_neg (by decide)]
    by_cases h0 : n = 0
    · subst h0; rfl
    · rw [if_pos (by omega)]
      have : ((n : Int) - 1 - -1 - 1) / (- -1) + 1 = n := by
        rw [show (- -1 : Int) = 1 by decide, Int.ediv_one]; omega
      rw [this, Int.toNat_natCast]
  show wpAny _ _ (pure ((n : Int) - 1, (-1 : Int), Builtin.Slice.slicePlaces ((n : Int) - 1) (-1) (-1))) _ _ s
  rw [e2]
  exact wpAny_pure h
theorem getItem_tuple_rev {t sl : Addr} {its : List Value} {vl vu vs : Value} {Q : Value → Shared → Prop} (ht : IsTup s.heap t its.toArray) (hs : s.heap.IsSliceOf sl vl vu vs) (pl : IsPart vl none) (pu : IsPart vu none) (ps : IsPart vs (some (-1)))
    (h : Q (.ref s.heap.objs.size) { s with heap := s.heap.push { cls := .type "tuple", data := .seq its.reverse.toArray } })
    (hsz : its.length ≤ sizeLine) : wpAny (model prog w) A (getItem (.ref t) (.ref sl)) Q E s := by
  have htake : sizeOk (.seq its.reverse.toArray) := by
    show its.reverse.toArray.size ≤ sizeLine
    rw [List.size_toArray, List.length_reverse]
    exact hsz
  obtain ⟨os, hos, hcs, hds⟩ := id hs
  have hTs : s.TypeIs (.ref sl) "slice" := ⟨os, hos, hcs⟩
  unfold getItem
  try with_reducible refine wpAny_holding ?_
  first | refine wpAny_bind (wpAny_pure ?_) | skip
  refine wpAny_bind (wpAny_sequenceKey ht.typeIs (by decide) ?_)
  refine wpAny_bind (wpAny_callSpecial?_slot (name := Str.ofString "__getitem__") ht.typeIs PyProof.Rows.slot_tuple_getitem
    (wpAny_call_entry PyProof.Rows.slot_tuple_getitem ht.typeIs entry_tuple_getitem ?_ (args_tuple_getitem _ _)))
  show wpAny _ _ (Builtin.Tuple.tupleItemsOf (.ref t) >>= _) _ _ s
  refine wpAny_bind (tupleItemsOf_ ht ?_)
  refine wpAny_bind (wpAny_typeOf hTs ?_)
  rw [if_pos (by decide)]
  refine wpAny_bind (sliceApplied_rev hs pl pu ps ?_)
  have hno : ¬ ((((its.toArray.size : Int) - 1) == 0 && (-1 : Int) == 1 && its.toArray.size == its.toArray.size) = true) := by
    intro q
    rw [Bool.and_eq_true, Bool.and_eq_true] at q
    exact absurd (eq_of_beq q.1.2) (by decide)
  show wpAny _ _ (if ((((its.toArray.size : Int) - 1) == 0 && (-1 : Int) == 1 && its.toArray.size == its.toArray.size) = true) then _ else _) _ _ s
  have e : ((List.range its.toArray.size).filterMap fun (k : Nat) => its.toArray[(((its.toArray.size : Int) - 1) + (k : Int) * (-1)).toNat]?).toArray = its.reverse.toArray := by
    rw [List.size_toArray]; exact rev_pick its
  rw [if_neg hno, e]
  first
    | exact wpAny_bind (m := Builtin.Tuple.tupleExact _) (wpAny_newObj_type (wpAny_pure ⟨_, rfl, wpAny_pure h⟩) htake)
    | exact wpAny_bind (m := Builtin.Tuple.tupleExact _) (wpAny_newObj_type (wpAny_bind (wpAny_pure (wpAny_pure ⟨_, rfl, wpAny_pure h⟩))) htake)
    | exact wpAny_bind (wpAny_bind (m := Builtin.Tuple.tupleExact _) (wpAny_newObj_type (wpAny_pure (wpAny_pure ⟨_, rfl, wpAny_pure h⟩)) htake))
    | exact wpAny_bind (wpAny_bind (m := Builtin.Tuple.tupleExact _) (wpAny_newObj_type (wpAny_pure ⟨_, rfl, wpAny_pure h⟩) htake))
end
section
variable {X : Cx} {R : Type} [Fam R] {L : LX} {pos p : Pos} {e : Expr} {fa : M R Slot}
def tRevT (K : PySem.W.Frag) (te : TE) : TE := fun σ H Q => te σ H fun x H1 => ∃ a xs, x = .ref a ∧ SqT K H1 a xs ∧ ∀ p, H1 p = none → Q (.ref p) (upd H1 p (.tup xs.reverse))
theorem pe_revT {e : Expr} {te : TE} {k : Nat} {p1 p2 p3 pos : Pos} (he : PE X e te) : PE X (.Subscript e (.Slice none none (some (.UnaryOp .USub (.Constant (.int 1) k p1) p2)) p3) pos) (tRevT X.K te) := by
  refine ⟨fun pins s σ H Q I h => ?_⟩
  refine Subscript_ (thn (he.run pins s σ H _ I h) fun v s1 ⟨x, H1, I1, r1, q1⟩ => ?_)
  obtain ⟨a, xs, ex, hx, q⟩ := q1
  subst ex
  cases r1
  have hst : PO X (some (.UnaryOp .USub (.Constant (.int 1) k p1) p2)) (tPart (tUn (rU fun i => .int (-i)) (tC (.int 1)))) := po_some (pe_un un_neg pe_int)
  refine wpAny_Slice (thn (po_none.run pins s1 σ H1 (fun o H2 => o = none ∧ H2 = H1) I1 ⟨rfl, rfl⟩) fun vl s2 ⟨l, H2, I2, pl, el, e2⟩ => ?_)
  subst el e2
  refine thn (po_none.run pins s2 σ H2 (fun o H3 => o = none ∧ H3 = H2) I2 ⟨rfl, rfl⟩) fun vu s3 ⟨u, H3, I3, pu, eu, e3⟩ => ?_
  subst eu e3
  refine thn (hst.run pins s3 σ H3 (fun o H4 => o = some (-1) ∧ H4 = H3) I3 ⟨1, rfl, -1, rfl, rfl, rfl⟩) fun vs s4 ⟨o, H4, I4, ps, eo, e4⟩ => ?_
  subst eo e4
  have I5 : Inv X pins σ H4 { s4 with heap := s4.heap.push { cls := .type "slice", data := .fields #[vl, vu, vs] } } := I4.kept (t' := s4.toks) fun b ob q => Heap.get?_push_of_some _ q
  obtain ⟨its, r, ht, hz⟩ := I5.tuple hx
  have hlen := r.length
  show wpAny (model X.prog X.w) X.A (subscriptTail e (.Slice none none (some (.UnaryOp .USub (.Constant (.int 1) k p1) p2)) p3) (.ref a) (.ref s4.heap.objs.size)) (EP X pins σ Q) X.xe { s4 with heap := s4.heap.push { cls := .type "slice", data := .fields #[vl, vu, vs] } }
  refine tail_any (ops := [.ref a, .ref s4.heap.objs.size]) ht.typeIs (PyProof.Rows.slot_tuple_getitem.lookup) ?_ (by with_unfolding_all rfl)
  refine getItem_tuple_rev ht (Heap.IsSliceOf.new _ vl vu vs) pl pu ps ?_ (by omega)
  refine ⟨.ref _, _, I5.laid (t' := s4.toks) (o := .tup xs.reverse) (fun b ob q => Heap.get?_push_of_some _ q) (Nat.le_refl _) ?_, rfl, q _ (I5.hok.fresh (Nat.le_refl _))⟩
  exact ⟨by rw [List.length_reverse]; exact hz, _, r.reverse, IsTup.new _ _⟩
def gRev : D → Option Slot
  | .tuple ds => some (.val (.tuple ds.reverse))
  | _ => none
theorem dnAll_rev {K : PySem.W.Frag} {F : Hp} : ∀ {vs : List V} {ds : List D}, DnAll K F vs ds → DnAll K F vs.reverse ds.reverse
  | _, _, .nil => .nil
  | _, _, .cons h t => by
    rw [List.reverse_cons, List.reverse_cons]
    exact dpAll_app (dnAll_rev t) (.cons h .nil)
theorem ve_rev {k : Nat} {p1 p2 p3 : Pos} (hK : X.K = L.K) (ha : PE X e (lift L fa)) : PE X (.Subscript e (.Slice none none (some (.UnaryOp .USub (.Constant (.int 1) k p1) p2)) p3) pos) (lift L (vUn gRev fa)) :=
  peImp (pe_revT (useD ha)) fun σ H Q ⟨C, F, ρ, r, hR, g0⟩ => ⟨C, F, ρ, r, hR, (Good.bnd g0).imp fun d ρ1 r1 F1 H1 R1 S1 g1 v dv => by
    obtain ⟨s, e1, q⟩ := fin_of R1 g1
    cases d with
    | tuple ds =>
      cases e1
      obtain ⟨a, vs, rfl, t1, t2⟩ := dp_tup dv
      exact ⟨a, vs, rfl, by rw [hK]; exact sameT R1.hel.fH t1, fun p np => q_tup R1.hel.fH q rfl (dnAll_rev t2) np⟩
    | _ => cases e1⟩
end

/-! ### calls with defaults; calls by keywords -/
section
variable {X : Cx} {R : Type} [Fam R] {L : LX} {pos p : Pos} {x : Str} {e : Expr} {es : List Expr} {fs : M R (List D)} {st : Stmt} {dvs : List V} {ps : List Str} {m : List D → POut} {k : Nat}
theorem DefAt.funD {K : PySem.W.Frag} {mg : Str → Option Value} {f : Addr} {fd : FuncData} (A : DefAt K mg x st dvs f fd) : FunD K x x (defArgs st) (defBody st) (defScope st) dvs [] f fd := by
  obtain ⟨oc, od, dV, kV, doc, pm, an, cdv, ct, osl, rfl, lk, hcd, hD⟩ := A.ex
  exact ⟨⟨oc, od, dV, kV, doc, pm, an, cdv, ct, osl, rfl, lk, hcd, hD, .inl rfl⟩, A.kp⟩
/-- f(e, ..), the last parameters by their defaults (n written, the defaults behind the first j) -/
theorem ve_callD (n j : Nat) {dds : List D} (A : FnP (gOf X) k x st dvs ps m) (hdd : ∀ F, DnAll L.K F (dvs.drop j) dds) (hr : Room k X.A) (hg : Gl X x) (hK : X.K = L.K) (hM : X.mg = L.mg) (hx : ∀ σ, PassesAt (L2.CX X.prog X.w) X σ (WE L.W σ)) (ha : PA X (e :: es) (liftA L fs))
    (hd : dvs ≠ []) (hnp : n + (dvs.length - j) = ps.length)
    (hb : ∀ (T : Addr) (kV doc pm : Value) (an : Option Addr) (cdv ct : Value) (us its : List Value), us.length = n → its.length = dvs.length →
      ∃ k, bindArgs (PySem.W.fnOf x x (defArgs st) (defBody st) (defScope st) (.ref T) kV doc pm an cdv ct) ⟨us, []⟩ = seqItems? (.ref T) >>= k ∧ k (some its.toArray) = pure (ps.zip (us ++ its.drop j)))
    (hn : ∀ ρ r ds ρ' r', fs ρ r = .ok ds ρ' r' → ds.length = n) (hdb : (x == ("__debug__" : Str)) = false := by decide) (he : starEach (e :: es) X.env = (false, eval e X.env) :: starEach es X.env := by rfl) (hpl : (backTo pos (starEach es X.env)).any (·.1) = false := by rfl) :
    PE X (.Call (.Name x p) (e :: es) [] pos) (lift L (vCallP (fun ds => m (ds ++ dds)) fs)) := by
  obtain ⟨f, fd, A, F⟩ := A
  obtain ⟨dsV, hv, hB⟩ := A.funD.binds1 n j hd hnp hb
  refine peImp (pe_callSD (dvs := dvs.drop j) F hr hg A.mg A.kp hB hv hx ha hdb he hpl) fun σ H Q ⟨C, F0, ρ, r, hR, g0⟩ => ⟨C, F0, ρ, r, hR, (Good.bnd g0).det fun ds ρ1 r1 eq F1 H1 R1 S1 g1 vs dv => ⟨F1, ds ++ dds, R1.hel.fH, ?_, ?_, ?_⟩⟩
  · show DnAll X.K F1 (vs ++ dvs.drop j) (ds ++ dds)
    rw [hK]; exact dpAll_app dv (hdd F1)
  · rw [List.length_append, hn _ _ _ _ _ eq, ← dpAll_len (hdd F1), List.length_drop]; exact hnp
  · show PGood X.K X.mg F1 H1 (m (ds ++ dds)) Q (WE L.W σ)
    rw [hK, hM]
    exact pgood_of R1 g1
/-- values put in the parameters' order -/
def permL {α : Type} (ix : List Nat) (l : List α) : List α := ix.filterMap fun i => l[i]?
theorem permV : ∀ (ix : List Nat) {vs : List V} {us : List Value}, Vals vs us → Vals (permL ix vs) (permL ix us)
  | [], _, _, _ => .nil
  | i :: ix, vs, us, h => by
    unfold permL
    rw [List.filterMap_cons, List.filterMap_cons]
    cases e : vs[i]? with
    | none =>
      rw [h.none_of e]
      exact permV ix h
    | some v =>
      obtain ⟨u, e1, r1⟩ := h.get e
      rw [e1]
      exact .cons r1 (permV ix h)
theorem permD {K : PySem.W.Frag} {F : Hp} : ∀ (ix : List Nat) {vs : List V} {ds : List D}, DnAll K F vs ds → DnAll K F (permL ix vs) (permL ix ds)
  | [], _, _, _ => .nil
  | i :: ix, vs, ds, h => by
    unfold permL
    rw [List.filterMap_cons, List.filterMap_cons]
    cases e : vs[i]? with
    | none =>
      have : ds[i]? = none := by
        rw [List.getElem?_eq_none_iff] at e ⊢
        rw [← dpAll_len h]; exact e
      rw [this]
      exact permD ix h
    | some v =>
      obtain ⟨d, e1, r1⟩ := dpAll_get' h e
      rw [e1]
      exact .cons r1 (permD ix h)
variable {kws : List Keyword} {nm : Option Str} {kpos : Pos} {fe : M R Slot}
theorem pkImp {e : List Keyword} {t t' : TA} (h : PK X e t) (w : ∀ σ H Q, t' σ H Q → t σ H Q) : PK X e t' := ⟨fun pos pins s σ H Q I q => h.run pos pins s σ H Q I (w _ _ _ q)⟩
theorem vk_nil : PK X [] (liftA L (aNil : M R (List D))) := pkImp pk_nil fun σ H Q ⟨C, F, ρ, r, hR, g0⟩ => g0 F H hR (Same.refl _) [] .nil
theorem vk_cons (ha : PE X e (lift L fe)) (hs : PK X kws (liftA L fs)) : PK X (⟨nm, e, kpos⟩ :: kws) (liftA L (aCons fe fs)) :=
  pkImp (pk_cons (useD ha) hs) fun σ H Q ⟨C, F, ρ, r, hR, g0⟩ => ⟨C, F, ρ, r, hR, (Good.bnd g0).imp fun d ρ1 r1 F1 H1 R1 S1 g1 x dx =>
    ⟨C, F1, ρ1, r1, R1, (Good.bnd g1).imp fun ds ρ2 r2 F2 H2 R2 S2 g2 xs dxs => g2 F2 H2 R2 (Same.refl _) _ (.cons (dpS S2 d dx) dxs)⟩⟩
/-- f(k = v, ..), keywords alone, every parameter written -/
theorem ve_callK0 {ks : List Str} (ix : List Nat) (A : FnP (gOf X) k x st [] ps m) (hr : Room k X.A) (hg : Gl X x) (hK : X.K = L.K) (hM : X.mg = L.mg) (hx : ∀ σ, PassesAt (L2.CX X.prog X.w) X σ (WE L.W σ)) (hkw : PK X kws (liftA L fs))
    (hb : ∀ (kV doc pm : Value) (an : Option Addr) (cdv ct : Value) (ws : List Value), ws.length = ks.length → bindArgs (PySem.W.fnOf x x (defArgs st) (defBody st) (defScope st) .none kV doc pm an cdv ct) ⟨[], ks.zip ws⟩ = pure (ps.zip (permL ix ws)))
    (hn : ∀ ρ r ds ρ' r', fs ρ r = .ok ds ρ' r' → ds.length = ks.length) (hix : ∀ {α : Type} (l : List α), l.length = ks.length → (permL ix l).length = ps.length)
    (hall : (backToKw pos (keywordEach kws X.env)).all (·.1.isSome) = true := by rfl) (hks : (backToKw pos (keywordEach kws X.env)).filterMap (·.1) = ks := by rfl)
    (hdb : (x == ("__debug__" : Str)) = false := by decide) (hpl : ((backTo pos (starEach [] X.env)).any (·.1) || (backToKw pos (keywordEach kws X.env)).any (·.1.isNone)) = false := by rfl) :
    PE X (.Call (.Name x p) [] kws pos) (lift L (vCallP (fun ds => m (permL ix ds)) fs)) := by
  obtain ⟨f, fd, A, F⟩ := A
  have hbd : ∀ (s : Shared) (ws : List Value), ws.length = ks.length → BindsTo s fd ⟨[], ks.zip ws⟩ (ps.zip (permL ix ws)) := by
    obtain ⟨oc, od, dV, kV, doc, pm, an, cdv, ct, osl, rfl, lk, hcd, hD⟩ := A.ex
    rcases hD with ⟨_, rfl⟩ | ⟨e, _⟩
    · exact fun s ws hl => .of_eq (hb kV doc pm an cdv ct ws hl)
    · exact absurd rfl e
  refine ⟨fun pins s σ H Q I ⟨C, F0, ρ, r, hR, g0⟩ => ?_⟩
  refine wpAny_Call_Name_kw (ld_glob I hg A.mg ?_ hdb)
  refine PySem.W.callWith_KW0 (h₀ := X.base) I.ok.mod.kin A.kp hall ?_ hpl
  refine thn (hkw.run pos pins s σ H (fun zs H2 => zs.length = ks.length ∧ spP X.K X.mg ps.length m (permL ix zs) H2 Q (WE L.W σ)) I ⟨C, F0, ρ, r, hR, (Good.bnd g0).det fun ds ρ1 r1 eq F1 H1 R1 S1 g1 vs dv => ⟨?_, F1, permL ix ds, R1.hel.fH, ?_, hix _ (hn _ _ _ _ _ eq), ?_⟩⟩) fun ws s2 ⟨zs, H2, I2, rz, l2, q2⟩ => ⟨I2.kIn, ?_⟩
  · rw [dpAll_len dv]; exact hn _ _ _ _ _ eq
  · rw [hK]; exact permD ix dv
  · rw [hK, hM]; exact pgood_of R1 g1
  · rw [hks]
    have lw : ws.length = ks.length := by rw [← rz.length]; exact l2
    refine wpAny_call (codeAny_mono (F.run X.A X.stack s2 H2 ⟨[], ks.zip ws⟩ (permL ix ws) (permL ix zs) Q (WE L.W σ) hr I2.env0 (hbd s2 ws lw) (permV ix rz) q2) fun r s' hq => ?_)
    cases r with
    | error e => exact hx σ pins H2 s2 e s' I2 hq
    | ok fl =>
      cases fl with
      | ret u => exact I2.after hq
      | next => exact False.elim hq
      | brk => exact False.elim hq
      | cont => exact False.elim hq
end
end L2.VL

/-! VL9: dicts with tuple keys. -/
namespace L2.VL
open PySem PySem.Spec PyProof.Rows

/-! ### keys as data -/
def kD : Key → D
  | .inl i => .int i
  | .inr x => .str x
def keyD (k : List Key) : D := .tuple (k.map kD)
def kOf : D → Option Key
  | .int i => some (.inl i)
  | .str x => some (.inr x)
  | _ => none
def ksOf : List D → Option (List Key)
  | [] => some []
  | d :: ds => match kOf d, ksOf ds with
    | some k, some ks => some (k :: ks)
    | _, _ => none
def keyOf : D → Option (List Key)
  | .tuple ds => ksOf ds
  | _ => none
theorem kOf_v {K : PySem.W.Frag} {F : Hp} {v : V} {d : D} {k : Key} (h : Dn K F v d) (e : kOf d = some k) : v = kV k := by
  cases d with
  | int i => cases e; exact dp_int h
  | str x => cases e; exact dp_str h
  | _ => cases e
theorem ksOf_v {K : PySem.W.Frag} {F : Hp} : ∀ {ds : List D} {vs : List V} {ks : List Key}, DnAll K F vs ds → ksOf ds = some ks → vs = ks.map kV
  | [], _, _, .nil, e => by cases e; rfl
  | d :: ds, _, ks, .cons h t, e => by
    unfold ksOf at e
    cases z1 : kOf d with
    | none => rw [z1] at e; cases e
    | some k =>
      cases z2 : ksOf ds with
      | none => rw [z1, z2] at e; cases e
      | some ks' =>
        rw [z1, z2] at e
        cases e
        rw [List.map_cons, kOf_v h z1, ksOf_v t z2]
theorem keyOf_at {K : PySem.W.Frag} {F : Hp} {v : V} {d : D} {k : List Key} (h : Dn K F v d) (e : keyOf d = some k) : ∃ b, v = .ref b ∧ F b = some (.tup (k.map kV)) := by
  cases d with
  | tuple ds =>
    obtain ⟨a, vs, rfl, h1, h2⟩ := dp_tupH h
    rw [ksOf_v h2 e] at h1
    exact ⟨a, rfl, h1⟩
  | _ => cases e
theorem kD_v {K : PySem.W.Frag} {F : Hp} (k : Key) : Dn K F (kV k) (kD k) := by
  cases k with
  | inl i => exact .int i
  | inr x => exact .str x
theorem kDs_v {K : PySem.W.Frag} {F : Hp} : ∀ (k : List Key), DnAll K F (k.map kV) (k.map kD)
  | [] => .nil
  | k :: ks => .cons (kD_v k) (kDs_v ks)
theorem frzTup {F H : Hp} {b : Addr} {xs : List V} (h : Same F H) (e : H b = some (.tup xs)) : Ext F H (upd F b (.tup xs)) H := by
  refine ⟨fun c o ec => ?_, Same.refl _, fun c o ec => ?_, fun c o ec => ?_⟩
  · by_cases hc : c = b
    · subst hc
      have q := h c o ec
      rw [e] at q
      rw [upd_same]; exact q
    · rw [upd_ne hc]; exact ec
  · by_cases hc : c = b
    · subst hc
      rw [upd_same] at ec
      rw [e]; exact ec
    · rw [upd_ne hc] at ec; exact h c o ec
  · by_cases hc : c = b
    · subst hc
      rw [upd_same] at ec
      exact .inr (.inr ⟨xs, (Option.some.inj ec).symm⟩)
    · rw [upd_ne hc] at ec; exact .inl ec

/-! ### tables -/
def valT (kvs : List (List Key × D)) (k : List Key) : Option D := (kvs.find? fun kv => decide (kv.1 = k)).map (·.2)
def putT (kvs : List (List Key × D)) (k : List Key) (v : D) : List (List Key × D) :=
  if (kvs.any fun kv => decide (kv.1 = k)) = true then kvs.map (fun kv => if kv.1 = k then (kv.1, v) else kv) else kvs ++ [(k, v)]
theorem KvOk.val {K : PySem.W.Frag} {F : Hp} {xs : List (List Key × V)} {ys : List (List Key × D)} (h : KvOk K F xs ys) (k : List Key) :
    (valT ys k = none ∧ valV xs k = none) ∨ ∃ v d, valT ys k = some d ∧ valV xs k = some v ∧ Dn K F v d := by
  unfold KvOk at h
  induction h with
  | nil => exact .inl ⟨rfl, rfl⟩
  | @cons p q ps qs h t ih =>
    by_cases e : p.1 = k
    · have e' : q.1 = k := h.1.symm.trans e
      exact .inr ⟨p.2, q.2, by simp [valT, List.find?_cons, e'], valV_pos e, h.2⟩
    · have e' : ¬ q.1 = k := fun z => e (h.1.trans z)
      have b : valT (q :: qs) k = valT qs k := by simp [valT, List.find?_cons, e']
      rw [b, valV_neg e]
      exact ih
theorem KvOk.any {K : PySem.W.Frag} {F : Hp} {xs : List (List Key × V)} {ys : List (List Key × D)} (h : KvOk K F xs ys) (k : List Key) : (xs.any fun kv => decide (kv.1 = k)) = (ys.any fun kv => decide (kv.1 = k)) := by
  unfold KvOk at h
  induction h with
  | nil => rfl
  | cons h t ih => rw [List.any_cons, List.any_cons, ih, h.1]
theorem KvOk.repl {K : PySem.W.Frag} {F : Hp} {xs : List (List Key × V)} {ys : List (List Key × D)} (h : KvOk K F xs ys) (k : List Key) {v : V} {d : D} (hv : Dn K F v d) :
    KvOk K F (xs.map fun kv => if kv.1 = k then (kv.1, v) else kv) (ys.map fun kv => if kv.1 = k then (kv.1, d) else kv) := by
  unfold KvOk at h ⊢
  induction h with
  | nil => exact .nil
  | @cons p q ps qs h t ih =>
    rw [List.map_cons, List.map_cons]
    refine .cons ?_ ih
    by_cases e : p.1 = k
    · rw [if_pos e, if_pos (h.1.symm.trans e)]; exact ⟨h.1, hv⟩
    · rw [if_neg e, if_neg (fun z => e (h.1.trans z))]; exact h
theorem KvOk.put {K : PySem.W.Frag} {F : Hp} {xs : List (List Key × V)} {ys : List (List Key × D)} (h : KvOk K F xs ys) (k : List Key) {v : V} {d : D} (hv : Dn K F v d) : KvOk K F (putK xs k v) (putT ys k d) := by
  unfold putK putT
  rw [h.any k]
  by_cases e : (ys.any fun kv => decide (kv.1 = k)) = true
  · rw [if_pos e, if_pos e]; exact h.repl k hv
  · rw [if_neg e, if_neg e]; exact Paired.snoc h ⟨rfl, hv⟩
theorem KvOk.len {K : PySem.W.Frag} {F : Hp} {xs : List (List Key × V)} {ys : List (List Key × D)} (h : KvOk K F xs ys) : xs.length = ys.length := Paired.length h
theorem KvOk.get {K : PySem.W.Frag} {F : Hp} {xs : List (List Key × V)} {ys : List (List Key × D)} (h : KvOk K F xs ys) {i : Nat} {k : List Key} {d : D} (e : ys[i]? = some (k, d)) : ∃ v, xs[i]? = some (k, v) ∧ Dn K F v d := by
  unfold KvOk at h
  induction h generalizing i with
  | nil => simp at e
  | @cons p q ps qs h t ih =>
    cases i with
    | zero =>
      simp only [List.getElem?_cons_zero, Option.some.injEq] at e ⊢
      subst e
      exact ⟨p.2, by rw [show p = (p.1, p.2) from rfl, h.1], h.2⟩
    | succ j =>
      simp only [List.getElem?_cons_succ] at e ⊢
      exact ih e

/-! ### d.items() -/
/-- the pairs of the locked dict at d, each a new tuple -/
def ItT (d : Addr) (o : Obj) (kvs : List (List Key × V)) : It where
  go := fun i H => H d = some (.frz o (.dT kvs)) ∧ i < kvs.length
  yld := fun i H x H' => ∃ T q k v, kvs[i]? = some (k, v) ∧ H q = some (.tup (k.map kV)) ∧ x = .ref T ∧ H T = none ∧ H' = upd H T (.tup [.ref q, v])
  stop := fun i H => H d = some (.frz o (.dT kvs)) ∧ kvs.length ≤ i
theorem frz_tab {X : Cx} {pins : List (Addr × Obj)} {σ : St} {H : Hp} {s : Shared} {d : Addr} {o : Obj} {kvs : List (List Key × V)} (I : Inv X pins σ H s) (h : H d = some (.frz o (.dT kvs))) :
    (d == sysModules) = false ∧ ∃ (es : Array DictEntry) (ep : Nat), o.data = .dict es ep ∧ DT.Raw s.heap d es ep ∧ es.size = kvs.length ∧
      ∀ (i : Nat) (k : List Key) (v : V), kvs[i]? = some (k, v) → ∃ (q : Addr) (hi : i < es.size), es[i].key = .ref q ∧ RelV v es[i].val ∧ H q = some (.tup (k.map kV)) := by
  obtain ⟨hd, z, hs, xs, pr, o', es, ep, ho, hx, hdt, he, _⟩ := I.hok d _ h
  rw [hd] at ho
  cases ho
  have l1 : es.size = xs.length := size_of_entries he
  have l2 : kvs.length = xs.length := Paired.length pr
  refine ⟨hs, es, ep, hdt, ⟨o, hd, hx, hdt⟩, by omega, fun i k v e => ?_⟩
  obtain ⟨b, hb, e1, e2, e3⟩ := paired_get pr e
  have q := entry_at he i
  rw [hb] at q
  have hi : i < es.size := by
    rcases Nat.lt_or_ge i es.size with z | z
    · exact z
    · rw [Array.getElem?_eq_none z] at q; cases q
  rw [Array.getElem?_eq_getElem hi] at q
  have q' := Option.some.inj q
  exact ⟨b.2.1, hi, by rw [q']; rfl, by rw [q']; exact e3, e2⟩
theorem turn_T {P : Program} {w : World} {K : PySem.W.Frag} {d : Addr} {o : Obj} {es : Array DictEntry} {ep : Nat} {kvs : List (List Key × V)} {elts : List Expr} {kk : Nat} {tpos : Pos} (it : Addr) (hod : o.data = .dict es ep) :
    Turn P w K (.Tuple elts kk tpos) (ItT d o kvs) [it] it (fun i h => ∃ ok ov, IsItemIter h it d i es.size ep ok ov) where
  mem := by simp
  obj := fun i h ⟨ok, ov, e⟩ b hb => by
    obtain rfl : b = it := by simpa using hb
    exact ⟨_, e, fun v z => nomatch z⟩
  keep := fun i h h' ⟨ok, ov, e⟩ k => ⟨ok, ov, k it (by simp) _ e⟩
  item := by
    intro X hP hw hK hc i pins s σ H E I hf ⟨ok, ov, he⟩ ⟨hd, hi⟩
    subst hP hw hK
    obtain ⟨hs, es', ep', hdt, raw, hsz, ent⟩ := frz_tab I hd
    obtain ⟨rfl, rfl⟩ := dict_ep hod hdt
    obtain ⟨q, hi', k1, v1, hq⟩ := ent i kvs[i].1 kvs[i].2 (List.getElem?_eq_getElem hi)
    have hlt : it < s.heap.objs.size := Heap.lt_size he
    refine DT.nextI he raw hi' fun h' ho hT hz hk => ⟨_, rfl, wpAny_letOwnedTupleGo_items (s := { s with heap := h' }) ho fun h'' he' sb => ?_⟩
    have hT2 := (sb.2 _ (Nat.ne_of_gt hlt)).trans hT
    have new : ObjOk X.prog X.w (upd H s.heap.objs.size (.tup [.ref q, kvs[i].2])) h'' s.heap.objs.size (.tup [.ref q, kvs[i].2]) := by
      refine ⟨by show 2 ≤ sizeLine; decide, _, .cons ?_ (.cons v1 .nil), ⟨_, hT2, rfl, _, rfl⟩⟩
      rw [k1]; rfl
    refine ⟨.ref s.heap.objs.size, _, I.turnedNew (t' := s.toks) (ch := [it]) (fun b ob hb e => (sb.2 b (by simpa using hb)).trans (hk b ob (by simpa using hb) e)) hf (Nat.le_refl _) new, rfl,
      ⟨_, q, _, _, List.getElem?_eq_getElem hi, hq, rfl, I.hok.fresh (Nat.le_refl _), rfl⟩, ⟨_, _, he'⟩, fun b hb => ?_⟩
    obtain rfl : b = it := by simpa using hb
    rw [upd_ne (Nat.ne_of_lt hlt)]
    exact (hf b hb).1
  done := by
    intro X hP hw hK hc i pins s σ H E I hf ⟨ok, ov, he⟩ ⟨hd, hi⟩
    subst hP hw hK
    obtain ⟨f0, f1, f2, f3, f4, f5⟩ := hf it (by simp)
    obtain ⟨hs, es', ep', hdt, raw, hsz, _⟩ := frz_tab I hd
    obtain ⟨rfl, rfl⟩ := dict_ep hod hdt
    exact DT.endI (I.ok.hd hc) he raw (by omega) fun h' eb => ⟨rfl, I.turned (t' := s.toks) (fun b ob hb e => eb b ob hb e) f0 f1 f3 f4 f5⟩
  self := fun A i s Q E ⟨_, _, e⟩ h => PySem.W.kcp_self e h
/-- the dict is locked for good -/
def iT (td : TE) : TI := fun σ H R => td σ H fun x H1 => ∃ d kvs, x = .ref d ∧ H1 d = some (.dT kvs) ∧ ∀ od, R (ItT d od kvs) (upd H1 d (.frz od (.dT kvs)))
theorem pi_T {X : Cx} {e : Expr} {td : TE} {apos cpos : Pos} {elts : List Expr} {kk : Nat} {tpos : Pos} (he : PE X e td) (hbase : attributeBase e "items" X.env (eval e X.env) = eval e X.env := by rfl) (hline : (apos.endLine == cpos.line) = true := by rfl) :
    PI X (.Tuple elts kk tpos) (.Call (.Attribute e "items" apos) [] [] cpos) (iT td) := by
  refine ⟨fun pins s σ H R I h => wpAny_Call_method (T := "dict") (id := "dict.items") hbase rfl hline F.plainAttrs_dict F.slot_dict_items F.type_dict_items (thn (he.run pins s σ H _ I h) fun u s1 ⟨x, H0, I0, rx, d, kvs, ex, hd0, q0⟩ => ?_)⟩
  subst ex
  obtain rfl : u = Value.ref d := rx
  obtain ⟨t1, t2, _⟩ := isD_at I0 (.inr ⟨kvs, .inl hd0⟩)
  obtain ⟨od, I1⟩ := I0.lock hd0 True.intro
  have q := q0 od
  have hd : upd H0 d (.frz od (.dT kvs)) d = some (.frz od (.dT kvs)) := upd_same
  generalize upd H0 d (.frz od (.dT kvs)) = H1 at I1 q hd
  obtain ⟨hs, es, ep, hdt, raw, hsz, _⟩ := frz_tab I1 hd
  refine ⟨t1, t2, ?_⟩
  have I2 : Inv X pins σ H1 { s1 with heap := s1.heap.push { cls := .type "dict_items", data := .fields #[.ref d] } } := I1.kept (t' := s1.toks) fun b ob q => Heap.get?_push_of_some _ q
  have fin : wpAny (model X.prog X.w) X.A (pyIter (.ref s1.heap.objs.size)) (PIE X pins σ (.Tuple elts kk tpos) R) X.xe { s1 with heap := s1.heap.push { cls := .type "dict_items", data := .fields #[.ref d] } } :=
    DT.iterI (d := d) ⟨_, Heap.get?_push_size _ rfl, rfl, rfl⟩ (raw.push _) (pi_one (tk := s1.toks) I2 _ (turn_T _ hdt) ⟨.none, .none, Heap.get?_push_size _ rfl⟩ q)
  show wpAny _ _ (callWith cpos (.builtin "dict.items") [.ref d] [] []) _ X.xe s1
  exact method_meetsIn F.slot_dict_items F.entry_dict_items rfl (PySem.evalArgs_none ⟨rfl, raw.typeIs, F.args_dict_items_1 _, _, DT.meetsItems hs, ⟨raw, fin⟩⟩)
end L2.VL

/-! VL10: dicts with tuple keys: the readings. -/
namespace L2.VL
open PySem PySem.Spec PyProof.Rows

section
variable {X : Cx} {R : Type} [Fam R] {L : LX} {pos : Pos} {a b c e tg : Expr} {es : List Expr} {fa fb fe fk fd : M R Slot} {fs : M R (List D)}
def vNewT : M R Slot := ret (.ownT [])
theorem ve_newT : PE X (.Dict [] [] pos) (lift L (vNewT : M R Slot)) := peImp pe_dnewT fun σ H Q ⟨C, F, ρ, r, hR, g0⟩ => fun p np => by
  have x : Ext F H F (upd H p (.dT [])) := newAny hR.hel.fH np
  exact g0 F _ (hR.ext x) (Same.refl _) _ (NewOk.res hR x (s := .ownT []) ⟨p, [], rfl, np, upd_same, hR.hel.freeF np, .nil⟩)
/-- a dict leaves its name -/
def ownTOf : Option Slot → Option (List (List Key × D))
  | some (.ownT kvs) => some kvs
  | _ => none
theorem ownTOf_some {o : Option Slot} {kvs : List (List Key × D)} (h : ownTOf o = some kvs) : o = some (.ownT kvs) := by
  unfold ownTOf at h
  split at h
  · cases h; rfl
  · cases h
def vTake (i : Nat) : M R Slot := fun ρ r => match ownTOf ρ[i]? with
  | some kvs => .ok (.ownT kvs) (ρ.set i .emp) r
  | none => .stuck
theorem Rel.takeSlot {K : PySem.W.Frag} {C : Ctx R} {F H : Hp} {σ : St} {ρ : List Slot} {r : R} {i : Nat} {s : Slot} (h : Rel K C F σ H ρ r) (e : ρ[i]? = some s) (n : s ≠ .emp) :
    ∃ v, σ[i]? = some (some v) ∧ Rel K C F σ H (ρ.set i .emp) r ∧ ResOk K C F H σ (ρ.set i .emp) v s := by
  obtain ⟨v, e1, e2⟩ := h.slot i s e n
  have back : ∀ (j : Nat) (t : Slot), (ρ.set i .emp)[j]? = some t → t ≠ .emp → i ≠ j ∧ ρ[j]? = some t := fun j t ej nj => by
    rcases get_set ej with ⟨_, _, rfl⟩ | ⟨hk, e'⟩
    · exact absurd rfl nj
    · exact ⟨fun z => hk z.symm, e'⟩
  refine ⟨v, e1, h.weaken (by rw [List.length_set]) fun j t ej nj => (back j t ej nj).2, e2, fun o j t ej ot z => ?_⟩
  obtain ⟨hij, e'⟩ := back j t ej (fun z => by subst z; cases ot)
  exact h.apart i j s t v hij e e' o ot e1 z
theorem ve_take {i : Nat} {x : Str} (hN : X.N[i]? = some x) (hv : Vis X.env.scope x) (hd : (x == ("__debug__" : Str)) = false := by decide) (hcd : (x == ("__classdict__" : Str)) = false := by decide) :
    PE X (.Name x pos) (lift L (vTake i : M R Slot)) := peImp (pe_var hN hv hd hcd) fun σ H Q ⟨C, F, ρ, r, hR, g⟩ => by
  unfold vTake at g
  cases z : ownTOf ρ[i]? with
  | none => rw [z] at g; exact g.elim
  | some kvs =>
    rw [z] at g
    obtain ⟨v, e1, R1, q⟩ := hR.takeSlot (ownTOf_some z) (fun z => nomatch z)
    exact ⟨v, e1, g F H R1 (Same.refl _) v q⟩

/-! ### walks -/
def itemsT (kvs : List (List Key × D)) : List D := kvs.map fun kv => .tuple [keyD kv.1, kv.2]
def dictOf : Slot → Option (List (List Key × D))
  | .ownT kvs => some kvs
  | _ => none
def iItemsT (f : M R Slot) : M R (List D) := bnd f fun s => ofO ((dictOf s).map itemsT)
theorem walks_T {K : PySem.W.Frag} {g F : Hp} {ad : Addr} {od : Obj} {vs : List (List Key × V)} {kvs : List (List Key × D)} (hg : g ad = some (.frz od (.dT vs))) (h : KvOk K F vs kvs) : Walks K g (ItT ad od vs) F (itemsT kvs) where
  go := fun i d F1 H1 e s1 s2 s3 => by
    unfold itemsT at e
    rw [List.getElem?_map] at e
    cases z : kvs[i]? with
    | none => rw [z] at e; cases e
    | some kv =>
      rw [z] at e
      obtain ⟨k, y⟩ := kv
      obtain ⟨v, e1, e2⟩ := h.get z
      have e' : PyData.tuple [keyD k, y] = d := by simpa using e
      subst e'
      refine ⟨⟨s3 _ _ hg, lt_of_get e1⟩, fun x H2 q => ?_⟩
      obtain ⟨T, b, k', v', q1, q2, rfl, q4, rfl⟩ := q
      rw [e1] at q1
      cases q1
      have x1 := frzTup s2 q2
      have d1 : Dn K (upd F1 b (.tup (k.map kV))) (.ref b) (keyD k) := .tup upd_same (kDs_v k)
      obtain ⟨x2, d2⟩ := newTup (K := K) (vs := [.ref b, v]) (ds := [keyD k, y]) x1.fh q4 (.cons d1 (.cons (dpS x1.ff y (dpS s1 y e2)) .nil))
      exact ⟨_, x1.trans x2, d2⟩
  stop := fun i F1 H1 hl s1 s2 s3 => by
    refine ⟨s3 _ _ hg, ?_⟩
    unfold itemsT at hl
    rw [List.length_map] at hl
    rw [h.len]; exact hl
theorem vi_itemsT {apos cpos : Pos} {elts : List Expr} {kk : Nat} {tpos : Pos} (ha : PE X a (lift L fa)) (hbase : attributeBase a "items" X.env (eval a X.env) = eval a X.env := by rfl) (hline : (apos.endLine == cpos.line) = true := by rfl) :
    PI X (.Tuple elts kk tpos) (.Call (.Attribute a "items" apos) [] [] cpos) (liftI L (iItemsT fa)) :=
  piImp (pi_T ha hbase hline) fun σ H Rr ⟨C, F, ρ, r, hR, g0⟩ => ⟨C, F, ρ, r, hR, (Good.bnd g0).imp fun s ρ1 r1 F1 H1 R1 S1 g1 v rv => by
    cases s with
    | ownT kvs =>
      obtain ⟨⟨ad, vs, rfl, h1, h2, h3, h4, h5⟩, al⟩ := rv
      have g1' := g1 F1 H1 R1 (Same.refl _)
      refine ⟨ad, vs, rfl, h1, fun od => g1' _ _ (upd C.gh ad (.frz od (.dT vs))) (fun b o e => by rw [upd_ne (ne_of_none e h3)]; exact e) ?_ (walks_T upd_same h5)⟩
      have R2 := (R1.put notTup_dT h1 h4 h2 (al rfl)).swap (o' := .frz od (.dT vs)) h3
      exact R2.put (fun _ z => nomatch z) upd_same h4 h2 (al rfl)
    | emp => exact g1.elim
    | val _ => exact g1.elim
    | own _ => exact g1.elim
    | root => exact g1.elim⟩

/-! ### d[k] = v, d.get(k, x), {k: v} -/
def sPutT (i : Nat) (fk fe : M R Slot) : MS R := thenS (toD fe) fun d => fun ρ0 r0 => match ownTOf ρ0[i]? with
  | none => .stuck
  | some _ => (thenS (toD fk) fun k => fun ρ r => match ownTOf ρ[i]?, keyOf k with
    | some kvs, some ks => if kvs.length < 1000000 then .nx (ρ.set i (.ownT (putT kvs ks d))) r else .stuck
    | _, _ => .stuck) ρ0 r0
theorem vs_putT {i : Nat} {x : Str} {p pos' : Pos} (hu : X.A.units + 1 < cLine) (hN : X.N[i]? = some x) (hv : Vis X.env.scope x) (hk : PE X b (lift L fk)) (he : PE X e (lift L fe)) (hd : (x == ("__debug__" : Str)) = false := by decide) (hcd : (x == ("__classdict__" : Str)) = false := by decide)
    (hs : swapsWith e (some (.Subscript (.Name x p) b pos')) pos.line X.env = pure false := by rfl) : PS X (.Assign [.Subscript (.Name x p) b pos'] e pos) (liftS L (sPutT i fk fe)) :=
  psImp (ps_dput hu (pe_var hN hv hd hcd) (useD hk) (useD he) hs) fun E σ H ⟨C, F, ρ, r, hR, g0⟩ =>
  ⟨C, F, ρ, r, hR, (GoodS.thenS g0).imp fun d ρ1 r1 F1 H1 R1 S1 g1 y dy => by
    cases z0 : ownTOf ρ1[i]? with
    | none => rw [z0] at g1; exact g1.elim
    | some ds0 =>
      rw [z0] at g1
      dsimp only at g1
      obtain ⟨v, ev, ad, vs0, rfl, a1, a2, a3, a4, a5⟩ := R1.slot i _ (ownTOf_some z0) (fun z => nomatch z)
      refine ⟨.ref ad, ev, C, F1, ρ1, r1, R1, (GoodS.thenS g1).imp fun k ρ2 r2 F2 H2 R2 S2 g2 w dw => ?_⟩
      split at g2
      · rename_i kvs ks z1 z2
        by_cases hl : kvs.length < 1000000
        · rw [if_pos hl] at g2
          obtain ⟨v, ev', ad', vs, rfl, b1, b2, b3, b4, b5⟩ := R2.slot i _ (ownTOf_some z1) (fun z => nomatch z)
          rw [ev] at ev'
          cases ev'
          obtain ⟨bk, rfl, hbk⟩ := keyOf_at dw z2
          have R3 := R2.change (s' := .ownT (putT kvs ks d)) (o := .dT (putK vs ks y)) (ownTOf_some z1) rfl ev b2 b3 b4 ⟨ad, _, rfl, upd_same, b2, b3, b4, b5.put ks (dpS S2 d dy)⟩
          exact ⟨ad, _, rfl, DPut.t b1 (R2.hel.fH _ _ hbk) (by rw [b5.len, sizeLine_eq]; omega), g2 σ F2 _ R3 (Same.refl _)⟩
        · rw [if_neg hl] at g2; exact g2.elim
      · exact g2.elim⟩
def vGetT (i : Nat) (fk fd : M R Slot) : M R Slot := fun ρ0 r0 => match ownTOf ρ0[i]? with
  | none => .stuck
  | some _ => (bnd (toD fk) fun k => bnd (toD fd) fun d => fun ρ r => match ownTOf ρ[i]?, keyOf k with
    | some kvs, some ks => .ok (.val ((valT kvs ks).getD d)) ρ r
    | _, _ => .stuck) ρ0 r0
theorem ve_getT {i : Nat} {x : Str} {p apos cpos : Pos} (hu : X.A.units + 1 < cLine) (hN : X.N[i]? = some x) (hv : Vis X.env.scope x) (hk : PE X b (lift L fk)) (he : PE X e (lift L fd)) (hd : (x == ("__debug__" : Str)) = false := by decide) (hcd : (x == ("__classdict__" : Str)) = false := by decide)
    (m : M2 X (.Name x p) "get" apos b e cpos := by exact ⟨rfl, rfl, rfl, rfl⟩) : PE X (.Call (.Attribute (.Name x p) "get" apos) [b, e] [] cpos) (lift L (vGetT i fk fd)) :=
  peImp (pe_dget2 hu (pe_var hN hv hd hcd) (useD hk) (useD he) m) fun σ H Q ⟨C, F, ρ, r, hR, g0⟩ => by
    unfold vGetT at g0
    cases z0 : ownTOf ρ[i]? with
    | none => rw [z0] at g0; exact g0.elim
    | some ds0 =>
      rw [z0] at g0
      dsimp only at g0
      obtain ⟨v, ev, ad, vs0, rfl, a1, a2, a3, a4, a5⟩ := hR.slot i _ (ownTOf_some z0) (fun z => nomatch z)
      refine ⟨.ref ad, ev, ad, rfl, .inr ⟨vs0, .inl a1⟩, C, F, ρ, r, hR, (Good.bnd g0).imp fun k ρ1 r1 F1 H1 R1 S1 g1 w dw => ⟨C, F1, ρ1, r1, R1, (Good.bnd g1).imp fun d ρ2 r2 F2 H2 R2 S2 g2 y dy => ?_⟩⟩
      split at g2
      · rename_i kvs ks z1 z2
        obtain ⟨v, ev', ad', vs, rfl, b1, b2, b3, b4, b5⟩ := R2.slot i _ (ownTOf_some z1) (fun z => nomatch z)
        rw [ev] at ev'
        cases ev'
        obtain ⟨bk, rfl, hbk⟩ := keyOf_at (dpS S2 k dw) z2
        refine ⟨_, DGet.t b1 (R2.hel.fH _ _ hbk), ?_⟩
        have g3 := g2 F2 H2 R2 (Same.refl _)
        rcases b5.val ks with ⟨q1, q2⟩ | ⟨u, dd, q1, q2, q3⟩
        · rw [q1] at g3
          rw [q2]
          exact g3 y ⟨dy, fun z => nomatch z⟩
        · rw [q1] at g3
          rw [q2]
          exact g3 u ⟨q3, fun z => nomatch z⟩
      · exact g2.elim
end
/-! ### displays -/
/-- d[k] = v, k a tuple of ints and texts -/
theorem d_dictSetT {X : Cx} {pins : List (Addr × Obj)} {σ : St} {H : Hp} {s : Shared} {E : Value → Shared → Prop} {A : Around} {D b : Addr} {kvs : List (List Key × V)} {k : List Key} {v : V} {u r : Value} {Q : Unit → Shared → Prop} (hu : A.units < cLine) (I : Inv X pins σ H s) (hD : H D = some (.dT kvs))
    (hb : H b = some (.tup (k.map kV))) (hz : kvs.length < sizeLine) (ry : RelV (.ref b) u) (rv : RelV v r) (h : ∀ s', Inv X pins σ (upd H D (.dT (putK kvs k v))) s' → Q () s') : wpAny (model X.prog X.w) A (dictSet D u r) Q E s := by
  cases (show u = Value.ref b from ry)
  obtain ⟨z, hd, xs, rel, dd⟩ := dt_of I.hok hD
  refine wpAny_dictSet_heap (hsz := by rw [← Paired.length rel]; exact z) (knd := tupleKind (mixKind X.prog X.w)) hu (key_of I.hok hb) dd fun h' dd' hs => h _ ?_
  obtain ⟨q, es, ep, hq, h2, h3, h4, _, h5⟩ := dd'
  have hl := length_putK kvs k v
  refine d_write I (by rw [hD]; exact True.intro) hs ⟨q, hq⟩ ⟨by omega, hd, _, (rel.put k hb rv).keeps fun c ys ec => ?_, q, es, ep, hq, h2, h3, h4, h5⟩
  rw [upd_ne (ne_of ec hD (fun z => nomatch z))]
  exact ec
/-- {k: v}, k such a tuple -/
def tDisp1 (tk tv : TE) : TE := fun σ H Q => ∀ p, H p = none → tk σ (upd H p (.dT [])) fun x H1 => tv σ H1 fun y H2 => ∃ b k, x = .ref b ∧ H2 b = some (.tup (k.map kV)) ∧ H2 p = some (.dT []) ∧ Q (.ref p) (upd H2 p (.dT [(k, y)]))
theorem pe_disp1 {X : Cx} {pos : Pos} {ke ve : Expr} {tk tv : TE} (hu : X.A.units + 1 < cLine) (hk : PE X ke tk) (hv : PE X ve tv) : PE X (.Dict [some ke] [ve] pos) (tDisp1 tk tv) := by
  refine ⟨fun pins s σ H Q I q => ?_⟩
  have hn := I.hok.fresh (Nat.le_refl s.heap.objs.size)
  have I1 := I.laid (a := s.heap.objs.size) (o := .dT []) (h' := s.heap.push { cls := .type "dict", data := .dict #[] }) (t' := s.toks) (fun _ _ q => Heap.get?_push_of_some _ q) (Nat.le_refl _) (dt_empty s.heap I.big)
  refine PySem.wpAny_Dict_any rfl rfl (by simp) (by simp) (pairTrees_cons_walk (thn (hk.run pins _ σ _ _ I1 (q _ hn)) fun u s1 ⟨x, H1, I2, rx, q1⟩ => thn (hv.run pins s1 σ H1 _ I2 q1) fun w s2 ⟨y, H2, I3, ry, b, k, ex, hb, hp, q2⟩ => pairTrees_nil_walk ?_))
  subst ex
  have e : putK ([] : List (List Key × V)) k y = [(k, y)] := rfl
  unfold storeAll
  rw [List.forIn_cons]
  refine wpAny_bind (wpAny_bind (d_dictSetT (by omega) I3 hp hb (by rw [List.length_nil, sizeLine_eq]; decide) rx ry fun s3 I4 => wpAny_pure ?_))
  show wpAny _ _ (forIn [] PUnit.unit _) _ _ s3
  rw [List.forIn_nil]
  exact wpAny_pure ⟨.ref s.heap.objs.size, _, I4, rfl, by rw [e]; exact q2⟩
section
variable {X : Cx} {R : Type} [Fam R] {L : LX} {pos : Pos} {a b c e tg : Expr} {es : List Expr} {fa fb fe fk fd : M R Slot} {fs : M R (List D)}
def vDisp1 (fk fe : M R Slot) : M R Slot := bnd (toD fk) fun k => bnd (toD fe) fun d => ofO ((keyOf k).map fun ks => Slot.ownT [(ks, d)])
theorem ve_disp1 (hu : X.A.units + 1 < cLine) (hk : PE X b (lift L fk)) (he : PE X e (lift L fe)) : PE X (.Dict [some b] [e] pos) (lift L (vDisp1 fk fe)) :=
  peImp (pe_disp1 hu (useD hk) (useD he)) fun σ H Q ⟨C, F, ρ, r, hR, g0⟩ p np => by
    have x : Ext F H F (upd H p (.dT [])) := newAny hR.hel.fH np
    have R0 := hR.ext x
    have n0 := hR.hel.free np
    have ng := hR.hel.freeG np
    have nF := hR.hel.freeF np
    have al := (NewOk.res hR x (s := .ownT []) (v := .ref p) (K := L.K) ⟨p, [], rfl, np, upd_same, nF, .nil⟩).2 rfl
    have R1 := R0.put notTup_dT upd_same nF n0 al
    refine ⟨C.put p (.dT []), F, ρ, r, R1, Good.ctx (fun z => z.unput ng) (Good.bnd g0) fun k ρ1 r1 F1 H1 R2 S1 g1 w dw => ⟨C.put p (.dT []), F1, ρ1, r1, R2, Good.ctx (fun z => z.unput ng) (Good.bnd g1) fun d ρ2 r2 F2 H2 R3 S2 g2 y dy => ?_⟩⟩
    cases z : keyOf k with
    | none => rw [z] at g2; exact g2.elim
    | some ks =>
      rw [z] at g2
      obtain ⟨bk, rfl, hbk⟩ := keyOf_at (dpS S2 k dw) z
      obtain ⟨k1, k2, k3, k4⟩ := R3.aside
      exact ⟨bk, ks, rfl, R3.hel.fH _ _ hbk, k1, g2 F2 _ (R3.swap ng) (Same.refl _) _ ⟨⟨p, _, rfl, upd_same, n0, ng, k2, .cons ⟨rfl, dy⟩ .nil⟩, fun _ => k4⟩⟩
end
section
variable {X : Cx}
/-- {k: v for target in iter if ..}, the keys such tuples -/
def tDcT (wi : TI) (g : TG) (tt : TT) (tk tv : TE) (vs : List Nat) : TE := fun σ H Q => wi σ H fun J H1 => ∀ D, H1 D = none → ∃ W : Nat → Nat → Hp → Prop, (∃ m, W 0 m (upd H1 D (.dT []))) ∧ ∀ i m H, W i m H →
  (J.stop i H ∧ Q (.ref D) H) ∨ (J.go i H ∧ ∃ Nx : Hp → Prop, (∀ H', Nx H' → ∃ m', m' < m ∧ W (i + 1) m' H') ∧ ∀ x H', J.yld i H x H' → g x (wipe σ vs) H' fun σ2 H2 => wipe σ2 vs = wipe σ vs ∧ tt σ2 H2 fun b H3 =>
    if b = true then tk σ2 H3 fun y H4 => tv σ2 H4 fun z H5 => ∃ kvs k b, y = .ref b ∧ H5 b = some (.tup (k.map kV)) ∧ H5 D = some (.dT kvs) ∧ kvs.length < sizeLine ∧ Nx (upd H5 D (.dT (putK kvs k z))) else Nx H3)
theorem dcT_core {pins : List (Addr × Obj)} {s : Shared} {σ : St} {H : Hp} {Q : VK} {kx vx tg iter : Expr} {ifs : List Expr} {scope : Scope} {own : List (Str × Nat)} {pos pos' : Pos} {wi : TI} {g : TG} {tt : TT} {tk tv : TE} {use : Option (Value → Sem Unit)} {Qf : Value → Shared → Prop}
    (hu : X.A.units < cLine) (hc : X.calm = true) (hN : X.N.Nodup) (I : Inv X pins σ H s) (hi : PI X tg iter wi) (ok : BlkOk X.N X.env.scope scope own)
    (hg : ∀ (s : Shared) (H : Hp) (C : Addr) (cl : List (Str × Addr)) (fp : List Addr), PG (X.blk s H scope (compEnvC scope cl C X.env) fp) tg g) (ht : ∀ (s : Shared) (H : Hp) (C : Addr) (cl : List (Str × Addr)) (fp : List Addr), PTs (X.blk s H scope (compEnvC scope cl C X.env) fp) ifs tt)
    (hk : ∀ (s : Shared) (H : Hp) (C : Addr) (cl : List (Str × Addr)) (fp : List Addr), PE (X.blk s H scope (compEnvC scope cl C X.env) fp) kx tk)
    (he : ∀ (s : Shared) (H : Hp) (C : Addr) (cl : List (Str × Addr)) (fp : List Addr), PE (X.blk s H scope (compEnvC scope cl C X.env) fp) vx tv) (hs : ∀ x, foldedSetIterable iter X.env x = pure x)
    (h : tDcT wi g tt tk tv (own.map (·.2)) σ H Q)
    (hRR : ∀ D C s' m H', Inv X pins σ H' s' → Q (.ref D) H' → s'.heap.Ns C m → FpOk X pins H' C → compPost (model X.prog X.w) X.A X.xe use Qf (.ref D) C (.ok .next) s') :
    wpAny (model X.prog X.w) X.A (comprehension (.DictComp kx vx [⟨tg, iter, ifs, 0⟩] scope pos) scope X.env pos' newDict false (eval iter X.env) use) Qf X.xe s := by
  have hfree : ∀ y ∈ scope.names, y.2 = .free → ∃ c, X.env.cells.lookup y.1 = some c := fun y hy e => by
    rcases ok.free y hy e with k | k
    · exact I.ok.has _ (.inl k)
    · exact I.ok.has _ (.inr k)
  refine wpAny_comprehension_free (use := use) rfl hs (closure_ok hfree) ok.kind (fun y hy e => by rw [ok.uniq y hy, e])
    (thn (hi.run pins s σ H _ I h) fun xv s1 hx => thn hx fun itv s2 h2 => ?_)
  obtain ⟨it, fp, tn, J, H2, e, I2, T, st2, f2, q⟩ := h2
  subst e
  refine wpAny_newObj_type (newEnv_comp ?_)
  generalize hD : s2.heap.objs.size = D
  have hDn : H2 D = none := I2.hok.fresh (Nat.le_of_eq hD)
  obtain ⟨W, ⟨m0, w0⟩, turn⟩ := q D hDn
  -- the new list
  generalize hs3 : ({ s2 with heap := s2.heap.push { cls := .type "dict", data := .dict #[] } } : Shared) = s3
  have I3 : Inv X pins σ (upd H2 D (.dT [])) s3 := by
    rw [← hs3]
    refine I2.laid (t' := s2.toks) (fun b o e => Heap.get?_push_of_some _ e) (Nat.le_of_eq hD) ?_
    rw [← hD]
    exact dt_empty s2.heap I2.big
  have h3 : s3.heap = s2.heap.push { cls := .type "dict", data := .dict #[] } := by rw [← hs3]
  have sz : ∀ b ∈ fp, b < s2.heap.objs.size := fun b hb => by
    obtain ⟨o, e, _⟩ := T.obj _ _ st2 b hb
    exact Heap.lt_size e
  have f3 : ∀ b ∈ fp, FpOk X pins (upd H2 D (.dT [])) b ∧ b < s3.heap.objs.size := fun b hb => by
    have hlt := sz b hb
    refine ⟨⟨?_, (f2 b hb).2⟩, by rw [h3, Heap.size_push]; exact Nat.lt_succ_of_lt hlt⟩
    rw [upd_ne (by rw [← hD]; exact Nat.ne_of_lt hlt)]
    exact (f2 b hb).1
  have st3 : tn 0 s3.heap := T.keep _ _ _ st2 fun b _ o e => by rw [h3]; exact Heap.get?_push_of_some _ e
  have I4 := block_start I3 ok hN f3
  have pg := hg s3 (upd H2 D (.dT [])) s3.heap.objs.size (cellsFrom (s3.heap.objs.size + 1) scope.names (cloFrom X.env.cells scope.names [])) fp
  have pt := ht s3 (upd H2 D (.dT [])) s3.heap.objs.size (cellsFrom (s3.heap.objs.size + 1) scope.names (cloFrom X.env.cells scope.names [])) fp
  have pk := hk s3 (upd H2 D (.dT [])) s3.heap.objs.size (cellsFrom (s3.heap.objs.size + 1) scope.names (cloFrom X.env.cells scope.names [])) fp
  have pe := he s3 (upd H2 D (.dT [])) s3.heap.objs.size (cellsFrom (s3.heap.objs.size + 1) scope.names (cloFrom X.env.cells scope.names [])) fp
  show codeAny _ _ (.compStart (.DictComp kx vx [⟨tg, iter, ifs, 0⟩] scope pos) 0 (.ref it) (.ref D) (compEnvC scope (cellsFrom (s3.heap.objs.size + 1) scope.names (cloFrom X.env.cells scope.names [])) s3.heap.objs.size X.env)) (compPost (model X.prog X.w) X.A X.xe use Qf (.ref D) s3.heap.objs.size) { s3 with heap := pushCells (s3.heap.push { cls := .type "dict", data := .dict #[] }) scope.names }
  have nfp : ∀ b ∈ fp, (upd H2 D (.dT [])) b = none := fun b hb => (f3 b hb).1.1
  generalize hce : compEnvC scope (cellsFrom (s3.heap.objs.size + 1) scope.names (cloFrom X.env.cells scope.names [])) s3.heap.objs.size X.env = ce at I4 pg pt pk pe ⊢
  have cL : ce.locals = s3.heap.objs.size := by subst hce; rfl
  generalize hH3 : upd H2 D (.dT []) = H3 at I3 I4 pg pt pk pe w0 nfp f3
  generalize hs4 : ({ s3 with heap := pushCells (s3.heap.push { cls := .type "dict", data := .dict #[] }) scope.names } : Shared) = s4 at I4 ⊢
  have st4 : tn 0 s4.heap := T.keep _ _ _ st3 fun b _ o e => by rw [← hs4]; exact pushCells_keeps _ _ _ _ (Heap.get?_push_of_some _ e)
  have stat : ∀ {σ' : St} {H' : Hp} {s' : Shared}, Inv (X.blk s3 H3 scope ce fp) [] σ' H' s' → (∀ b ∈ fp, H' b = none) → ∀ b ∈ fp, FpOk (X.blk s3 H3 scope ce fp) [] H' b := fun {σ' H' s'} I' hn b hb =>
    ⟨hn b hb, (I'.ok.exf b hb).1, I'.ok.exfs b hb, .inl hb, fun x c e => (I'.ok.exf b hb).2 x c e, fun p hp => absurd (show p ∈ ([] : List (Addr × Obj)) ++ [] from hp) (by simp)⟩
  have loop : codeAny (model X.prog X.w) X.A (.compLoop (.DictComp kx vx [⟨tg, iter, ifs, 0⟩] scope pos) 0 (.ref it) (.ref D) ce) (compPost (model X.prog X.w) X.A X.xe use Qf (.ref D) s3.heap.objs.size) s4 := by
    refine compLoop_anyD (fun n s' => ∃ i H', Inv (X.blk s3 H3 scope ce fp) [] (wipe σ (own.map (·.2))) H' s' ∧ tn i s'.heap ∧ (∀ b ∈ fp, H' b = none) ∧ W i n H') ?_ m0 ⟨0, H3, I4, st4, nfp, w0⟩
    rintro n s5 ⟨i, H5, I5, st5, n5, w5⟩
    rcases turn i n H5 w5 with ⟨stop, qq⟩ | ⟨go, Nx, hNx, step⟩
    · have td := T.done (X.blk s3 H3 scope ce fp) rfl rfl rfl hc i [] s5 _ H5 (fun _ _ => False) I5 (stat I5 n5) st5 stop
      refine thnF td fun r s6 ⟨hr, I6⟩ => ?_
      subst hr
      -- back in the def's context
      have I7 : Inv X pins σ H5 s6 := I3.call' (ch := fp) I6.os I6.base I6.hok I6.bare fun b hb => ⟨(f3 b hb).1.2.2.2.1, (f3 b hb).1.2.1, (f3 b hb).1.2.2.2.2.1, (f3 b hb).1.2.2.2.2.2⟩
      have nC : H5 s3.heap.objs.size = none := by
        have z : H5 ce.locals = none := I6.free
        rw [cL] at z
        exact z
      obtain ⟨m, hn, _⟩ := I6.loc
      have hn : s6.heap.Ns ce.locals m := hn
      rw [cL] at hn
      exact hRR D s3.heap.objs.size s6 m H5 I7 qq hn (I3.fpOk (Nat.le_refl _) nC)
    · have ti := T.item (X.blk s3 H3 scope ce fp) rfl rfl rfl hc i [] s5 _ H5 (fun _ _ => False) I5 (stat I5 n5) st5 go
      refine thnF ti fun r s6 ⟨u, hr, h6⟩ => ?_
      subst hr
      refine thnF h6 fun _ s7 ⟨x, H7, I7, r7, y7, st7, n7⟩ => ?_
      have I7' := I7.pinned (stat I7 n7) (T.obj _ _ st7)
      refine thnF (pg.run _ s7 _ H7 x u _ I7' r7 (step x H7 y7)) fun _ s8 ⟨σ8, H8, I8, hw8, q8⟩ => ?_
      refine thnF (pt.run _ s8 σ8 H8 _ I8 q8) fun b s9 ⟨H9, I9, q9⟩ => ?_
      -- the turn's end
      have fin : ∀ {s' : Shared} {H' : Hp}, Inv (X.blk s3 H3 scope ce fp) ([] ++ pinsAt fp s7.heap) σ8 H' s' → Nx H' → ∃ m, m < n ∧ ∃ i H', Inv (X.blk s3 H3 scope ce fp) [] (wipe σ (own.map (·.2))) H' s' ∧ tn i s'.heap ∧ (∀ b ∈ fp, H' b = none) ∧ W i m H' := fun {s' H'} I' nx => by
        obtain ⟨m', hm, w'⟩ := hNx H' nx
        have pin' : ∀ b ∈ fp, ∀ o, s7.heap.get? b = some o → s'.heap.get? b = some o ∧ H' b = none := fun b hb o e =>
          let z := I'.pin (b, o) (List.mem_append_right _ (List.mem_append_right _ (mem_pinsAt hb e)))
          ⟨z.1, z.2.1⟩
        have hl : (wipe σ (own.map (·.2))).length = σ8.length := by rw [← hw8, wipe_length]
        refine ⟨m', hm, i + 1, H', (I'.unpinned (pins := [])).weak hl (fun j v e => ?_), T.keep _ _ _ st7 fun b hb o e => (pin' b hb o e).1, fun b hb => ?_, w'⟩
        · rw [← hw8] at e
          exact (wipe_some e).1
        · obtain ⟨o, e, _⟩ := T.obj _ _ st7 b hb
          exact (pin' b hb o e).2
      cases b with
      | false =>
        simp only [Bool.false_eq_true, if_false] at q9 ⊢
        exact fin I9 q9
      | true =>
        simp only [if_true] at q9 ⊢
        refine thnF (pk.run _ s9 σ8 H9 _ I9 q9) fun z s10 ⟨yk, H10, I10, r10, q10⟩ => ?_
        refine thnF (pe.run _ s10 σ8 H10 _ I10 q10) fun z2 s11 ⟨yv, H11, I11, r11, kvs, k, b, ek, hb11, hD11, hz11, nx⟩ => ?_
        subst ek
        exact d_dictSetT (X := X.blk s3 H3 scope ce fp) hu I11 hD11 hb11 hz11 r10 r11 fun s12 I12 => fin I12 nx
  exact codeAny_compStart_dict loop (T.self X.A 0 _ _ _ st4 loop)
/-- as a value -/
theorem pe_dcT {kx vx tg iter : Expr} {ifs : List Expr} {scope : Scope} {own : List (Str × Nat)} {pos : Pos} {wi : TI} {g : TG} {tt : TT} {tk tv : TE} (hu : X.A.units < cLine) (hc : X.calm = true) (hN : X.N.Nodup) (hi : PI X tg iter wi) (ok : BlkOk X.N X.env.scope scope own)
    (hg : ∀ (s : Shared) (H : Hp) (C : Addr) (cl : List (Str × Addr)) (fp : List Addr), PG (X.blk s H scope (compEnvC scope cl C X.env) fp) tg g) (ht : ∀ (s : Shared) (H : Hp) (C : Addr) (cl : List (Str × Addr)) (fp : List Addr), PTs (X.blk s H scope (compEnvC scope cl C X.env) fp) ifs tt)
    (hk : ∀ (s : Shared) (H : Hp) (C : Addr) (cl : List (Str × Addr)) (fp : List Addr), PE (X.blk s H scope (compEnvC scope cl C X.env) fp) kx tk)
    (he : ∀ (s : Shared) (H : Hp) (C : Addr) (cl : List (Str × Addr)) (fp : List Addr), PE (X.blk s H scope (compEnvC scope cl C X.env) fp) vx tv) (hs : ∀ x, foldedSetIterable iter X.env x = pure x := by intro _; rfl) :
    PE X (.DictComp kx vx [⟨tg, iter, ifs, 0⟩] scope pos) (tDcT wi g tt tk tv (own.map (·.2))) := by
  refine ⟨fun pins s σ H Q I h => ?_⟩
  rw [arm_eval_DictComp]
  refine dcT_core hu hc hN I hi ok hg ht hk he hs h fun D C s' m H' I' q hn f => ⟨m, hn, fun h'' sb => ?_⟩
  obtain ⟨f0, f1, f2, f3, f4, f5⟩ := f
  exact ⟨.ref D, H', I'.turned (t' := s'.toks) (fun b o hb e => (sb.2 b hb).trans e) f0 f1 f3 f4 f5, rfl, q⟩end
section
variable {X : Cx} {R : Type} [Fam R] {L : LX} {pos : Pos} {a b c e tg : Expr} {es : List Expr} {fa fb fe fk fd : M R Slot} {fs : M R (List D)} {it : M R (List D)} {t : D → List Slot → Option (List Slot)}
/-- one turn's answer -/
def dcL (vs : List Nat) (t : D → List Slot → Option (List Slot)) (tt : M R Bool) (tk tv : M R Slot) : List D → List (List Key × D) → M R (List (List Key × D))
  | [], acc => fun ρ r => .ok acc ρ r
  | d :: ds, acc => fun ρ r => match t d (wipeS vs ρ) with
    | none => .stuck
    | some ρ1 => (bnd tt fun b => if b = true then (bnd (toD tk) fun k => bnd (toD tv) fun y => fun ρ2 r2 => match keyOf k with
        | some ks => if acc.length < 1000000 then dcL vs t tt tk tv ds (putT acc ks y) ρ2 r2 else .stuck
        | none => .stuck) else dcL vs t tt tk tv ds acc) ρ1 r
def vDc (vs : List Nat) (it : M R (List D)) (t : D → List Slot → Option (List Slot)) (tt : M R Bool) (tk tv : M R Slot) : M R Slot := bnd it fun ds => fun ρ r => match dcL vs t tt tk tv ds [] ρ r with
  | .ok acc ρ' r' => .ok (.ownT acc) (backS vs ρ ρ') r'
  | .stuck => .stuck
  | .exc c d ρ' r' => .stuck
def DcOk (K : PySem.W.Frag) (C : Ctx R) (σ : St) (vs : List Nat) (Q : VK) (Dd : Addr) (F : Hp) (x : Res R (List (List Key × D))) : Prop :=
  match x with
  | .ok acc ρ r => ∀ F' H' av, Rel K C F' (L2.wipe σ vs) H' (wipeS vs ρ) r → Same F F' → H' Dd = some (.dT av) → F' Dd = none → C.H0 Dd = none → KvOk K F' av acc → (∀ (i : Nat) (t : Slot), (wipeS vs ρ)[i]? = some t → t.isOwn = true → (L2.wipe σ vs)[i]? ≠ some (some (.ref Dd))) → Q (.ref Dd) H'
  | _ => False
theorem DcOk.mono {K : PySem.W.Frag} {C : Ctx R} {σ : St} {vs : List Nat} {Q : VK} {Dd : Addr} {F F' : Hp} {x : Res R (List (List Key × D))} (s : Same F F') (h : DcOk K C σ vs Q Dd F x) : DcOk K C σ vs Q Dd F' x := by
  cases x with
  | stuck => exact h
  | exc c d ρ r => exact h
  | ok acc ρ r => exact fun F'' H'' av a1 a2 => h F'' H'' av a1 (s.trans a2)
theorem wipeS_at {i : Nat} : ∀ (js : List Nat) (l : List Slot), i ∉ js → (wipeS js l)[i]? = l[i]?
  | [], _, _ => rfl
  | j :: js, l, hj => by
    show (wipeS js (l.set j .emp))[i]? = l[i]?
    rw [wipeS_at js _ fun z => hj (List.mem_cons_of_mem _ z), List.getElem?_set_ne fun z => hj (by rw [z]; exact List.mem_cons_self)]
theorem dc_ok {vs js : List Nat} {wi : TI} {tt : M R Bool} {tk tv : M R Slot} (hs : ∀ j ∈ js, j ∈ vs) (hw : wi = liftI L it) {σ : St} {H : Hp} {Q : VK} (h : lift L (vDc vs it t tt tk tv) σ H Q) :
    tDcT wi (liftG R L.K js t) (liftT L.blk tt) (liftD L.blk (toD tk)) (liftD L.blk (toD tv)) vs σ H Q := by
  subst hw
  obtain ⟨C, F, ρ, r, hR, g0⟩ := h
  refine ⟨C, F, ρ, r, hR, (Good.bnd g0).imp fun ds ρ1 r1 F1 H00 R00 S1 g1 J H1 g sg R0 w Dd nD => ?_⟩
  have R1 := R0.less sg
  have ng' : (C.gho g).gh Dd = none := R0.hel.freeG nD
  have n0 : C.H0 Dd = none := R1.hel.free nD
  have ng : C.gh Dd = none := R1.hel.freeG nD
  have nF : F1 Dd = none := R1.hel.freeF nD
  have G1 : DcOk L.K C σ vs Q Dd F1 (dcL vs t tt tk tv ds [] ρ1 r1) := by
    cases z : dcL vs t tt tk tv ds [] ρ1 r1 with
    | stuck => rw [z] at g1; exact g1
    | exc c d ρ' r' => rw [z] at g1; exact g1
    | ok acc ρ' r' =>
      rw [z] at g1
      intro F' H' av R' S' hD hF h0 hA al
      have RB := R1.back S' R'
      refine g1 F' H' RB S' _ ⟨⟨Dd, av, rfl, hD, h0, ng, hF, hA⟩, fun _ i u e o z => ?_⟩
      have n1 : u ≠ .emp := fun z => by subst z; cases o
      rcases backS_get ρ1 vs ρ' i u e n1 with ⟨hi, e'⟩ | ⟨_, o'⟩
      · refine al i u (by rw [wipeS_at vs ρ' hi]; exact e') o ?_
        rw [wipe_get vs σ i hi]
        exact z
      · rw [o'] at o; cases o
  clear g1
  refine ⟨fun i m H' => m = ds.length - i ∧ i ≤ ds.length ∧ ∃ F' ρ' r' acc av, Same F1 F' ∧ Rel L.K (C.gho g) F' (L2.wipe σ vs) H' (wipeS vs ρ') r' ∧ H' Dd = some (.dT av) ∧ F' Dd = none ∧ KvOk L.K F' av acc ∧
      (∀ (i : Nat) (t : Slot), (wipeS vs ρ')[i]? = some t → t.isOwn = true → (L2.wipe σ vs)[i]? ≠ some (some (.ref Dd))) ∧ DcOk L.K C σ vs Q Dd F' (dcL vs t tt tk tv (ds.drop i) acc ρ' r'), ⟨ds.length, by simp, Nat.zero_le _, F1, ρ1, r1, [], [], Same.refl _, ?_, upd_same, nF, .nil, ?_, G1⟩, ?_⟩
  · exact (R0.wipeB vs).ext (newAny R0.hel.fH nD)
  · exact (NewOk.res (K := L.K) (s := .ownT []) (v := .ref Dd) (R1.wipeB vs) (newAny R1.hel.fH nD) ⟨Dd, [], rfl, nD, upd_same, nF, .nil⟩).2 rfl
  rintro i m H' ⟨rfl, hi, F', ρ', r', acc, av, S', R', hD, hF, hA, al, G'⟩
  by_cases hlt : i < ds.length
  · rw [drop_cons hlt] at G'
    unfold dcL at G'
    obtain ⟨w1, w2⟩ := w.go i ds[i] F' H' (List.getElem?_eq_getElem hlt) S' R'.hel.fH R'.ghS
    refine .inr ⟨w1, fun H' => ∃ F' ρ' r' acc av, Same F1 F' ∧ Rel L.K (C.gho g) F' (L2.wipe σ vs) H' (wipeS vs ρ') r' ∧ H' Dd = some (.dT av) ∧ F' Dd = none ∧ KvOk L.K F' av acc ∧
      (∀ (i : Nat) (t : Slot), (wipeS vs ρ')[i]? = some t → t.isOwn = true → (L2.wipe σ vs)[i]? ≠ some (some (.ref Dd))) ∧ DcOk L.K C σ vs Q Dd F' (dcL vs t tt tk tv (ds.drop (i + 1)) acc ρ' r'), fun H2 h2 => ⟨ds.length - (i + 1), by omega, rfl, hlt, h2⟩, fun x H2 y => ?_⟩
    obtain ⟨F2, x2, d2⟩ := w2 x H2 y
    have S2 := S'.trans x2.ff
    have R2 := (R'.ext x2).put notTup_dT (x2.hh _ _ hD) (x2.keepF hD hF notTup_dT) n0 al
    have A2 := hA.same x2.ff
    cases z : t ds[i] (wipeS vs ρ') with
    | none => rw [z] at G'; exact G'.elim
    | some ρ3 =>
      rw [z] at G'
      refine ⟨(C.gho g).put Dd (.dT av), F2, wipeS vs ρ', r', ds[i], ρ3, R2, d2, z, fun σ3 b3 R3 => ⟨wipe_but b3 hs, ?_⟩⟩
      have ew : L2.wipe σ3 vs = L2.wipe σ vs := wipe_but b3 hs
      dsimp only at G'
      refine ⟨(C.gho g).put Dd (.dT av), F2, ρ3, r', R3, ?_⟩
      unfold bnd at G'
      cases zt : tt ρ3 r' with
      | stuck => rw [zt] at G'; exact G'.elim
      | exc c d ρ4 r4 => rw [zt] at G'; exact G'.elim
      | ok b ρ4 r4 =>
        rw [zt] at G'
        intro F4 H4 R4 S4
        cases b with
        | false =>
          refine iteF ?_
          have G2 : DcOk L.K C σ vs Q Dd F' (dcL vs t tt tk tv (ds.drop (i + 1)) acc ρ4 r4) := G'
          obtain ⟨k1, k2, k3, k4⟩ := (R4.wipeB vs).aside
          rw [ew] at k4
          have R5 := (R4.unput ng').wipeB vs
          rw [ew] at R5
          exact ⟨F4, ρ4, r4, acc, av, S2.trans S4, R5, k1, k2, A2.same S4, k4, G2.mono (x2.ff.trans S4)⟩
        | true =>
          refine iteT ⟨(C.gho g).put Dd (.dT av), F4, ρ4, r4, R4, ?_⟩
          have G2 : DcOk L.K C σ vs Q Dd F' ((bnd (toD tk) fun k => bnd (toD tv) fun y => fun ρ2 r2 => match keyOf k with
            | some ks => if acc.length < 1000000 then dcL vs t tt tk tv (ds.drop (i + 1)) (putT acc ks y) ρ2 r2 else .stuck
            | none => .stuck) ρ4 r4) := G'
          unfold bnd at G2
          cases ze : toD tk ρ4 r4 with
          | stuck => rw [ze] at G2; exact G2.elim
          | exc c d ρ5 r5 => rw [ze] at G2; exact G2.elim
          | ok kd ρ5 r5 =>
            rw [ze] at G2
            intro F5 H5 R5 S5 yk dk
            refine ⟨(C.gho g).put Dd (.dT av), F5, ρ5, r5, R5, ?_⟩
            have G3 : DcOk L.K C σ vs Q Dd F' ((toD tv ρ5 r5).bind fun y => fun ρ2 r2 => match keyOf kd with
              | some ks => if acc.length < 1000000 then dcL vs t tt tk tv (ds.drop (i + 1)) (putT acc ks y) ρ2 r2 else .stuck
              | none => .stuck) := G2
            cases zv : toD tv ρ5 r5 with
            | stuck => rw [zv] at G3; exact G3.elim
            | exc c d ρ6 r6 => rw [zv] at G3; exact G3.elim
            | ok y ρ6 r6 =>
              rw [zv] at G3
              intro F6 H6 R6 S6 yv dy
              have G4 : DcOk L.K C σ vs Q Dd F' (match keyOf kd with
                | some ks => if acc.length < 1000000 then dcL vs t tt tk tv (ds.drop (i + 1)) (putT acc ks y) ρ6 r6 else .stuck
                | none => .stuck) := G3
              cases zk : keyOf kd with
              | none => rw [zk] at G4; exact G4.elim
              | some ks =>
                rw [zk] at G4
                dsimp only at G4
                by_cases hl : acc.length < 1000000
                · rw [if_pos hl] at G4
                  obtain ⟨bk, rfl, hbk⟩ := keyOf_at (dpS S6 kd dk) zk
                  obtain ⟨k1, k2, k3, k4⟩ := (R6.wipeB vs).aside
                  rw [ew] at k4
                  have R7 := (R6.swap (o' := .dT (putK av ks yv)) ng').wipeB vs
                  rw [ew] at R7
                  exact ⟨av, ks, bk, rfl, R6.hel.fH _ _ hbk, k1, by rw [hA.len, sizeLine_eq]; omega, F6, ρ6, r6, putT acc ks y, putK av ks yv, ((S2.trans S4).trans S5).trans S6, R7, upd_same, k2, ((A2.same S4).same (S5.trans S6)).put ks dy, k4, G4.mono (((x2.ff.trans S4).trans S5).trans S6)⟩
                · rw [if_neg hl] at G4; exact G4.elim
  · have ei : i = ds.length := by omega
    subst ei
    rw [List.drop_length] at G'
    exact .inl ⟨w.stop _ F' H' (Nat.le_refl _) S' R'.hel.fH R'.ghS, G' F' H' av (R'.less sg) (Same.refl _) hD hF n0 hA al⟩
theorem ve_dc {kx vx iter : Expr} {ifs : List Expr} {scope : Scope} {own : List (Str × Nat)} {js : List Nat} {tt : M R Bool} {tk tv : M R Slot} (hu : X.A.units + 1 < cLine) (hc : X.calm = true) (hN : X.N.Nodup) (hi : PI X tg iter (liftI L it)) (ok : BlkOk X.N X.env.scope scope own)
    (hg : ∀ (s : Shared) (H : Hp) (C : Addr) (cl : List (Str × Addr)) (fp : List Addr), PG (X.blk s H scope (compEnvC scope cl C X.env) fp) tg (liftG R L.K js t)) (ht : ∀ (s : Shared) (H : Hp) (C : Addr) (cl : List (Str × Addr)) (fp : List Addr), PTs (X.blk s H scope (compEnvC scope cl C X.env) fp) ifs (liftT L.blk tt))
    (hk : ∀ (s : Shared) (H : Hp) (C : Addr) (cl : List (Str × Addr)) (fp : List Addr), PE (X.blk s H scope (compEnvC scope cl C X.env) fp) kx (lift L.blk tk))
    (he : ∀ (s : Shared) (H : Hp) (C : Addr) (cl : List (Str × Addr)) (fp : List Addr), PE (X.blk s H scope (compEnvC scope cl C X.env) fp) vx (lift L.blk tv)) (hj : ∀ j ∈ js, j ∈ own.map (·.2) := by decide) (hs : ∀ x, foldedSetIterable iter X.env x = pure x := by intro _; rfl) :
    PE X (.DictComp kx vx [⟨tg, iter, ifs, 0⟩] scope pos) (lift L (vDc (own.map (·.2)) it t tt tk tv)) :=
  peImp (pe_dcT (by omega) hc hN hi ok hg ht (fun s H C cl fp => useD (hk s H C cl fp)) (fun s H C cl fp => useD (he s H C cl fp)) hs) fun _ _ _ h => dc_ok hj rfl h
end
end L2.VL

/-! VL11: name = {k: v for ..}. -/
namespace L2.VL
open PySem PySem.Spec PyProof.Rows
section
variable {X : Cx}
theorem ps_setDcT {i : Nat} {y : Str} {py : Pos} {kx vx tg iter : Expr} {ifs : List Expr} {scope : Scope} {own : List (Str × Nat)} {pos spos : Pos} {wi : TI} {g : TG} {tt : TT} {tk tv : TE} (hu : X.A.units < cLine) (hc : X.calm = true) (hN : X.N.Nodup) (hy : X.N[i]? = some y) (hyl : X.env.scope.names.lookup y = some .local)
    (hsw : swapsWith (.DictComp kx vx [⟨tg, iter, ifs, 0⟩] scope pos) (some (.Name y py)) spos.line X.env = pure true) (hi : PI X tg iter wi) (ok : BlkOk X.N X.env.scope scope own)
    (hg : ∀ (s : Shared) (H : Hp) (C : Addr) (cl : List (Str × Addr)) (fp : List Addr), PG (X.blk s H scope (compEnvC scope cl C X.env) fp) tg g) (ht : ∀ (s : Shared) (H : Hp) (C : Addr) (cl : List (Str × Addr)) (fp : List Addr), PTs (X.blk s H scope (compEnvC scope cl C X.env) fp) ifs tt)
    (hk : ∀ (s : Shared) (H : Hp) (C : Addr) (cl : List (Str × Addr)) (fp : List Addr), PE (X.blk s H scope (compEnvC scope cl C X.env) fp) kx tk)
    (he : ∀ (s : Shared) (H : Hp) (C : Addr) (cl : List (Str × Addr)) (fp : List Addr), PE (X.blk s H scope (compEnvC scope cl C X.env) fp) vx tv) (hs : ∀ x, foldedSetIterable iter X.env x = pure x := by intro _; rfl) :
    PS X (.Assign [.Name y py] (.DictComp kx vx [⟨tg, iter, ifs, 0⟩] scope pos) spos) (tAsg (tDcT wi g tt tk tv (own.map (·.2))) (gName i)) := by
  refine ⟨fun pins s σ H D I h => ?_⟩
  rw [exec_Assign_Name_used _ _ _ _ hsw]
  refine wpAny_bind (wpAny_standAt (wpAny_bind ?_))
  show wpAny _ X.A (do let _ ← comprehension (.DictComp kx vx [⟨tg, iter, ifs, 0⟩] scope pos) scope X.env (firstIterPos [⟨tg, iter, ifs, 0⟩] pos) newDict false (eval iter X.env) (some (assign (.Name y py) X.env))) _ _ s
  have h' : tDcT wi g tt tk tv (own.map (·.2)) σ H (fun x H1 => gName i x σ H1 D.nx) := h
  refine wpAny_bind (thn (dcT_core (Qf := fun _ s' => SP X pins D .next s') hu hc hN I hi ok hg ht hk he hs h' fun Dd C s' m H' I' q hn ⟨f0, f1, f2, f3, f4, f5⟩ => ?_) fun _ s' hq => wpAny_pure (wpAny_pure hq))
  show wpAny _ _ (assign (.Name y py) X.env (.ref Dd)) _ _ _
  refine wpAny_assign_Name (store_ok2 (v := V.ref Dd) I' hN hy (.inl hyl) rfl (fun s2 I2 ⟨a, sb, ha⟩ => ⟨m, hn.sameBut sb ?_, fun h3 sb3 => ?_⟩) (.inr hyl))
  · rcases ha with z | z
    · rw [z]; exact f1
    · exact fun e => f4 y a z e.symm
  · exact ⟨_, H', I2.turned (t' := s2.toks) (fun b o hb e => (sb3.2 b hb).trans e) f0 f1 f3 f4 f5, q⟩
theorem sw_trueD {kx vx : Expr} {gs : List Comprehension} {scope : Scope} {pos py : Pos} {y : Str} {l : Nat} {env : Env} (hk : env.scope.kind = .function) (hy : env.scope.names.lookup y = some .local) (hl : (py.line == pos.line) = true)
    (ha : (scope.names.any fun (n, k) => n == y && (k == .local || k == .cell)) = false) : swapsWith (.DictComp kx vx gs scope pos) (some (.Name y py)) l env = pure true := by
  have ky : env.kindOf y = some .local := hy
  have hb : env.blockKind = .function := by unfold Env.blockKind; rw [hk]; rfl
  unfold swapsWith
  simp only [hb, ky, ha, Expr.pos, hl]
  rfl
variable {R : Type} [Fam R] {L : LX} {pos : Pos} {a b c e tg : Expr} {it : M R (List D)} {t : D → List Slot → Option (List Slot)}
theorem vs_setDc {i : Nat} {y : Str} {py : Pos} {kx vx iter : Expr} {ifs : List Expr} {scope : Scope} {own : List (Str × Nat)} {spos : Pos} {js : List Nat} {tt : M R Bool} {tk tv : M R Slot} (hu : X.A.units + 1 < cLine) (hc : X.calm = true) (hN : X.N.Nodup) (hy : X.N[i]? = some y) (hyl : X.env.scope.names.lookup y = some .local)
    (hsw : swapsWith (.DictComp kx vx [⟨tg, iter, ifs, 0⟩] scope pos) (some (.Name y py)) spos.line X.env = pure true) (hi : PI X tg iter (liftI L it)) (ok : BlkOk X.N X.env.scope scope own)
    (hg : ∀ (s : Shared) (H : Hp) (C : Addr) (cl : List (Str × Addr)) (fp : List Addr), PG (X.blk s H scope (compEnvC scope cl C X.env) fp) tg (liftG R L.K js t)) (ht : ∀ (s : Shared) (H : Hp) (C : Addr) (cl : List (Str × Addr)) (fp : List Addr), PTs (X.blk s H scope (compEnvC scope cl C X.env) fp) ifs (liftT L.blk tt))
    (hk : ∀ (s : Shared) (H : Hp) (C : Addr) (cl : List (Str × Addr)) (fp : List Addr), PE (X.blk s H scope (compEnvC scope cl C X.env) fp) kx (lift L.blk tk))
    (he : ∀ (s : Shared) (H : Hp) (C : Addr) (cl : List (Str × Addr)) (fp : List Addr), PE (X.blk s H scope (compEnvC scope cl C X.env) fp) vx (lift L.blk tv)) (hj : ∀ j ∈ js, j ∈ own.map (·.2) := by decide) (hs : ∀ x, foldedSetIterable iter X.env x = pure x := by intro _; rfl) :
    PS X (.Assign [.Name y py] (.DictComp kx vx [⟨tg, iter, ifs, 0⟩] scope pos) spos) (liftS L (sSet i (vDc (own.map (·.2)) it t tt tk tv))) :=
  psImp (ps_setDcT (by omega) hc hN hy hyl hsw hi ok hg ht (fun s H C cl fp => useD (hk s H C cl fp)) (fun s H C cl fp => useD (he s H C cl fp)) hs) fun E σ H ⟨C, F, ρ, r, hR, g0⟩ =>
    dc_ok hj rfl ⟨C, F, ρ, r, hR, (GoodS.thenS g0).imp fun s ρ1 r1 F1 H1 R1 S1 g1 v rv => g1 _ F1 H1 (R1.setSlot i rv) (Same.refl _)⟩
end
end L2.VL

/-! VL12: sorted, repr. -/
namespace L2.VL
open PySem PySem.Spec PyProof.Rows

def isT1 : D → Bool
  | .tuple (_ :: _) => true
  | _ => false
def notTN : D → Bool
  | .tuple _ => false
  | .none => false
  | _ => true
/-- these can be sorted -/
def sortB (xs : List D) : Bool := decide (xs.length ≤ 1000000) && ((xs.all fun d => xs.all fun d' => PySem.W.alike d d') && ((xs.all isT1 || xs.all notTN) && ((xs.all fun d => decide (d.depth ≤ 100)) && xs.all fun d => d.canLay0)))
def sortD (xs : List D) : List D := xs.mergeSort (PySem.W.dataLe false id)
def gSorted : List D → Option Slot
  | [.list xs] => if sortB xs = true then some (.own (sortD xs)) else none
  | _ => none
theorem each_dn {K : PySem.W.Frag} {F : Hp} : ∀ {vs : List V} {us : List Value} {ds : List D}, Vals vs us → DnAll K F vs ds → PySem.W.EachIs (fun u d => ∃ v, RelV v u ∧ Dn K F v d) us ds
  | _, _, _, .nil, .nil => .nil
  | _, _, _, .cons r rs, .cons h t => .cons ⟨_, r, h⟩ (each_dn rs t)
theorem dn_each {K : PySem.W.Frag} {F : Hp} : ∀ {us : List Value} {ds : List D}, PySem.W.EachIs (fun u d => ∃ v, RelV v u ∧ Dn K F v d) us ds → ∃ vs, Vals vs us ∧ DnAll K F vs ds
  | _, _, .nil => ⟨[], .nil, .nil⟩
  | _, _, .cons ⟨v, r, h⟩ t => by
    obtain ⟨vs, h1, h2⟩ := dn_each t
    exact ⟨v :: vs, .cons r h1, .cons h h2⟩
theorem dn_reads {X : Cx} {pins : List (Addr × Obj)} {σ : St} {F H : Hp} {s : Shared} (I : Inv X pins σ H s) (hF : Same F H) {d : D} (c : d.canLay0 = true) {v : V} {u : Value} (h : Dn X.K F v d) (r : RelV v u) : ∃ as, Reads s.heap u d as := Dp.reads I d v u (dn_dp d c (dpS hF d h)) r
theorem each_reads {X : Cx} {pins : List (Addr × Obj)} {σ : St} {F H : Hp} {s : Shared} (I : Inv X pins σ H s) (hF : Same F H) : ∀ {vs : List V} {us : List Value} {ds : List D}, (∀ d ∈ ds, d.canLay0 = true) → Vals vs us → DnAll X.K F vs ds → PySem.W.EachIs (fun u d => ∃ as, Reads s.heap u (id d) as) us ds
  | _, _, _, _, .nil, .nil => .nil
  | _, _, _, c, .cons r rs, .cons h t => .cons (dn_reads I hF (c _ (List.mem_cons_self ..)) h r) (each_reads I hF (fun d hd => c d (List.mem_cons_of_mem _ hd)) rs t)
section
variable {X : Cx}
theorem cv_sorted (hu : X.A.units + 200 < cLine) : CallV X (.builtin "sorted") gSorted := by
  intro pins s σ H xs us Q I r h
  obtain ⟨F, ds, sl, hF, hd, hg, q⟩ := h
  unfold gSorted at hg
  split at hg
  · rename_i xs
    by_cases hb : sortB xs = true
    · rw [if_pos hb] at hg
      cases hg
      unfold sortB at hb
      simp only [Bool.and_eq_true, Bool.or_eq_true, decide_eq_true_eq, List.all_eq_true] at hb
      obtain ⟨b1, b2, b3, b4, b5⟩ := hb
      obtain ⟨v, rfl, hv⟩ := dn1 hd
      obtain ⟨a, vs, rfl, t1, t2⟩ := dp_lst hv
      obtain ⟨u, rfl, ru⟩ := vals1 r
      obtain rfl : u = Value.ref a := ru
      obtain ⟨its, rv, hl, hz⟩ := I.list (a := a) (xs := vs) (.inl (sameL hF t1))
      have hL : xs.length ≤ sizeLine := by rw [sizeLine_eq]; omega
      refine PySem.W.sorted_data (enc := id) hl.isList (each_dn rv t2) (each_reads I hF b5 rv t2) (by rw [List.map_id]; exact b2) (by
          rw [List.map_id]
          rcases b3 with b3 | b3
          · refine .inl fun d hd => ?_
            have := b3 d hd
            unfold isT1 at this
            split at this
            · exact ⟨_, _, rfl⟩
            · cases this
          · refine .inr fun d hd => ?_
            have := b3 d hd
            unfold notTN at this
            refine ⟨fun z => ?_, fun ys z => ?_⟩
            · subst z; cases this
            · subst z; cases this) hL (fun d hd => by have := b4 d hd; show X.A.units + 2 + d.depth < cLine; omega) fun out lo eo => ?_
      obtain ⟨ws, r2, d2⟩ := dn_each eo
      obtain ⟨n, hn⟩ := sortedAll_at s.heap its (List.toArray out)
      have np := I.hok.fresh (Nat.le_succ s.heap.objs.size)
      obtain ⟨x, nw⟩ := newLst (K := X.K) hF np d2
      refine ⟨.ref (s.heap.objs.size + 1), upd H (s.heap.objs.size + 1) (.lst ws), I.laid (t' := s.toks) (fun b o e => sortedAll_old e) (Nat.le_succ _) ⟨?_, out, n, r2, hn⟩, rfl, q _ _ _ x nw⟩
      rw [r2.length, lo]; exact hL
    · rw [if_neg hb] at hg; cases hg
  · cases hg
/-- repr of a nested tuple or list -/
def isObj : D → Bool
  | .tuple _ => true
  | .list _ => true
  | _ => false
def gRepr : List D → Option Slot
  | [d] => if isObj d = true ∧ d.canLay0 = true ∧ d.showable = true ∧ d.hasDict = false ∧ d.depth ≤ 100 ∧ d.shown.length ≤ 10000000 then some (.val (.str d.shown)) else none
  | _ => none
theorem sizeLine_big : 10000000 ≤ sizeLine := by rw [sizeLine_eq]; decide
theorem cv_repr (hgd : X.A.guards = some []) (hu : X.A.units + 200 < cLine) : CallV X (.builtin "repr") gRepr := by
  intro pins s σ H xs us Q I r h
  obtain ⟨F, ds, sl, hF, hd, hg, q⟩ := h
  unfold gRepr at hg
  split at hg
  · rename_i d
    by_cases hb : isObj d = true ∧ d.canLay0 = true ∧ d.showable = true ∧ d.hasDict = false ∧ d.depth ≤ 100 ∧ d.shown.length ≤ 10000000
    · rw [if_pos hb] at hg
      cases hg
      obtain ⟨b0, b1, b2, b3, b4, b5⟩ := hb
      obtain ⟨v, rfl, hv⟩ := dn1 hd
      obtain ⟨u, rfl, ru⟩ := vals1 r
      obtain ⟨as, rd⟩ := dn_reads I hF b1 hv ru
      have hz : d.shown.length ≤ sizeLine := Nat.le_trans b5 sizeLine_big
      have ha : ∃ a, u = .ref a := by
        cases d with
        | tuple ys => obtain ⟨a, vs, rfl, _⟩ := dp_tup hv; exact ⟨a, ru⟩
        | list ys => obtain ⟨a, vs, rfl, _⟩ := dp_lst hv; exact ⟨a, ru⟩
        | _ => cases b0
      obtain ⟨a, rfl⟩ := ha
      refine repr_of_reads' rd b2 (fun z => by rw [b3] at z; cases z) hgd (by omega) (fun _ _ e => e) (fun h' u tk hk => ⟨.str d.shown, H, I.kept hk, ⟨u, rfl⟩, q _ F H (Ext.refl hF) (.str _)⟩) hz
    · rw [if_neg hb] at hg; cases hg
  · cases hg
end
theorem room200 {k : Nat} {A : Around} (hr : Room k A) : A.units + 200 < cLine := by have := hr.un; omega
end L2.VL

/-! VLD: the draws of a law: a dict of five texts' entries, one of them a list that stays. -/
namespace L2.VL
open PySem PySem.Spec PyProof.Rows
structure Dr where
  cells : List Int
  at_ : Int
  left : Int
  count : Int
  sum : Int
inductive DKey where
  | at_ | left | count | sum
def DKey.key : DKey → Str
  | .at_ => "at"
  | .left => "left"
  | .count => "count"
  | .sum => "sum"
def Dr.get (d : Dr) : DKey → Int
  | .at_ => d.at_
  | .left => d.left
  | .count => d.count
  | .sum => d.sum
def Dr.set (d : Dr) (n : Int) : DKey → Dr
  | .at_ => { d with at_ := n }
  | .left => { d with left := n }
  | .count => { d with count := n }
  | .sum => { d with sum := n }
def kS (x : Str) : Key := Sum.inr x
def drL (c : Addr) (d : Dr) : List (Key × V) := [(kS "cells", .ref c), (kS "at", .int d.at_), (kS "left", .int d.left), (kS "count", .int d.count), (kS "sum", .int d.sum)]
def drD (c : Addr) (d : Dr) : HO := .dK (drL c d)
structure DrOk (d : Dr) : Prop where
  at0 : 0 ≤ d.at_
  len : d.cells.length ≤ 63
def drH (a c : Addr) (d : Dr) (H : Hp) : Prop := H a = some (drD c d) ∧ Rd H c (.lst (d.cells.map V.int)) ∧ DrOk d
instance : Fam Dr := ⟨fun root fp holds => ∃ a c, a ≠ c ∧ root = .ref a ∧ fp = (fun b => b = a ∨ b = c) ∧ holds = drH a c⟩
theorem dr_get (c : Addr) (d : Dr) (k : DKey) : valV (drL c d) (kS k.key) = some (.int (d.get k)) := by cases k <;> rfl
theorem dr_cells (c : Addr) (d : Dr) : valV (drL c d) (kS "cells") = some (.ref c) := rfl
theorem dr_put (c : Addr) (d : Dr) (k : DKey) (n : Int) : putK (drL c d) (kS k.key) (.int n) = drL c (d.set n k) := by cases k <;> rfl
theorem hel_dr {K : PySem.W.Frag} {C : Ctx Dr} {F H : Hp} {r : Dr} (h : Hel K C F H r) : ∃ a c, a ≠ c ∧ C.rootV = .ref a ∧ (∀ b, C.fp b ↔ b = a ∨ b = c) ∧ C.holds = drH a c ∧ H a = some (drD c r) ∧ Rd H c (.lst (r.cells.map V.int)) ∧ DrOk r := by
  obtain ⟨a, c, h1, h2, h3, h4⟩ := h.ok.fam
  have q := h.hr
  rw [h4] at q
  exact ⟨a, c, h1, h2, fun b => by rw [h3], h4, q.1, q.2.1, q.2.2⟩
theorem rd_upd {H : Hp} {a c : Addr} {o u : HO} (h : c ≠ a) (r : Rd H c u) : Rd (upd H a o) c u := by
  rcases r with r | ⟨ob, r⟩
  · exact .inl (by rw [upd_ne h]; exact r)
  · exact .inr ⟨ob, by rw [upd_ne h]; exact r⟩
/-- the resource is written -/
theorem Rel.chgR {R : Type} [Fam R] {K : PySem.W.Frag} {C : Ctx R} {F H : Hp} {σ : St} {ρ : List Slot} {r r' : R} {a : Addr} {o : HO} (h : Rel K C F σ H ρ r) (fa : C.fp a) (hr : C.holds r' (upd H a o)) : Rel K C F σ (upd H a o) ρ r' := by
  have n0 : ∃ o, C.H0 a = some o := (h.hel.ok.fp0 a fa).imp fun _ h => h.1
  have nF : F a = none := by
    cases q : F a with
    | none => rfl
    | some u =>
      exfalso
      rcases h.hel.new a u q with z | z | ⟨xs, z⟩
      · exact (h.hel.ok.f0 a u z).2 fa
      · obtain ⟨o', e⟩ := n0; rw [z] at e; cases e
      · obtain ⟨o', e', nt⟩ := h.hel.ok.there r H a h.hel.hr fa
        have q1 := h.hel.fH a u q
        rw [e'] at q1
        exact nt xs ((Option.some.inj q1).trans z)
  have ne0 : ∀ b, C.H0 b = none → b ≠ a := fun b e z => by subst z; obtain ⟨o', e'⟩ := n0; rw [e] at e'; cases e'
  refine ⟨⟨h.hel.ok, h.hel.fF, h.hel.new, fun b u q => ?_, fun b u q nf => ?_, hr, fun b u q => ?_⟩, h.len, fun i s e n => ?_, h.apart⟩
  · rw [upd_ne (ne_of_none q nF)]; exact h.hel.fH b u q
  · rw [upd_ne (fun z => by subst z; exact nf fa)]; exact h.hel.frame b u q nf
  · obtain ⟨g1, g2, g3, g4⟩ := h.hel.gh b u q
    exact ⟨by rw [upd_ne (ne0 b g3)]; exact g1, g2, g3, g4⟩
  · obtain ⟨v, e1, e2⟩ := h.slot i s e n
    refine ⟨v, e1, ?_⟩
    cases s with
    | emp => trivial
    | val d => exact e2
    | root => exact e2
    | own ds =>
      obtain ⟨b, vs, rfl, h1, h2, h3, h4, h5⟩ := e2
      exact ⟨b, vs, rfl, by rw [upd_ne (ne0 b h2)]; exact h1, h2, h3, h4, h5⟩
    | ownT ds =>
      obtain ⟨b, vs, rfl, h1, h2, h3, h4, h5⟩ := e2
      exact ⟨b, vs, rfl, by rw [upd_ne (ne0 b h2)]; exact h1, h2, h3, h4, h5⟩

section
variable {X : Cx} {L : LX} {pos : Pos} {b e : Expr} {fb fe : M Dr Slot}
def isRoot : Option Slot → Bool
  | some .root => true
  | _ => false
theorem isRoot_some {o : Option Slot} (h : isRoot o = true) : o = some .root := by
  unfold isRoot at h
  split at h
  · rfl
  · cases h
def vDrGet (i : Nat) (k : DKey) : M Dr Slot := fun ρ r => if isRoot ρ[i]? = true then .ok (.val (.int (r.get k))) ρ r else .stuck
theorem ve_drGet (k : DKey) {i : Nat} {x : Str} {p kp : Pos} {j : Nat} (hu : X.A.units + 1 < cLine) (hN : X.N[i]? = some x) (hv : Vis X.env.scope x) (hs : NoSl (.Constant (.str k.key) j kp) := by intro _ _; rfl) (hd : (x == ("__debug__" : Str)) = false := by decide) (hcd : (x == ("__classdict__" : Str)) = false := by decide) :
    PE X (.Subscript (.Name x p) (.Constant (.str k.key) j kp) pos) (lift L (vDrGet i k)) :=
  peImp (pe_dget hu (pe_var hN hv hd hcd) pe_str hs) fun σ H Q ⟨C, F, ρ, r, hR, g0⟩ => by
    unfold vDrGet at g0
    by_cases z : isRoot ρ[i]? = true
    · rw [if_pos z] at g0
      obtain ⟨v, ev, e2⟩ := hR.slot i _ (isRoot_some z) (fun z => nomatch z)
      obtain ⟨a, c, _, h2, _, _, h5, _⟩ := hel_dr hR.hel
      refine ⟨v, ev, a, _, e2.trans h2, ?_, g0 F H hR (Same.refl _) _ ⟨.int _, fun z => nomatch z⟩⟩
      rw [← dr_get c r k]
      exact DGet.k (k := kS k.key) h5
    · rw [if_neg z] at g0; exact g0.elim
def vDrLen (i : Nat) : M Dr Slot := fun ρ r => if isRoot ρ[i]? = true then .ok (.val (.int r.cells.length)) ρ r else .stuck
theorem ve_drLen {i : Nat} {x : Str} {p kp sp pn : Pos} {j : Nat} (hu : X.A.units + 1 < cLine) (hN : X.N[i]? = some x) (hv : Vis X.env.scope x) (hg : Gl X "len") (hm : X.mg "len" = none) (hs : NoSl (.Constant (.str "cells") j kp) := by intro _ _; rfl) (hd : (x == ("__debug__" : Str)) = false := by decide) (hcd : (x == ("__classdict__" : Str)) = false := by decide)
    (hst : starEach [Expr.Subscript (.Name x p) (.Constant (.str "cells") j kp) sp] X.env = (false, eval (.Subscript (.Name x p) (.Constant (.str "cells") j kp) sp) X.env) :: starEach [] X.env := by rfl) (hpl : (backTo pos (starEach [] X.env)).any (·.1) = false := by rfl) :
    PE X (.Call (.Name "len" pn) [.Subscript (.Name x p) (.Constant (.str "cells") j kp) sp] [] pos) (lift L (vDrLen i)) :=
  peImp (pe_callB (call_len_seq.or call_len_str) hg hm PySem.boot_len (pa_cons (pe_dget hu (pe_var hN hv hd hcd) pe_str hs) pa_nil hst) (by decide) (by decide) hst hpl) fun σ H Q ⟨C, F, ρ, r, hR, g0⟩ => by
    unfold vDrLen at g0
    by_cases z : isRoot ρ[i]? = true
    · rw [if_pos z] at g0
      obtain ⟨v, ev, e2⟩ := hR.slot i _ (isRoot_some z) (fun z => nomatch z)
      obtain ⟨a, c, _, h2, _, _, h5, h6, _⟩ := hel_dr hR.hel
      refine ⟨v, ev, a, .ref c, e2.trans h2, by rw [← dr_cells c r]; exact DGet.k (k := kS "cells") h5, .inl ⟨c, _, rfl, .inl (.inl h6), ?_⟩⟩
      have g1 := g0 F H hR (Same.refl _) (.int (r.cells.length : Int)) ⟨.int _, fun z => nomatch z⟩
      rw [List.length_map]
      exact g1
    · rw [if_neg z] at g0; exact g0.elim
def vDrCell (i : Nat) (fb : M Dr Slot) : M Dr Slot := fun ρ0 r0 => if isRoot ρ0[i]? = true then (bnd (toD fb) fun e => fun ρ r => match e with
  | .int n => (match atI r.cells n with
    | some x => .ok (.val (.int x)) ρ r
    | none => .stuck)
  | _ => .stuck) ρ0 r0 else .stuck
theorem atI_map {α β : Type} (f : α → β) (xs : List α) (n : Int) : atI (xs.map f) n = (atI xs n).map f := by
  unfold atI
  rw [List.length_map]
  cases ixN xs.length n with
  | none => rfl
  | some j => exact List.getElem?_map ..
theorem ve_drCell {i : Nat} {x : Str} {p kp sp : Pos} {j : Nat} (hu : X.A.units + 1 < cLine) (hN : X.N[i]? = some x) (hv : Vis X.env.scope x) (hb : PE X b (lift L fb)) (hpx : PlainIx b) (hs : NoSl (.Constant (.str "cells") j kp) := by intro _ _; rfl) (hd : (x == ("__debug__" : Str)) = false := by decide) (hcd : (x == ("__classdict__" : Str)) = false := by decide) :
    PE X (.Subscript (.Subscript (.Name x p) (.Constant (.str "cells") j kp) sp) b pos) (lift L (vDrCell i fb)) :=
  peImp (pe_ix ix_seq (pe_dget hu (pe_var hN hv hd hcd) pe_str hs) (useD hb) hpx) fun σ H Q ⟨C, F, ρ, r, hR, g0⟩ => by
    unfold vDrCell at g0
    by_cases z : isRoot ρ[i]? = true
    · rw [if_pos z] at g0
      obtain ⟨v, ev, e2⟩ := hR.slot i _ (isRoot_some z) (fun z => nomatch z)
      obtain ⟨a, c, hac, h2, h3, h4, h5, h6, _⟩ := hel_dr hR.hel
      refine ⟨v, ev, a, .ref c, e2.trans h2, by rw [← dr_cells c r]; exact DGet.k (k := kS "cells") h5, C, F, ρ, r, hR, (Good.bnd g0).imp fun e ρ1 r1 F1 H1 R1 S1 g1 y dy => ?_⟩
      obtain ⟨a', c', hac', h2', h3', h4', h5', h6', _⟩ := hel_dr R1.hel
      have ea : a = a' := by rw [h2] at h2'; cases h2'; rfl
      subst ea
      have ec : c = c' := by
        rcases (h3' c).mp ((h3 c).mpr (.inr rfl)) with z | z
        · exact absurd z.symm hac
        · exact z
      subst ec
      cases e with
      | int n =>
        dsimp only at g1
        cases zz : atI r1.cells n with
        | none => rw [zz] at g1; exact g1.elim
        | some w =>
          rw [zz] at g1
          exact .inl ⟨c, _, n, .int w, rfl, dp_int dy, .inl h6', by have := atI_map V.int r1.cells n; rw [zz] at this; exact this, g1 F1 H1 R1 (Same.refl _) _ ⟨.int _, fun z => nomatch z⟩⟩
      | _ => exact g1.elim
    · rw [if_neg z] at g0; exact g0.elim
def DKey.fine (n : Int) : DKey → Bool
  | .at_ => decide (0 ≤ n)
  | _ => true
theorem fine_ok {d : Dr} {n : Int} {k : DKey} (h : DrOk d) (f : k.fine n = true) : DrOk (d.set n k) := by
  cases k with
  | at_ => exact ⟨of_decide_eq_true f, h.len⟩
  | _ => exact ⟨h.at0, h.len⟩
def sDrPut (i : Nat) (k : DKey) (fe : M Dr Slot) : MS Dr := thenS (toD fe) fun d => fun ρ r => match d with
  | .int n => if isRoot ρ[i]? = true ∧ k.fine n = true then .nx ρ (r.set n k) else .stuck
  | _ => .stuck
theorem dr_setc (d : Dr) (n : Int) (k : DKey) : (d.set n k).cells = d.cells := by cases k <;> rfl
theorem vs_drPut (k : DKey) {i : Nat} {x : Str} {p kp pos' : Pos} {j : Nat} (hu : X.A.units + 1 < cLine) (hN : X.N[i]? = some x) (hv : Vis X.env.scope x) (he : PE X e (lift L fe)) (hd : (x == ("__debug__" : Str)) = false := by decide) (hcd : (x == ("__classdict__" : Str)) = false := by decide)
    (hs : swapsWith e (some (.Subscript (.Name x p) (.Constant (.str k.key) j kp) pos')) pos.line X.env = pure false := by rfl) : PS X (.Assign [.Subscript (.Name x p) (.Constant (.str k.key) j kp) pos'] e pos) (liftS L (sDrPut i k fe)) :=
  psImp (ps_dput hu (pe_var hN hv hd hcd) pe_str (useD he) hs) fun E σ H ⟨C, F, ρ, r, hR, g0⟩ =>
  ⟨C, F, ρ, r, hR, (GoodS.thenS g0).imp fun d ρ1 r1 F1 H1 R1 S1 g1 y dy => by
    cases d with
    | int n =>
      dsimp only at g1
      by_cases z : isRoot ρ1[i]? = true ∧ k.fine n = true
      · rw [if_pos z] at g1
        cases dp_int dy
        obtain ⟨v, ev, e2⟩ := R1.slot i _ (isRoot_some z.1) (fun z => nomatch z)
        obtain ⟨a, c, hac, h2, h3, h4, h5, h6, h7⟩ := hel_dr R1.hel
        refine ⟨v, ev, a, upd H1 a (drD c (r1.set n k)), e2.trans h2, ?_, g1 σ F1 _ (R1.chgR ((h3 a).mpr (.inl rfl)) ?_) (Same.refl _)⟩
        · have q := DPut.k (k := kS k.key) (v := .int n) h5 (by rw [sizeLine_eq]; show 5 < _; decide)
          rw [dr_put] at q
          exact q
        · rw [h4]
          exact ⟨upd_same, by rw [dr_setc]; exact rd_upd hac.symm h6, fine_ok h7 z.2⟩
      · rw [if_neg z] at g1; exact g1.elim
    | _ => exact g1.elim⟩
end
end L2.VL

/-! VLW: the law's own def, entered where no repr is under way. -/
namespace L2.VL
open PySem PySem.Spec PyProof.Rows
/-- the promise of the law's def: as the layer's, but with no guard about it -/
def FnG (P : Program) (w : World) (K : PySem.W.Frag) (mg : Str → Option Value) (base : Heap) (CX : CXT) (k : Nat) (f : Addr) (fd : FuncData) (ps : List Str) (sp : Sp) : Prop :=
  ∀ (A : Around) (outer : List Env) (s : Shared) (H : Hp) (args : Args) (us : List Value) (vs : List V) (Q : VK) (E : XK), A.guards = some [] → Room k A → Env0 P w K mg base A outer s H → BindsTo s fd args (ps.zip us) → Vals vs us → sp vs H Q E →
    codeAny (model P w) A (.call (.ref f) args) (CR CX outer P w H s Q E) s
theorem fnG_of {CX : CXT} {P : Program} {w : World} {K : PySem.W.Frag} {mg : Str → Option Value} {base : Heap} {k : Nat} {f : Addr} {name qual : Str} {params : Arguments} {body : List Stmt} {scope : Scope} {dV kV doc pm cdv ct oc : Value} {an od : Option Addr}
    {osl : Array (Option Value)} {N ps : List Str} {sp : Sp} (lk : K.lookup f = some ⟨oc, od, .func (PySem.W.fnOf name qual params body scope dV kV doc pm an cdv ct), osl⟩) (hcd : PySem.W.codeIn K cdv qual = true) (S : FnScope N ps scope)
    (len : ∀ vs H Q E, sp vs H Q E → vs.length = ps.length)
    (hbody : ∀ (A : Around) (outer : List Env) (s : Shared) (H : Hp) (vs : List V) (Q : VK) (E : XK), A.guards = some [] → Room k (A.deeper (envOfC qual scope s.heap.objs.size f cdv)) → sp vs H Q E →
      ∃ t, PSs (cxOf CX P w K mg base N qual scope f cdv A outer s H E) body t ∧ t { nx := fun _ H' => Q .non H', rt := Q } (start N vs) H) :
    FnG P w K mg base CX (k + 1) f (PySem.W.fnOf name qual params body scope dV kV doc pm an cdv ct) ps sp := by
  intro A outer s H args us vs Q E hg hr e0 hb r hsp
  have KX : K.In s.heap := e0.mod.kin.keeps fun b o e => (e0.bs b o e).1
  refine codeAny_call_function hr.depth (KX _ _ lk) rfl S.co S.gen rfl (PySem.W.codeRec_of KX hcd) (hb _ _ _ _ (wpAny_newFunctionEnv_cells S.kind (fun ⟨n, v⟩ hy => ?_) fun env he s1 x => ?_))
  · rcases S.par n (List.of_mem_zip hy).1 with q | q
    · exact .inl q
    · exact .inr ⟨q, PySem.W.cellsFrom_some _ _ _ (.inl q)⟩
  subst he
  refine ⟨(e0.mod.nolimit.keeps fun b o e => (e0.bs b o e).1).keeps x.toInCall.keep, codeAny_func ?_⟩
  obtain ⟨t, ht, hq⟩ := hbody A outer s H vs Q E hg (hr.deeper _) hsp
  refine wpAny_mono (ht.run [] s1 (start N vs) H _ (inv_start S hr.hd e0 (len _ _ _ _ hsp) r x) hq) (fun fl s' hs => ?_) fun e s' hs => hs
  cases fl with
  | ret u => obtain ⟨v, σ', H', J, rv, q⟩ := hs; exact ⟨v, H', J.os, J.bare, J.base, J.hok, rv, q⟩
  | next => obtain ⟨σ', H', J, q⟩ := hs; exact ⟨V.non, H', J.os, J.bare, J.base, J.hok, rfl, q⟩
  | brk => exact hs.elim fun _ h => h.elim fun _ h => h.2.elim
  | cont => exact hs.elim fun _ h => h.elim fun _ h => h.2.elim
/-- the law's call, at the heap behind the top -/
theorem law_callG {P : Program} {w : World} {K : PySem.W.Frag} {mg mb : Str → Option Value} {CX : CXT} {k : Nat} {fa a : Addr} {fd : FuncData} {x : Str} {sp : Sp} {s₁ : Shared} {vs : List Value} {ns : List Int}
    (KX : K.In s₁.heap) (hns : s₁.heap.Ns mainGlobals mg) (hb : s₁.heap.Ns builtinsNs mb) (hbb : ∀ x : Str, x ≠ "__name__" → mb x = bootBuiltins x) (hlim : s₁.heap.NoLimit) (hg : s₁.gens = #[])
    (ha : s₁.heap.get? a = some { cls := .type "list", data := .seq vs.toArray }) (hi : IntsAre vs ns) (hl : ns.length ≤ sizeLine) (hr : Room k callerA)
    (F : ∀ base : Heap, K.In base → base.Ns mainGlobals mg → FnG P w K mg base CX k fa fd [x] sp) (hbind : ∀ (s : Shared) (u : Value), BindsTo s fd ⟨[u], []⟩ [(x, u)])
    (hsp : ∀ H : Hp, Only H → SqL K H a (ns.map V.int) → sp [.ref a] H (fun v _ => v = .bl true) fun _ _ _ => False)
    (hCX : ∀ H e s', CX [] H s₁ (fun _ _ _ => False) e s' → False) :
    codeAny (model P w) callerA (.call (.ref fa) ⟨[.ref a], []⟩) (fun r s' => r = .ok (.ret (.bool true)) ∧ OldK s₁.heap s'.heap ∧ s'.os = s₁.os ∧ AllBare s'.gens) s₁ := by
  have rv := vals_ints hi
  have go : ∀ H : Hp, Only H → SqL K H a (ns.map V.int) → HOk P w H s₁.heap → (∀ b, H b ≠ none → b = a) → (H a ≠ none → K.lookup a = none) →
      codeAny (model P w) callerA (.call (.ref fa) ⟨[.ref a], []⟩) (fun r s' => r = .ok (.ret (.bool true)) ∧ OldK s₁.heap s'.heap ∧ s'.os = s₁.os ∧ AllBare s'.gens) s₁ := by
    intro H hO hS hok hA hK
    have at_a : ∀ {b : Addr}, H b = none ∨ b = a := fun {b} => by
      cases q : H b with
      | none => exact .inl rfl
      | some u => exact .inr (hA b (by rw [q]; simp))
    have nsK : ∀ {b : Addr} {m : Str → Option Value}, s₁.heap.Ns b m → (hidT s₁.heap H).Ns b m := fun {b m} ⟨o, es, ep, e, d, r⟩ => ⟨o, es, ep, hidT_get e (by
      rcases at_a (b := b) with q | q
      · exact q
      · subst q
        rw [ha] at e
        cases e
        exact nomatch d), d, r⟩
    have hKb : K.In (hidT s₁.heap H) := fun b o e => hidT_get (KX b o e) (by
      cases q : H b with
      | none => rfl
      | some u =>
        have e' : b = a := hA b (by rw [q]; simp)
        subst e'
        rw [hK (by rw [q]; simp)] at e; cases e)
    obtain ⟨mc, l1, l2⟩ := hlim
    have e0 : Env0 P w K mg (hidT s₁.heap H) callerA [] s₁ H := ⟨rfl, ⟨hKb, nsK hns, ⟨mb, nsK hb, hbb⟩, mc, nsK l1, l2⟩, fun b o e => of_hidT e, Nat.le_of_eq (hidT_size _ _), trivial, fun b hb => absurd (show b ∈ ([] : List Addr) from hb) (by simp), hok, .of_eq hg⟩
    refine codeAny_mono (F _ hKb (nsK hns) callerA [] s₁ H ⟨[.ref a], []⟩ [.ref a] [.ref a] _ _ rfl hr e0 (hbind s₁ (.ref a)) (.cons rfl .nil) (hsp H hO hS)) fun r s' h => ?_
    cases r with
    | error e => exact (hCX H e s' h).elim
    | ok fl =>
      cases fl with
      | next => exact False.elim h
      | brk => exact False.elim h
      | cont => exact False.elim h
      | ret u =>
        obtain ⟨v, H', os, bare, un, hok', r', rfl⟩ := h
        obtain rfl : u = Value.bool true := r'
        refine ⟨rfl, OldK.of_keep fun b o e => ?_, os, bare⟩
        rcases hO b with q | ⟨ob, xs, q⟩
        · exact un.keep b o e q (by intro z; exact absurd (show b ∈ ([] : List Addr) from z) (by simp)) (by simp)
        · obtain ⟨e1, _⟩ := hok b _ q
          obtain ⟨e2, _⟩ := hok' b _ (un.frzs b ob _ q)
          rw [e] at e1; cases e1
          exact e2
  cases hk : K.lookup a with
  | some o =>
    have e := KX a o hk
    rw [ha] at e
    cases e
    exact go (fun _ => none) (fun _ => .inl rfl) (.inr ⟨_, vs.toArray, _, hk, rfl, rfl, rfl, by rw [List.size_toArray, hi.length]; exact hl, by simpa using rv⟩) (fun b u z => nomatch (show (none : Option HO) = some u from z)) (fun b z => absurd rfl z) fun z => absurd rfl z
  | none =>
    have at1 : upd (fun _ => none) a (.frz { cls := .type "list", data := .seq vs.toArray } (.lst (ns.map V.int))) a = some (.frz { cls := .type "list", data := .seq vs.toArray } (.lst (ns.map V.int))) := upd_same
    have at2 : ∀ b, b ≠ a → upd (fun _ => none) a (.frz { cls := .type "list", data := .seq vs.toArray } (.lst (ns.map V.int))) b = none := fun b hb => upd_ne hb
    refine go (upd (fun _ => none) a (.frz { cls := .type "list", data := .seq vs.toArray } (.lst (ns.map V.int)))) (fun b => ?_) (.inl (.inr ⟨_, at1⟩)) (fun b u z => ?_) (fun b z => ?_) fun _ => hk
    · by_cases hb : b = a
      · exact .inr ⟨_, _, by rw [hb]; exact at1⟩
      · exact .inl (at2 b hb)
    · by_cases hb : b = a
      · subst hb
        rw [at1] at z
        cases z
        exact ⟨ha, by rw [List.length_map]; exact hl, vs, _, rv, ha⟩
      · rw [at2 b hb] at z; cases z
    · by_cases hb : b = a
      · exact hb
      · exact absurd (at2 b hb) z
theorem cx_false {P : Program} {w : World} {H : Hp} {s : Shared} {e : Value} {s' : Shared} (h : L2.CX P w [] H s (fun _ _ _ => False) e s') : False := by
  obtain ⟨_, _, _, _, _, _, _, _, _, _, _, _, z⟩ := h
  exact z
/-- the goal that the head leaves, from the law's promise -/
theorem walk_ofG {l : PySem.W.OpenLaw} {n k : Nat} {q : Program} {loose : List Str} {XP : (Str → Option Value) → Heap → Prop} {YP : World → Heap → Prop} {d : DefRec} {K : Params → PySem.W.Frag} {sp : PySem.W.Frag → Sp} {x : Str}
    (hn : l.most = some n) (hn2 : n ≤ sizeLine) (hdf : d.params.defaults = []) (hr : Room k callerA)
    (hY : ∀ (w : World) (h : Heap), YP w h → (K w.params).In h)
    (F : ∀ (w : World) (mg : Str → Option Value) (fa : Addr) (h : Heap), (K w.params).In h → h.Ns mainGlobals mg → mg d.name = some (.ref fa) →
      ∃ fd : FuncData, (∀ (s : Shared) (u : Value), BindsTo s fd ⟨[u], []⟩ [(x, u)]) ∧
        ∀ base : Heap, (K w.params).In base → base.Ns mainGlobals mg → FnG l.prog w (K w.params) mg base (L2.CX l.prog w) k fa fd [x] (sp (K w.params)))
    (hsp : ∀ (K : PySem.W.Frag) (H : Hp) (a : Addr) (ns : List Int), ns.length ≤ n → Only H → SqL K H a (ns.map V.int) → sp K [.ref a] H (fun v _ => v = .bl true) fun _ _ _ => False) :
    PySem.W.WalkO q loose XP YP l.row.toRowW d [] (fun f vs => PySem.call f vs) := by
  refine Att.attach_call hn hdf fun w s₀ s₁ mg mb fa o pm cd doc a vs ns G Y ho hd hcd hmg hobj hints hlen hg => ?_
  obtain ⟨fd, hb, hF⟩ := F w mg fa _ (hY w _ Y) G.T.g hmg
  exact law_callG (hY w _ Y) G.T.g G.T.b G.T.builtins G.T.nolimit hg hobj hints (Nat.le_trans hlen hn2) hr hF hb (fun H hO hS => hsp _ H a ns hlen hO hS) fun H e s' => cx_false
end L2.VL

/-! VLL: the beginning of a law: the script's cells, the dict of the draws; the law's own def. -/
namespace L2.VL
open PySem PySem.Spec PyProof.Rows
structure Scr (K : PySem.W.Frag) where
  ns : List Int
instance (K : PySem.W.Frag) : Fam (Scr K) := ⟨fun root _ holds => ∃ a, root = .ref a ∧ ∀ r H, holds r H → SqL K H a (r.ns.map V.int)⟩
theorem noneH {o : HO} (e : (none : Option HO) = some o) : False := by cases e
theorem scr_ctx {K : PySem.W.Frag} {H : Hp} {a : Addr} {ns : List Int} (h : SqL K H a (ns.map V.int)) : ∃ C : Ctx (Scr K), Hel K C (fun _ => none) H ⟨ns⟩ ∧ C.rootV = .ref a ∧ C.F0 = (fun _ => none) ∧ C.H0 = H ∧ C.gh = fun _ => none := by
  rcases h with h | h
  · refine ⟨⟨fun _ => none, H, fun _ => none, .ref a, fun b => b = a, fun r H => Rd H a (.lst (r.ns.map V.int))⟩, ⟨⟨⟨a, rfl, fun r H h => .inl h⟩, fun r H H' h k => ?_, fun r H b h e => ?_, fun b e => ?_, fun b o e => (noneH e).elim⟩, Same.refl _, fun b o e => .inl e, fun b o e => (noneH e).elim, fun b o e _ => e, h, fun b o e => (noneH e).elim⟩, rfl, rfl, rfl, rfl⟩
    · rcases h with h | ⟨o, h⟩
      · exact .inl (k a _ rfl h)
      · exact .inr ⟨o, k a _ rfl h⟩
    · have e' : b = a := e
      subst e'
      rcases h with h | ⟨o, h⟩
      · exact ⟨_, h, fun _ z => nomatch z⟩
      · exact ⟨_, h, fun _ z => nomatch z⟩
    · have e' : b = a := e
      subst e'
      rcases h with h | ⟨o, h⟩
      · exact ⟨_, h, fun _ z => nomatch z⟩
      · exact ⟨_, h, fun _ z => nomatch z⟩
  · have h0 : SqL K (fun _ => none) a (ns.map V.int) := .inr h
    refine ⟨⟨fun _ => none, H, fun _ => none, .ref a, fun _ => False, fun r _ => SqL K (fun _ => none) a (r.ns.map V.int)⟩, ⟨⟨⟨a, rfl, fun r H h => ?_⟩, fun r H H' h k => h, fun r H b h e => e.elim, fun b e => e.elim, fun b o e => (noneH e).elim⟩, Same.refl _, fun b o e => .inl e, fun b o e => (noneH e).elim, fun b o e _ => e, h0, fun b o e => (noneH e).elim⟩, rfl, rfl, rfl, rfl⟩
    rcases h with (h | ⟨o, h⟩) | h
    · exact (noneH h).elim
    · exact (noneH h).elim
    · exact .inr h
section
variable {X : Cx} {K : PySem.W.Frag} {L : LX} {pos : Pos}
/-- script[:n] -/
def vScr (i : Nat) (n : Int) : M (Scr K) Slot := fun ρ r => if isRoot ρ[i]? = true then .ok (.own (cutD (r.ns.map PyData.int) none (some n))) ρ r else .stuck
theorem dn_ints {F : Hp} : ∀ ns : List Int, DnAll K F (ns.map V.int) (ns.map PyData.int)
  | [] => .nil
  | n :: ns => .cons (.int n) (dn_ints ns)
theorem ve_scr {i : Nat} {x : Str} {n : Int} {p p2 cp : Pos} {j : Nat} (hK : X.K = K) (hN : X.N[i]? = some x) (hv : Vis X.env.scope x) (hd : (x == ("__debug__" : Str)) = false := by decide) (hcd : (x == ("__classdict__" : Str)) = false := by decide) :
    PE X (.Subscript (.Name x p) (.Slice none (some (.Constant (.int n) j cp)) none p2) pos) (lift L (vScr i n : M (Scr K) Slot)) :=
  peImp (pe_slice sl_list (pe_var hN hv hd hcd) po_none (po_some pe_int)) fun σ H Q ⟨C, F, ρ, r, hR, g0⟩ => by
    unfold vScr at g0
    by_cases z : isRoot ρ[i]? = true
    · rw [if_pos z] at g0
      obtain ⟨v, ev, e2⟩ := hR.slot i _ (isRoot_some z) (fun z => nomatch z)
      obtain ⟨a, h2, h3⟩ := hR.hel.ok.fam
      have hq := h3 r H hR.hel.hr
      subst hK
      refine ⟨v, ev, n, rfl, a, _, e2.trans h2, hq, fun q nq => ?_⟩
      obtain ⟨x, nw⟩ := newLst (K := L.K) hR.hel.fH nq (cut_dn none (some n) (dn_ints r.ns))
      exact g0 F _ (hR.ext x) (Same.refl _) _ (nw.res hR x)
    · rw [if_neg z] at g0; exact g0.elim
end

/-- the promise of _law_begin -/
def spB (K : PySem.W.Frag) : Sp := fun vs H Q _ => ∃ (a : Addr) (ns : List Int), vs = [.ref a] ∧ SqL K H a (ns.map V.int) ∧ ns.length ≤ 63 ∧ ∀ p c d H', p ≠ c → H' p = some (drD c d) → Rd H' c (.lst (d.cells.map V.int)) → DrOk d → Q (.ref p) H'
/-- {'cells': cells, 'at': 0, 'left': 0, 'count': 0, 'sum': e} -/
theorem begin_ret {X : Cx} {K : PySem.W.Frag} {L : LX} {pos rpos k1 k2 k3 k4 k5 p1 p2 p3 p4 : Pos} {j1 j2 j3 j4 j5 i2 i3 i4 i : Nat} {x : Str} {e : Expr} {fe : M (Scr K) Slot}
    (hN : X.N[i]? = some x) (hv : Vis X.env.scope x) (he : PE X e (lift L fe)) (hd : (x == ("__debug__" : Str)) = false := by decide) (hcd : (x == ("__classdict__" : Str)) = false := by decide) :
    PS X (.Return (some (.Dict [some (.Constant (.str "cells") j1 k1), some (.Constant (.str "at") j2 k2), some (.Constant (.str "left") j3 k3), some (.Constant (.str "count") j4 k4), some (.Constant (.str "sum") j5 k5)]
      [.Name x p1, .Constant (.int 0) i2 p2, .Constant (.int 0) i3 p3, .Constant (.int 0) i4 p4, e] pos)) rpos) (fun D σ H => ∃ (C : Ctx (Scr K)) (F : Hp) (ρ : List Slot) (r : Scr K) (cs : List Int), Rel L.K C F σ H ρ r ∧ cs.length ≤ 63 ∧ ρ[i]? = some (.own (cs.map PyData.int)) ∧
        (∃ n ρ' r', fe ρ r = .ok (.val (.int n)) ρ' r' ∧ ρ'[i]? = some (.val (.list (cs.map PyData.int)))) ∧ ∀ p c d H', p ≠ c → H' p = some (drD c d) → Rd H' c (.lst (d.cells.map V.int)) → DrOk d → D.rt (.ref p) H') :=
  psImp (ps_ret (pe_disp (pps_cons pe_str (pe_var hN hv hd hcd) (pps_cons pe_str pe_int (pps_cons pe_str pe_int (pps_cons pe_str pe_int (pps_cons pe_str he pps_nil))))) rfl rfl (by simp) (by simp))) fun D σ H ⟨C, F, ρ, r, cs, hR, hcs, hi, ⟨n, ρ', r', h1, h2⟩, hD⟩ p np => by
    have x : Ext F H F (upd H p (.dK [])) := newAny hR.hel.fH np
    have R0 := hR.ext x
    have n0 := hR.hel.free np
    have ng := hR.hel.freeG np
    have nF := hR.hel.freeF np
    have al : ∀ (i : Nat) (t : Slot), ρ[i]? = some t → t.isOwn = true → σ[i]? ≠ some (some (.ref p)) := fun i t et ot z => by
      obtain ⟨v, e1, e2⟩ := hR.slot i t et (fun z => by subst z; cases ot)
      rw [z] at e1
      obtain rfl : V.ref p = v := Option.some.inj (Option.some.inj e1)
      cases t with
      | own _ => obtain ⟨_, _, q, e, _⟩ := e2; cases q; rw [np] at e; cases e
      | ownT _ => obtain ⟨_, _, q, e, _⟩ := e2; cases q; rw [np] at e; cases e
      | emp => cases ot
      | val _ => cases ot
      | root => cases ot
    have R1 := R0.put (o := .dK []) (fun _ z => nomatch z) upd_same nF n0 al
    obtain ⟨v, ev, c, vs, rfl, c1, _, _, _, c5⟩ := hR.slot i _ hi (fun z => nomatch z)
    have hpc : p ≠ c := fun z => by subst z; rw [np] at c1; cases c1
    refine ⟨.ref c, ev, C.put p (.dK []), F, ρ, r, R1, ?_⟩
    rw [h1]
    intro F2 H2 R2 S2 y ry
    obtain ⟨a1, _, _, _⟩ := R2.aside
    cases dp_int ry.1
    obtain ⟨w, ew, dw⟩ := R2.slot i _ h2 (fun z => nomatch z)
    rw [ev] at ew
    obtain rfl : V.ref c = w := Option.some.inj (Option.some.inj ew)
    obtain ⟨c', us, e1, e2, e3⟩ := dp_lst dw
    cases e1
    have e4 := dp_ints e3
    subst e4
    refine ⟨a1, [(kS "cells", .ref c), (kS "at", .int 0), (kS "left", .int 0), (kS "count", .int 0), (kS "sum", .int n)], rfl, by simp, ?_⟩
    exact hD p c ⟨cs, 0, 0, 0, n⟩ _ hpc upd_same (rd_upd hpc.symm (sameL R2.hel.fH e2)) ⟨Int.le_refl 0, hcs⟩
theorem begin_mk {P : Program} {w : World} {K : PySem.W.Frag} {mg : Str → Option Value} {base : Heap} {st s0 s1 : Stmt} {N : List Str} {k i : Nat} {g : MS (Scr K)} {fe : M (Scr K) Slot} {x : Str}
    (A : ∃ f fd, DefAt K mg x st [] f fd) (S : FnScope N ["script"] (defScope st)) (hl : 1 ≤ N.length) (hb : defBody st = [s0, s1])
    (b0 : ∀ (f : Addr) (cdv : Value) (A : Around) (outer : List Env) (s : Shared) (H : Hp) (E : XK), Room k (A.deeper (envOfC x (defScope st) s.heap.objs.size f cdv)) →
      PS (cxOf (L2.CX P w) P w K mg base N x (defScope st) f cdv A outer s H E) s0 (liftS ⟨K, mg, fun c d _ H => E c d H⟩ g))
    (b1 : ∀ (f : Addr) (cdv : Value) (A : Around) (outer : List Env) (s : Shared) (H : Hp) (E : XK), Room k (A.deeper (envOfC x (defScope st) s.heap.objs.size f cdv)) →
      PS (cxOf (L2.CX P w) P w K mg base N x (defScope st) f cdv A outer s H E) s1 (fun D σ H => ∃ (C : Ctx (Scr K)) (F : Hp) (ρ : List Slot) (r : Scr K) (cs : List Int), Rel K C F σ H ρ r ∧ cs.length ≤ 63 ∧ ρ[i]? = some (.own (cs.map PyData.int)) ∧
        (∃ n ρ' r', fe ρ r = .ok (.val (.int n)) ρ' r' ∧ ρ'[i]? = some (.val (.list (cs.map PyData.int)))) ∧ ∀ p c d H', p ≠ c → H' p = some (drD c d) → Rd H' c (.lst (d.cells.map V.int)) → DrOk d → D.rt (.ref p) H'))
    (hg : ∀ ns : List Int, ns.length ≤ 63 → ∃ (ρ : List Slot) (cs : List Int), g (Slot.root :: List.replicate (N.length - 1) Slot.emp) ⟨ns⟩ = .nx ρ ⟨ns⟩ ∧ cs.length ≤ 63 ∧ ρ[i]? = some (.own (cs.map PyData.int)) ∧ ∃ n ρ' r', fe ρ ⟨ns⟩ = .ok (.val (.int n)) ρ' r' ∧ ρ'[i]? = some (.val (.list (cs.map PyData.int)))) :
    FnS ⟨P, w, K, mg, base⟩ (k + 1) x st [] ["script"] (spB K) := by
  obtain ⟨f, fd, A⟩ := A
  refine ⟨f, fd, A, ?_⟩
  obtain ⟨oc, od, dV, kV, doc, pm, an, cdv, ct, osl, rfl, lk, hcd, hD⟩ := A.ex
  refine fn_of lk hcd S (fun vs H Q E h => ?_) fun A outer s H vs Q E hr hsp => ⟨_, by rw [hb]; exact pss_cons (b0 f cdv A outer s H E hr) (pss_one (b1 f cdv A outer s H E hr)), ?_⟩
  · obtain ⟨a, ns, rfl, _⟩ := h
    rfl
  · obtain ⟨a, ns, rfl, h1, h2, h3⟩ := hsp
    obtain ⟨C, hh, e1, e2, e3, e4⟩ := scr_ctx h1
    obtain ⟨ρ, cs, g1, g2, g3, g4⟩ := hg ns h2
    have R0 := start_rel (N := N) (vs := [.ref a]) (ss := [Slot.root]) hh hl rfl fun i s e => by
      cases i with
      | zero =>
        have e' : Slot.root = s := by simpa using e
        subst e'
        exact ⟨_, rfl, e1.symm, rfl⟩
      | succ i => simp at e
    refine ⟨C, _, _, ⟨ns⟩, R0, ?_⟩
    rw [show [Slot.root] ++ List.replicate (N.length - [Slot.root].length) Slot.emp = Slot.root :: List.replicate (N.length - 1) Slot.emp from rfl, g1]
    exact fun σ' F' H' R' _ => ⟨C, F', ρ, ⟨ns⟩, cs, R', g2, g3, g4, h3⟩

/-! ### the law's def -/
def spLaw (K : PySem.W.Frag) : Sp := fun vs H Q _ => ∃ (a : Addr) (ns : List Int), vs = [.ref a] ∧ SqL K H a (ns.map V.int) ∧ ns.length ≤ 63 ∧ ∀ H', Q (.bl true) H'
theorem dr_ctx {K : PySem.W.Frag} {H : Hp} {p c : Addr} {d : Dr} (hpc : p ≠ c) (h1 : H p = some (drD c d)) (h2 : Rd H c (.lst (d.cells.map V.int))) (h3 : DrOk d) : ∃ C : Ctx Dr, Hel K C (fun _ => none) H d ∧ C.rootV = .ref p := by
  refine ⟨⟨fun _ => none, H, fun _ => none, .ref p, fun b => b = p ∨ b = c, drH p c⟩, ⟨⟨⟨p, c, hpc, rfl, rfl, rfl⟩, fun r H H' h k => ?_, fun r H b h e => ?_, fun b e => ?_, fun b o e => (noneH e).elim⟩, Same.refl _, fun b o e => .inl e, fun b o e => (noneH e).elim, fun b o e _ => e, ⟨h1, h2, h3⟩, fun b o e => (noneH e).elim⟩, rfl⟩
  · obtain ⟨k1, k2, k3⟩ := h
    refine ⟨k p _ (.inl rfl) k1, ?_, k3⟩
    rcases k2 with k2 | ⟨o, k2⟩
    · exact .inl (k c _ (.inr rfl) k2)
    · exact .inr ⟨o, k c _ (.inr rfl) k2⟩
  · obtain ⟨k1, k2, k3⟩ := h
    rcases e with rfl | rfl
    · exact ⟨_, k1, fun _ z => nomatch z⟩
    · rcases k2 with k2 | ⟨o, k2⟩
      · exact ⟨_, k2, fun _ z => nomatch z⟩
      · exact ⟨_, k2, fun _ z => nomatch z⟩
  · rcases e with rfl | rfl
    · exact ⟨_, h1, fun _ z => nomatch z⟩
    · rcases h2 with k2 | ⟨o, k2⟩
      · exact ⟨_, k2, fun _ z => nomatch z⟩
      · exact ⟨_, k2, fun _ z => nomatch z⟩
theorem law_mk {P : Program} {w : World} {K : PySem.W.Frag} {mg : Str → Option Value} {base : Heap} {st stB : Stmt} {rest : List Stmt} {N : List Str} {k kB : Nat} {g : MS Dr} {x : Str} {f : Addr} {fd : FuncData} {p1 p2 p3 p4 p5 : Pos}
    (A : DefAt K mg x st [] f fd) (S : FnScope N ["script"] (defScope st)) (hl : 2 ≤ N.length) (hN : N[1]? = some ("state" : Str)) (hb : defBody st = .Assign [.Name "state" p1] (.Call (.Name "_law_begin" p2) [.Name "script" p3] [] p4) p5 :: rest)
    (B : FnS ⟨P, w, K, mg, base⟩ kB "_law_begin" stB [] ["script"] (spB K)) (hk : kB ≤ k)
    (bB : ∀ (kV doc pm : Value) (an : Option Addr) (cdv ct : Value) (us : List Value), us.length = 1 → bindArgs (PySem.W.fnOf "_law_begin" "_law_begin" (defArgs stB) (defBody stB) (defScope stB) .none kV doc pm an cdv ct) ⟨us, []⟩ = pure ((["script"] : List Str).zip us))
    (first : ∀ (cdv : Value) (A : Around) (outer : List Env) (s : Shared) (H : Hp) (E : XK) (t : TE), PE (cxOf (L2.CX P w) P w K mg base N x (defScope st) f cdv A outer s H E) (.Call (.Name "_law_begin" p2) [.Name "script" p3] [] p4) t →
      PS (cxOf (L2.CX P w) P w K mg base N x (defScope st) f cdv A outer s H E) (.Assign [.Name "state" p1] (.Call (.Name "_law_begin" p2) [.Name "script" p3] [] p4) p5) (fun D σ H => t σ H fun v H1 => D.nx (σ.set 1 (some v)) H1))
    (call : ∀ (cdv : Value) (A : Around) (outer : List Env) (s : Shared) (H : Hp) (E : XK), Room k (A.deeper (envOfC x (defScope st) s.heap.objs.size f cdv)) →
      ∀ (fB : Addr) (fdB : FuncData), DefAt K mg "_law_begin" stB [] fB fdB → FnOk P w K mg base (L2.CX P w) k fB fdB ["script"] (spB K) → Binds K fdB ["script"] [] →
      PE (cxOf (L2.CX P w) P w K mg base N x (defScope st) f cdv A outer s H E) (.Call (.Name "_law_begin" p2) [.Name "script" p3] [] p4) (fun σ H Q => ∃ v, σ[0]? = some (some v) ∧ spB K [v] H Q (WE (fun c d _ H => E c d H) σ)))
    (body : ∀ (cdv : Value) (A : Around) (outer : List Env) (s : Shared) (H : Hp) (E : XK), A.guards = some [] → Room k (A.deeper (envOfC x (defScope st) s.heap.objs.size f cdv)) →
      PSs (cxOf (L2.CX P w) P w K mg base N x (defScope st) f cdv A outer s H E) rest (liftS ⟨K, mg, fun c d _ H => E c d H⟩ g))
    (hg : ∀ d : Dr, DrOk d → ∃ r', g (Slot.emp :: Slot.root :: List.replicate (N.length - 2) Slot.emp) d = .rt (.val (.bool true)) r') :
    FnG P w K mg base (L2.CX P w) (k + 1) f fd ["script"] (spLaw K) := by
  obtain ⟨oc, od, dV, kV, doc, pm, an, cdv, ct, osl, rfl, lk, hcd, hD⟩ := A.ex
  obtain ⟨fB, fdB, aB, FB⟩ := B
  refine fnG_of lk hcd S (fun vs H Q E h => ?_) fun A outer s H vs Q E hgd hr hsp => ⟨_, by rw [hb]; exact pss_cons (first cdv A outer s H E _ (call cdv A outer s H E hr fB fdB aB (FB.mono hk) (aB.binds0 bB))) (body cdv A outer s H E hgd hr), ?_⟩
  · obtain ⟨a, ns, rfl, _⟩ := h
    rfl
  · obtain ⟨a, ns, rfl, h1, h2, h3⟩ := hsp
    refine ⟨.ref a, rfl, a, ns, rfl, h1, h2, fun p c d H' hpc q1 q2 q3 => ?_⟩
    obtain ⟨C, hh, e1⟩ := dr_ctx (K := K) hpc q1 q2 q3
    obtain ⟨r', hr'⟩ := hg d q3
    refine ⟨C, _, Slot.emp :: Slot.root :: List.replicate (N.length - 2) Slot.emp, d, ⟨hh, ?_, fun i t et nt => ?_, fun i j t u v hij e1 e2 o1 o2 _ _ => ?_⟩, ?_⟩
    · unfold start
      simp
      omega
    · have root : i = 1 ∧ t = .root := by
        match i, et with
        | 0, et => exact absurd (by simpa using et.symm : t = .emp) nt
        | 1, et => exact ⟨rfl, by simpa using et.symm⟩
        | i + 2, et => exact absurd (rep_emp (by simpa using et)) nt
      obtain ⟨rfl, rfl⟩ := root
      refine ⟨.ref p, ?_, e1.symm⟩
      refine List.getElem?_set_self ?_
      unfold start
      simp
      omega
    · match i, e1 with
      | 0, e1 => have z : t = .emp := by simpa using e1.symm
                 subst z; cases o1
      | 1, e1 => have z : t = .root := by simpa using e1.symm
                 subst z; cases o1
      | i + 2, e1 => have z : t = .emp := rep_emp (by simpa using e1)
                     subst z; cases o1
    · rw [hr']
      intro v F' H' _ hv _
      obtain rfl : v = .bl true := dp_bool hv
      exact h3 H'
end L2.VL

/-! VLE: the value terms evaluated, by rewriting. -/
namespace L2.VL
open PySem PySem.Spec PyProof.Rows
section
variable {R : Type} {α β : Type} {ρ ρ' : List Slot} {r r' : R}
theorem bnd_eq (m : M R α) (k : α → M R β) : bnd m k ρ r = (m ρ r).bind k := rfl
theorem bind_ok (a : α) (k : α → M R β) : (Res.ok a ρ r).bind k = k a ρ r := rfl
theorem ret_eq (a : α) : (ret a : M R α) ρ r = .ok a ρ r := rfl
theorem ofO_some (a : α) : (ofO (some a) : M R α) ρ r = .ok a ρ r := rfl
theorem toD_eq (m : M R Slot) : toD m ρ r = (m ρ r).bind fun s => ofO (frz s) := rfl
theorem frz_val (d : D) : frz (.val d) = some d := rfl
theorem frz_own (ds : List D) : frz (.own ds) = some (.list ds) := rfl
theorem toB_eq (m : M R Slot) : toB m ρ r = (m ρ r).bind fun s => ofO (boolOf s) := rfl
theorem boolOf_b (b : Bool) : boolOf (.val (.bool b)) = some b := rfl
def varK (o : Option Slot) (i : Nat) : M R Slot := fun ρ r => match o with
  | some (.val d) => .ok (.val d) ρ r
  | some .root => .ok .root ρ r
  | some (.own ds) => .ok (.val (.list ds)) (ρ.set i (.val (.list ds))) r
  | _ => .stuck
theorem vVar_eq (i : Nat) : (vVar i : M R Slot) ρ r = varK ρ[i]? i ρ r := by
  unfold vVar varK
  rfl
theorem varK_val (i : Nat) (d : D) : (varK (some (.val d)) i : M R Slot) ρ r = .ok (.val d) ρ r := rfl
theorem varK_root (i : Nat) : (varK (some .root) i : M R Slot) ρ r = .ok .root ρ r := rfl
theorem varK_own (i : Nat) (ds : List D) : (varK (some (.own ds)) i : M R Slot) ρ r = .ok (.val (.list ds)) (ρ.set i (.val (.list ds))) r := rfl
theorem vBin_eq (g : D → D → Option Slot) (fa fb : M R Slot) : vBin g fa fb ρ r = (toD fa ρ r).bind fun d => bnd (toD fb) fun e => ofO (g d e) := rfl
theorem vUn_eq (g : D → Option Slot) (fa : M R Slot) : vUn g fa ρ r = (toD fa ρ r).bind fun d => ofO (g d) := rfl
theorem vAnd_eq (fa fb : M R Slot) : vAnd fa fb ρ r = (toB fa ρ r).bind fun c => if c = true then fb else ret (.val (.bool false)) := rfl
theorem vOr_eq (fa fb : M R Slot) : vOr fa fb ρ r = (toB fa ρ r).bind fun c => if c = true then ret (.val (.bool true)) else fb := rfl
theorem vNot_eq (fa : M R Slot) : vNot fa ρ r = (toB fa ρ r).bind fun c => ret (.val (.bool (!c))) := rfl
theorem tAnd_eq (fa fb : M R Bool) : tAndM fa fb ρ r = (fa ρ r).bind fun c => if c = true then fb else ret false := rfl
theorem tOr_eq (fa fb : M R Bool) : tOrM fa fb ρ r = (fa ρ r).bind fun c => if c = true then ret true else fb := rfl
theorem tNot_eq (fa : M R Bool) : tNotM fa ρ r = (fa ρ r).bind fun c => ret (!c) := rfl
theorem vIfE_eq (t : M R Bool) (fa fb : M R Slot) : vIfE t fa fb ρ r = (t ρ r).bind fun c => if c = true then fa else fb := rfl
theorem iteM (c : Prop) [Decidable c] (f g : M R α) : (if c then f else g) ρ r = if c then f ρ r else g ρ r := by split <;> rfl
theorem iteMS (c : Prop) [Decidable c] (f g : MS R) : (if c then f else g) ρ r = if c then f ρ r else g ρ r := by split <;> rfl
theorem aNil_eq : (aNil : M R (List D)) ρ r = .ok [] ρ r := rfl
theorem aCons_eq (fa : M R Slot) (fs : M R (List D)) : aCons fa fs ρ r = (toD fa ρ r).bind fun d => bnd fs fun ds => ret (d :: ds) := rfl
theorem vTup_eq (fs : M R (List D)) : vTup fs ρ r = (fs ρ r).bind fun ds => ofO (small ds.length (.val (.tuple ds))) := rfl
theorem vLst_eq (fs : M R (List D)) : vLst fs ρ r = (fs ρ r).bind fun ds => ofO (small ds.length (.own ds)) := rfl
theorem vCB_eq (g : List D → Option Slot) (fs : M R (List D)) : vCB g fs ρ r = (fs ρ r).bind fun ds => ofO (g ds) := rfl
theorem small_eq (n : Nat) (x : α) : small n x = if n ≤ 1000000 then some x else none := rfl
theorem chain_eq (g g' : D → D → Option Slot) (fa fb fc : M R Slot) : vChain g g' fa fb fc ρ r = (toD fa ρ r).bind fun d => bnd (toD fb) fun e => bnd (toB (fun ρ r => ofO (g d e) ρ r)) fun k => if k = true then (bnd (toD fc) fun f => ofO (g' e f)) else ret (.val (.bool false)) := rfl
theorem vIsi_eq (T : String) (fa : M R Slot) : vIsi T fa ρ r = (toD fa ρ r).bind fun d => bnd (ofO (noDict d)) fun d => ret (.val (.bool (isT T d))) := rfl
theorem vIsi2_eq (T U : String) (fa : M R Slot) : vIsi2 T U fa ρ r = (toD fa ρ r).bind fun d => bnd (ofO (noDict d)) fun d => ret (.val (.bool (isT T d || isT U d))) := rfl
theorem noDict_int (i : Int) : noDict (.int i) = some (.int i) := rfl
theorem noDict_tuple (xs : List D) : noDict (.tuple xs) = some (.tuple xs) := rfl
theorem noDict_list (xs : List D) : noDict (.list xs) = some (.list xs) := rfl
theorem noDict_none : noDict .none = some .none := rfl
theorem noDict_bool (b : Bool) : noDict (.bool b) = some (.bool b) := rfl
theorem noDict_str (b : Str) : noDict (.str b) = some (.str b) := rfl
theorem isT_int_int (i : Int) : isT "int" (.int i) = true := rfl
theorem isT_bool_int (i : Int) : isT "bool" (.int i) = false := rfl
theorem isT_tuple_tuple (xs : List D) : isT "tuple" (.tuple xs) = true := rfl
theorem isT_tuple_int (i : Int) : isT "tuple" (.int i) = false := rfl
theorem isT_int_tuple (xs : List D) : isT "int" (.tuple xs) = false := rfl
/-! ### operators -/
theorem gAdd_int (i j : Int) : gAdd (.int i) (.int j) = some (.val (.int (i + j))) := rfl
theorem gAdd_tup (xs ys : List D) : gAdd (.tuple xs) (.tuple ys) = if xs.length + ys.length ≤ 1000000 then some (.val (.tuple (xs ++ ys))) else none := rfl
theorem gAdd_lst (xs ys : List D) : gAdd (.list xs) (.list ys) = if xs.length + ys.length ≤ 1000000 then some (.own (xs ++ ys)) else none := rfl
theorem gSub_int (i j : Int) : gSub (.int i) (.int j) = some (.val (.int (i - j))) := rfl
theorem gMul_int (i j : Int) : gMul (.int i) (.int j) = if mulOk i j then some (.val (.int (i * j))) else none := rfl
theorem gMul_tup (xs : List D) (k : Int) : gMul (.tuple xs) (.int k) = if k.natAbs ≤ 1000000 ∧ xs.length * k.toNat ≤ 1000000 then some (.val (.tuple (List.replicate k.toNat xs).flatten)) else none := rfl
theorem gMul_lst (xs : List D) (k : Int) : gMul (.list xs) (.int k) = if k.natAbs ≤ 1000000 ∧ xs.length * k.toNat ≤ 1000000 then some (.own (List.replicate k.toNat xs).flatten) else none := rfl
theorem gMod_int (i j : Int) : gMod (.int i) (.int j) = if j ≠ 0 then some (.val (.int (i.fmod j))) else none := rfl
theorem gDiv_int (i j : Int) : gDiv (.int i) (.int j) = if j ≠ 0 ∧ j.natAbs.log2 < 9000 then some (.val (.int (i.fdiv j))) else none := rfl
theorem gPow_int (i j : Int) : gPow (.int i) (.int j) = if 0 ≤ j ∧ j ≤ 1000 ∧ i.natAbs < 2 ^ 64 then some (.val (.int (i ^ j.toNat))) else none := rfl
theorem gLt_int (i j : Int) : gLt (.int i) (.int j) = some (.val (.bool (decide (i < j)))) := rfl
theorem gLe_int (i j : Int) : gLe (.int i) (.int j) = some (.val (.bool (decide (i ≤ j)))) := rfl
theorem gGt_int (i j : Int) : gGt (.int i) (.int j) = some (.val (.bool (decide (i > j)))) := rfl
theorem gGe_int (i j : Int) : gGe (.int i) (.int j) = some (.val (.bool (decide (i ≥ j)))) := rfl
theorem gEq_int (i j : Int) : gEq (.int i) (.int j) = some (.val (.bool (decide (i = j)))) := by
  unfold gEq
  rw [if_pos (.inr ⟨rfl, rfl⟩)]
  congr 3
theorem gNe_int (i j : Int) : gNe (.int i) (.int j) = some (.val (.bool (!decide (i = j)))) := by
  unfold gNe
  rw [if_pos (.inr ⟨rfl, rfl⟩)]
  congr 3
theorem gNeg_int (i : Int) : gNeg (.int i) = some (.val (.int (-i))) := rfl
theorem gRev_tup (xs : List D) : gRev (.tuple xs) = some (.val (.tuple xs.reverse)) := rfl
theorem gIx_tup (xs : List D) (i : Int) : gIx (.tuple xs) (.int i) = (atI xs i).map .val := rfl
theorem gIx_lst (xs : List D) (i : Int) : gIx (.list xs) (.int i) = (atI xs i).map .val := rfl
theorem gLen_tup (xs : List D) : gLen [.tuple xs] = some (.val (.int xs.length)) := rfl
theorem gLen_lst (xs : List D) : gLen [.list xs] = some (.val (.int xs.length)) := rfl
theorem gAbs_int (i : Int) : gAbs [.int i] = some (.val (.int (if i < 0 then -i else i))) := rfl
theorem gMin_int (i j : Int) : gMin [.int i, .int j] = some (.val (.int (if j < i then j else i))) := rfl
theorem gMax_int (i j : Int) : gMax [.int i, .int j] = some (.val (.int (if j > i then j else i))) := rfl
theorem gInt_int (i : Int) : gInt [.int i] = some (.val (.int i)) := rfl
theorem gTuple_lst (xs : List D) : gTuple [.list xs] = some (.val (.tuple xs)) := rfl
theorem gTuple_tup (xs : List D) : gTuple [.tuple xs] = some (.val (.tuple xs)) := rfl
theorem gList_lst (xs : List D) : gList [.list xs] = some (.own xs) := rfl
theorem gList_tup (xs : List D) : gList [.tuple xs] = some (.own xs) := rfl
theorem allM_ints : ∀ ns : List Int, allM intOf (ns.map PyData.int) = some ns
  | [] => rfl
  | n :: ns => by simp [allM, intOf, allM_ints ns]
theorem allM_bools : ∀ ns : List Bool, allM bOf (ns.map PyData.bool) = some ns
  | [] => rfl
  | n :: ns => by simp [allM, bOf, allM_bools ns]
theorem gSum_ints (ns : List Int) : gSum [.list (ns.map PyData.int)] = some (.val (.int ns.sum)) := by
  show (allM intOf (ns.map PyData.int)).map _ = _
  rw [allM_ints]; rfl
theorem gAll_bools (ns : List Bool) : gAll [.list (ns.map PyData.bool)] = some (.val (.bool (ns.all id))) := by
  show (allM bOf (ns.map PyData.bool)).map _ = _
  rw [allM_bools]; rfl
theorem gAny_bools (ns : List Bool) : gAny [.list (ns.map PyData.bool)] = some (.val (.bool (ns.any id))) := by
  show (allM bOf (ns.map PyData.bool)).map _ = _
  rw [allM_bools]; rfl
/-! ### items of a slot -/
def ixK (o : Option D) (fb : M R Slot) (i : Nat) : M R Slot := fun ρ r => match o with
  | none => .stuck
  | some _ => (toD fb ρ r).bind fun e => fun ρ r => match slotD ρ[i]? with
    | none => .stuck
    | some d => ofO (gIx d e) ρ r
theorem vIxV_eq (i : Nat) (fb : M R Slot) : vIxV i fb ρ r = ixK (slotD ρ[i]?) fb i ρ r := rfl
def ixK2 (o : Option D) (e : D) : M R Slot := fun ρ r => match o with
  | none => .stuck
  | some d => ofO (gIx d e) ρ r
theorem ixK_some (d : D) (fb : M R Slot) (i : Nat) : ixK (some d) fb i ρ r = (toD fb ρ r).bind fun e => fun ρ r => ixK2 (slotD ρ[i]?) e ρ r := rfl
theorem ixK2_some (d e : D) : (ixK2 (some d) e : M R Slot) ρ r = ofO (gIx d e) ρ r := rfl
theorem slotD_val (d : D) : slotD (some (.val d)) = some d := rfl
theorem slotD_own (ds : List D) : slotD (some (.own ds)) = some (.list ds) := rfl
def lenK (o : Option D) : M R Slot := fun ρ r => match o with
  | none => .stuck
  | some d => ofO (gLen [d]) ρ r
theorem vLenV_eq (i : Nat) : (vLenV i : M R Slot) ρ r = lenK (slotD ρ[i]?) ρ r := rfl
theorem lenK_some (d : D) : (lenK (some d) : M R Slot) ρ r = ofO (gLen [d]) ρ r := rfl
def truK (o : Option D) : M R Bool := fun ρ r => match o with
  | none => .stuck
  | some d => ofO (truD d) ρ r
theorem tTruV_eq (i : Nat) : (tTruV i : M R Bool) ρ r = truK (slotD ρ[i]?) ρ r := rfl
theorem truK_some (d : D) : (truK (some d) : M R Bool) ρ r = ofO (truD d) ρ r := rfl
theorem tTru_eq (f : M R Slot) : tTru f ρ r = (toD f ρ r).bind fun d => ofO (truD d) := rfl
theorem truD_bool (b : Bool) : truD (.bool b) = some b := rfl
theorem truD_int (b : Int) : truD (.int b) = some (b != 0) := rfl
theorem truD_tup (xs : List D) : truD (.tuple xs) = some (!xs.isEmpty) := rfl
theorem truD_lst (xs : List D) : truD (.list xs) = some (!xs.isEmpty) := rfl
theorem truD_none : truD .none = some false := rfl
def appK (o : Option (List D)) (fe : M R Slot) (i : Nat) : M R Slot := fun ρ r => match o with
  | none => .stuck
  | some _ => (toD fe ρ r).bind fun d => fun ρ r => match ownOf ρ[i]? with
    | none => .stuck
    | some ds => if ds.length < 1000000 then .ok (.val .none) (ρ.set i (.own (ds ++ [d]))) r else .stuck
theorem vApp_eq (i : Nat) (fe : M R Slot) : vApp i fe ρ r = appK (ownOf ρ[i]?) fe i ρ r := rfl
def appK2 (o : Option (List D)) (d : D) (i : Nat) : M R Slot := fun ρ r => match o with
  | none => .stuck
  | some ds => if ds.length < 1000000 then .ok (.val .none) (ρ.set i (.own (ds ++ [d]))) r else .stuck
theorem appK_some (ds : List D) (fe : M R Slot) (i : Nat) : appK (some ds) fe i ρ r = (toD fe ρ r).bind fun d => fun ρ r => appK2 (ownOf ρ[i]?) d i ρ r := rfl
theorem appK2_some (ds : List D) (d : D) (i : Nat) : (appK2 (some ds) d i : M R Slot) ρ r = if ds.length < 1000000 then .ok (.val .none) (ρ.set i (.own (ds ++ [d]))) r else .stuck := rfl
theorem ownOf_own (ds : List D) : ownOf (some (.own ds)) = some ds := rfl
def setIxK (o : Option (List D)) (fi : M R Slot) (d : D) (i : Nat) : MS R := fun ρ r => match o with
  | none => .stuck
  | some _ => (thenS (toD fi) fun e => fun ρ r => match ownOf ρ[i]?, e with
    | some ds, .int k => (match ixN ds.length k with
      | some j => .nx (ρ.set i (.own (ds.set j d))) r
      | none => .stuck)
    | _, _ => .stuck) ρ r
def setIxK2 (o : Option (List D)) (e d : D) (i : Nat) : MS R := fun ρ r => match o, e with
  | some ds, .int k => (match ixN ds.length k with
      | some j => .nx (ρ.set i (.own (ds.set j d))) r
      | none => .stuck)
  | _, _ => .stuck
def setIxK3 (o : Option Nat) (ds : List D) (d : D) (i : Nat) : MS R := fun ρ r => match o with
  | some j => .nx (ρ.set i (.own (ds.set j d))) r
  | none => .stuck
/-! ### statements -/
def thenK {α : Type} (x : Res R α) (k : α → MS R) : Out R := match x with
  | .ok a ρ' r' => k a ρ' r'
  | .stuck => .stuck
  | .exc c d ρ' r' => .exc c d ρ' r'
theorem thenK_ok (a : α) (k : α → MS R) : thenK (.ok a ρ r) k = k a ρ r := rfl
theorem thenS_eq (m : M R α) (k : α → MS R) : thenS m k ρ r = thenK (m ρ r) k := rfl
theorem sSetIx_eq (i : Nat) (fi fe : M R Slot) : sSetIx i fi fe ρ r = thenK (toD fe ρ r) fun d ρ r => setIxK (ownOf ρ[i]?) fi d i ρ r := rfl
theorem setIxK_some (ds : List D) (fi : M R Slot) (d : D) (i : Nat) : setIxK (some ds) fi d i ρ r = thenK (toD fi ρ r) fun e ρ r => setIxK2 (ownOf ρ[i]?) e d i ρ r := rfl
theorem setIxK2_some (ds : List D) (k : Int) (d : D) (i : Nat) : (setIxK2 (some ds) (.int k) d i : MS R) ρ r = setIxK3 (ixN ds.length k) ds d i ρ r := rfl
theorem setIxK3_some (j : Nat) (ds : List D) (d : D) (i : Nat) : (setIxK3 (some j) ds d i : MS R) ρ r = .nx (ρ.set i (.own (ds.set j d))) r := rfl
def seqK (x : Out R) (h : MS R) : Out R := match x with
  | .nx ρ' r' => h ρ' r'
  | .stuck => .stuck
  | .bk ρ' r' => .bk ρ' r'
  | .ct ρ' r' => .ct ρ' r'
  | .rt s r' => .rt s r'
  | .exc c d ρ' r' => .exc c d ρ' r'
theorem sSeq_eq (g h : MS R) : sSeq g h ρ r = seqK (g ρ r) h := rfl
theorem seqK_nx (h : MS R) : seqK (.nx ρ r) h = h ρ r := rfl
theorem seqK_rt (s : Slot) (h : MS R) : seqK (.rt s r) h = .rt s r := rfl
theorem seqK_bk (h : MS R) : seqK (.bk ρ r) h = .bk ρ r := rfl
theorem seqK_ct (h : MS R) : seqK (.ct ρ r) h = .ct ρ r := rfl
theorem sNext_eq : (sNext : MS R) ρ r = .nx ρ r := rfl
theorem sBreak_eq : (sBreak : MS R) ρ r = .bk ρ r := rfl
theorem sCont_eq : (sCont : MS R) ρ r = .ct ρ r := rfl
theorem sRet_eq (f : M R Slot) : sRet f ρ r = thenK (f ρ r) fun s _ r => .rt s r := rfl
theorem sRetN_eq : (sRetN : MS R) ρ r = .rt (.val .none) r := rfl
theorem sExpr_eq (f : M R Slot) : sExpr f ρ r = thenK (f ρ r) fun _ ρ r => .nx ρ r := rfl
theorem sSet_eq (i : Nat) (f : M R Slot) : sSet i f ρ r = thenK (f ρ r) fun s ρ r => .nx (ρ.set i s) r := rfl
theorem sIf_eq (t : M R Bool) (g h : MS R) : sIf t g h ρ r = thenK (t ρ r) fun b => if b = true then g else h := rfl
def asgK (o : Option (List Slot)) (r : R) : Out R := match o with
  | some ρ' => .nx ρ' r
  | none => .stuck
theorem asgK_some : asgK (some ρ) r = .nx ρ r := rfl
theorem sAsg_eq (t : D → List Slot → Option (List Slot)) (f : M R Slot) : sAsg t f ρ r = thenK (toD f ρ r) fun d ρ r => asgK (t d ρ) r := rfl
theorem gNm_eq (i : Nat) (d : D) : gNm i d ρ = some (ρ.set i (.val d)) := rfl
theorem gTp_tup (ts : List (D → List Slot → Option (List Slot))) (ds : List D) : gTp ts (.tuple ds) ρ = gAll2 ts ds ρ := rfl
theorem gAll2_nil : gAll2 [] [] ρ = some ρ := rfl
theorem gAll2_cons (t : D → List Slot → Option (List Slot)) (ts : List (D → List Slot → Option (List Slot))) (d : D) (ds : List D) : gAll2 (t :: ts) (d :: ds) ρ = (t d ρ).bind (gAll2 ts ds) := rfl
theorem bNil_eq : (bNil : M R (List Slot)) ρ r = .ok [] ρ r := rfl
theorem bCons_eq (fa : M R Slot) (fs : M R (List Slot)) : bCons fa fs ρ r = (fa ρ r).bind fun s => bnd fs fun ss => ret (s :: ss) := rfl
def parK (ss : List Slot) (i j : Nat) : MS R := fun ρ r => match ss with
  | [s, t] => .nx ((ρ.set i s).set j t) r
  | _ => .stuck
theorem parK_two (s t : Slot) (i j : Nat) : (parK [s, t] i j : MS R) ρ r = .nx ((ρ.set i s).set j t) r := rfl
theorem sPar_eq (i j : Nat) (f : M R (List Slot)) : sPar i j f ρ r = thenK (f ρ r) fun ss => parK ss i j := rfl
theorem iSeq_eq (f : M R Slot) : iSeq f ρ r = (toD f ρ r).bind fun d => ofO (seqOf d) := rfl
theorem seqOf_tup (ds : List D) : seqOf (.tuple ds) = some ds := rfl
theorem seqOf_lst (ds : List D) : seqOf (.list ds) = some ds := rfl
theorem iRg_eq (g : List D → Option (List D)) (fs : M R (List D)) : iRg g fs ρ r = (fs ρ r).bind fun ds => ofO (g ds) := rfl
theorem rg1_int (j : Int) : rg1 [.int j] = if j.natAbs ≤ 1000000 then some (rangeD 0 j.toNat) else none := rfl
theorem rg2_int (i j : Int) : rg2 [.int i, .int j] = if i.natAbs ≤ 1000000 ∧ j.natAbs ≤ 1000000 then some (rangeD i (j - i).toNat) else none := rfl
theorem sFor_eq (js : List Nat) (it : M R (List D)) (t : D → List Slot → Option (List Slot)) (body : MS R) : sFor js it t body ρ r = thenK (it ρ r) fun ds => forL js t body ds := rfl
theorem forL_nil (js : List Nat) (t : D → List Slot → Option (List Slot)) (body : MS R) : forL js t body [] ρ r = .nx (wipeS js ρ) r := rfl
def callK (x : POut) : M R Slot := fun ρ r => match x with
  | .ret s => .ok s ρ r
  | .exc c d => .exc c d ρ r
  | .stuck => .stuck
theorem vCallP_eq (m : List D → POut) (fs : M R (List D)) : vCallP m fs ρ r = (fs ρ r).bind fun ds => callK (m ds) := rfl
theorem callK_ret (s : Slot) : (callK (.ret s) : M R Slot) ρ r = .ok s ρ r := rfl
def callRK (x : ROut R) : M R Slot := fun ρ _ => match x with
  | .ret s r' => .ok s ρ r'
  | .exc c d r' => .exc c d ρ r'
  | .stuck => .stuck
theorem vCallR_eq (m : List Slot → R → ROut R) (gs : M R (List Slot)) : vCallR m gs ρ r = (gs ρ r).bind fun ss ρ r => callRK (m ss r) ρ r := rfl
theorem callRK_ret (s : Slot) : (callRK (.ret s r') : M R Slot) ρ r = .ok s ρ r' := rfl
theorem rNil_eq : (rNil : M R (List Slot)) ρ r = .ok [] ρ r := rfl
theorem rCons_eq (fa : M R Slot) (fs : M R (List Slot)) : rCons fa fs ρ r = (fa ρ r).bind fun s => bnd (ofO (argOf s)) fun t => bnd fs fun ss => ret (t :: ss) := rfl
theorem argOf_val (d : D) : argOf (.val d) = some (.val d) := rfl
theorem argOf_own (ds : List D) : argOf (.own ds) = some (.val (.list ds)) := rfl
theorem argOf_root : argOf .root = some .root := rfl
theorem oNone_eq : (oNone : M R (Option Int)) ρ r = .ok none ρ r := rfl
theorem oSome_eq (fa : M R Slot) : oSome fa ρ r = (toD fa ρ r).bind fun d => bnd (ofO (intOf d)) fun i => ret (some i) := rfl
theorem intOf_int (i : Int) : intOf (.int i) = some i := rfl
theorem vSlice_eq (fa : M R Slot) (lo hi : M R (Option Int)) : vSlice fa lo hi ρ r = (toD fa ρ r).bind fun d => bnd lo fun l => bnd hi fun u => ofO (gSl d l u) := rfl
theorem gSl_tup (ds : List D) (lo hi : Option Int) : gSl (.tuple ds) lo hi = some (.val (.tuple (cutD ds lo hi))) := rfl
theorem gSl_lst (ds : List D) (lo hi : Option Int) : gSl (.list ds) lo hi = some (.own (cutD ds lo hi)) := rfl
theorem wipe_nil : wipeS [] ρ = ρ := rfl
theorem wipe_cons (j : Nat) (js : List Nat) : wipeS (j :: js) ρ = wipeS js (ρ.set j .emp) := rfl
theorem outP_rt (s : Slot) (h : s ≠ .root) : outP (.rt s ()) = .ret s := by cases s <;> first | rfl | exact absurd rfl h
theorem outP_val (d : D) (u : Unit) : outP (.rt (.val d) u) = .ret (.val d) := rfl
theorem outP_own (d : List D) (u : Unit) : outP (.rt (.own d) u) = .ret (.own d) := rfl
theorem outP_ownT (d : List (List Key × D)) (u : Unit) : outP (.rt (.ownT d) u) = .ret (.ownT d) := rfl
theorem outP_nx (u : Unit) : outP (.nx ρ u) = .ret (.val .none) := rfl
theorem outR_rt (s : Slot) : outR (.rt s r) = .ret s r := rfl
theorem outR_nx : outR (.nx ρ r) = .ret (.val .none) r := rfl
theorem runP_eq (n : Nat) (g : MS Unit) (ds : List D) : runP n g ds = outP (g (ds.map Slot.val ++ List.replicate (n - ds.length) Slot.emp) ()) := rfl
theorem runR_eq (n : Nat) (g : MS R) (ss : List Slot) : runR n g ss r = outR (g (ss ++ List.replicate (n - ss.length) Slot.emp) r) := rfl
/-! ### dicts -/
theorem vNewT_eq : (vNewT : M R Slot) ρ r = .ok (.ownT []) ρ r := rfl
theorem vDisp1_eq (fk fe : M R Slot) : vDisp1 fk fe ρ r = (toD fk ρ r).bind fun k => bnd (toD fe) fun d => ofO ((keyOf k).map fun ks => Slot.ownT [(ks, d)]) := rfl
def takeK (o : Option (List (List Key × D))) (i : Nat) : M R Slot := fun ρ r => match o with
  | some kvs => .ok (.ownT kvs) (ρ.set i .emp) r
  | none => .stuck
theorem vTake_eq (i : Nat) : (vTake i : M R Slot) ρ r = takeK (ownTOf ρ[i]?) i ρ r := rfl
theorem takeK_some (kvs : List (List Key × D)) (i : Nat) : (takeK (some kvs) i : M R Slot) ρ r = .ok (.ownT kvs) (ρ.set i .emp) r := rfl
theorem ownTOf_own (kvs : List (List Key × D)) : ownTOf (some (.ownT kvs)) = some kvs := rfl
theorem iItemsT_eq (f : M R Slot) : iItemsT f ρ r = (f ρ r).bind fun s => ofO ((dictOf s).map itemsT) := rfl
theorem dictOf_own (kvs : List (List Key × D)) : dictOf (.ownT kvs) = some kvs := rfl
def putK1 (o : Option (List (List Key × D))) (fk : M R Slot) (d : D) (i : Nat) : MS R := fun ρ r => match o with
  | none => .stuck
  | some _ => (thenS (toD fk) fun k => fun ρ r => match ownTOf ρ[i]?, keyOf k with
    | some kvs, some ks => if kvs.length < 1000000 then .nx (ρ.set i (.ownT (putT kvs ks d))) r else .stuck
    | _, _ => .stuck) ρ r
def putK2 (o : Option (List (List Key × D))) (p : Option (List Key)) (d : D) (i : Nat) : MS R := fun ρ r => match o, p with
  | some kvs, some ks => if kvs.length < 1000000 then .nx (ρ.set i (.ownT (putT kvs ks d))) r else .stuck
  | _, _ => .stuck
theorem sPutT_eq (i : Nat) (fk fe : M R Slot) : sPutT i fk fe ρ r = thenK (toD fe ρ r) fun d ρ r => putK1 (ownTOf ρ[i]?) fk d i ρ r := rfl
theorem putK1_some (kvs : List (List Key × D)) (fk : M R Slot) (d : D) (i : Nat) : putK1 (some kvs) fk d i ρ r = thenK (toD fk ρ r) fun k ρ r => putK2 (ownTOf ρ[i]?) (keyOf k) d i ρ r := rfl
theorem putK2_some (kvs : List (List Key × D)) (ks : List Key) (d : D) (i : Nat) : (putK2 (some kvs) (some ks) d i : MS R) ρ r = if kvs.length < 1000000 then .nx (ρ.set i (.ownT (putT kvs ks d))) r else .stuck := rfl
def getK1 (o : Option (List (List Key × D))) (fk fd : M R Slot) (i : Nat) : M R Slot := fun ρ r => match o with
  | none => .stuck
  | some _ => (toD fk ρ r).bind fun k => bnd (toD fd) fun d => fun ρ r => match ownTOf ρ[i]?, keyOf k with
    | some kvs, some ks => .ok (.val ((valT kvs ks).getD d)) ρ r
    | _, _ => .stuck
def getK2 (o : Option (List (List Key × D))) (p : Option (List Key)) (d : D) : M R Slot := fun ρ r => match o, p with
  | some kvs, some ks => .ok (.val ((valT kvs ks).getD d)) ρ r
  | _, _ => .stuck
theorem vGetT_eq (i : Nat) (fk fd : M R Slot) : vGetT i fk fd ρ r = getK1 (ownTOf ρ[i]?) fk fd i ρ r := rfl
theorem getK1_some (kvs : List (List Key × D)) (fk fd : M R Slot) (i : Nat) : getK1 (some kvs) fk fd i ρ r = (toD fk ρ r).bind fun k => bnd (toD fd) fun d => fun ρ r => getK2 (ownTOf ρ[i]?) (keyOf k) d ρ r := rfl
theorem getK2_some (kvs : List (List Key × D)) (ks : List Key) (d : D) : (getK2 (some kvs) (some ks) d : M R Slot) ρ r = .ok (.val ((valT kvs ks).getD d)) ρ r := rfl
def kI : List Int → List Key := List.map Sum.inl
theorem ksOf_ints : ∀ ns : List Int, ksOf (ns.map PyData.int) = some (kI ns)
  | [] => rfl
  | n :: ns => by simp [ksOf, kOf, ksOf_ints ns, kI]
theorem keyOf_ints (ns : List Int) : keyOf (.tuple (ns.map PyData.int)) = some (kI ns) := ksOf_ints ns
theorem keyD_kI (ns : List Int) : keyD (kI ns) = .tuple (ns.map PyData.int) := by
  unfold keyD kI
  rw [List.map_map]
  rfl
theorem kI_inj {a b : List Int} (h : kI a = kI b) : a = b := by
  have : ∀ {a b : List Int}, kI a = kI b → a = b := by
    intro a
    induction a with
    | nil => intro b h; cases b with
      | nil => rfl
      | cons _ _ => simp [kI] at h
    | cons x xs ih => intro b h; cases b with
      | nil => simp [kI] at h
      | cons y ys =>
        simp only [kI, List.map_cons, List.cons.injEq, Sum.inl.injEq] at h
        rw [h.1, ih (show kI xs = kI ys from h.2)]
  exact this h

/-! ### loops -/
def forK2 (x : Out R) (js : List Nat) (t : D → List Slot → Option (List Slot)) (body : MS R) (ds : List D) : Out R := match x with
  | .nx ρ2 r2 => forL js t body ds ρ2 r2
  | .ct ρ2 r2 => forL js t body ds ρ2 r2
  | .bk ρ2 r2 => .nx (wipeS js ρ2) r2
  | .rt s r2 => .rt s r2
  | .exc c d ρ2 r2 => .exc c d ρ2 r2
  | .stuck => .stuck
def forK (o : Option (List Slot)) (js : List Nat) (t : D → List Slot → Option (List Slot)) (body : MS R) (ds : List D) (r : R) : Out R := match o with
  | none => .stuck
  | some ρ1 => forK2 (body ρ1 r) js t body ds
theorem forL_cons (js : List Nat) (t : D → List Slot → Option (List Slot)) (body : MS R) (d : D) (ds : List D) : forL js t body (d :: ds) ρ r = forK (t d (wipeS js ρ)) js t body ds r := rfl
theorem forK_some (js : List Nat) (t : D → List Slot → Option (List Slot)) (body : MS R) (ds : List D) : forK (some ρ) js t body ds r = forK2 (body ρ r) js t body ds := rfl
theorem forK2_nx (js : List Nat) (t : D → List Slot → Option (List Slot)) (body : MS R) (ds : List D) : forK2 (.nx ρ r) js t body ds = forL js t body ds ρ r := rfl
theorem forK2_ct (js : List Nat) (t : D → List Slot → Option (List Slot)) (body : MS R) (ds : List D) : forK2 (.ct ρ r) js t body ds = forL js t body ds ρ r := rfl
theorem forK2_bk (js : List Nat) (t : D → List Slot → Option (List Slot)) (body : MS R) (ds : List D) : forK2 (.bk ρ r) js t body ds = .nx (wipeS js ρ) r := rfl
theorem forK2_rt (s : Slot) (js : List Nat) (t : D → List Slot → Option (List Slot)) (body : MS R) (ds : List D) : forK2 (.rt s r) js t body ds = .rt s r := rfl
/-- a for whose turns go on to the next: st tells the slots at the loop's head (wiped), rs the resource -/
theorem forL_run {α : Type} {js : List Nat} {t : D → List Slot → Option (List Slot)} {body : MS R} (st : α → List Slot) (rs : α → R) (step : α → D → α) (ok : α → List D → Prop)
    (h : ∀ a d ds, ok a (d :: ds) → ok (step a d) ds ∧ ∃ ρ1, t d (st a) = some ρ1 ∧ ∃ ρ2, (body ρ1 (rs a) = .nx ρ2 (rs (step a d)) ∨ body ρ1 (rs a) = .ct ρ2 (rs (step a d))) ∧ wipeS js ρ2 = st (step a d)) :
    ∀ (ds : List D) (a : α) (ρ : List Slot), wipeS js ρ = st a → ok a ds → forL js t body ds ρ (rs a) = .nx (st (ds.foldl step a)) (rs (ds.foldl step a))
  | [], a, ρ, hw, _ => by rw [forL_nil, hw]; rfl
  | d :: ds, a, ρ, hw, ho => by
    obtain ⟨h1, ρ1, h2, ρ2, h3, h4⟩ := h a d ds ho
    have ih := forL_run st rs step ok h ds (step a d) ρ2 h4 h1
    rw [List.foldl_cons, ← ih, forL_cons, hw, h2, forK_some]
    rcases h3 with h3 | h3
    · rw [h3, forK2_nx]
    · rw [h3, forK2_ct]
/-! ### comprehensions -/
def lcK (x : Res R (List D)) (vs : List Nat) (ρ : List Slot) : Res R Slot := match x with
  | .ok acc ρ' r' => .ok (.own acc) (backS vs ρ ρ') r'
  | .stuck => .stuck
  | .exc c d ρ' r' => .stuck
theorem vLc_eq (vs : List Nat) (it : M R (List D)) (t : D → List Slot → Option (List Slot)) (tt : M R Bool) (te : M R Slot) : vLc vs it t tt te ρ r = (it ρ r).bind fun ds ρ r => lcK (lcL vs t tt te ds [] ρ r) vs ρ := rfl
theorem lcK_ok (acc : List D) (vs : List Nat) : lcK (.ok acc ρ' r) vs ρ = .ok (.own acc) (backS vs ρ ρ') r := rfl
def dcK (x : Res R (List (List Key × D))) (vs : List Nat) (ρ : List Slot) : Res R Slot := match x with
  | .ok acc ρ' r' => .ok (.ownT acc) (backS vs ρ ρ') r'
  | .stuck => .stuck
  | .exc c d ρ' r' => .stuck
theorem vDc_eq (vs : List Nat) (it : M R (List D)) (t : D → List Slot → Option (List Slot)) (tt : M R Bool) (tk tv : M R Slot) : vDc vs it t tt tk tv ρ r = (it ρ r).bind fun ds ρ r => dcK (dcL vs t tt tk tv ds [] ρ r) vs ρ := rfl
theorem dcK_ok (acc : List (List Key × D)) (vs : List Nat) : dcK (.ok acc ρ' r) vs ρ = .ok (.ownT acc) (backS vs ρ ρ') r := rfl
theorem ttYes_eq : (ttYes : M R Bool) ρ r = .ok true ρ r := rfl
def lcK3 (o : Option (List Slot)) (vs : List Nat) (t : D → List Slot → Option (List Slot)) (tt : M R Bool) (te : M R Slot) (ds acc : List D) (r : R) : Res R (List D) := match o with
  | none => .stuck
  | some ρ1 => (tt ρ1 r).bind fun b => if b = true then (bnd (toD te) fun y => fun ρ2 r2 => if acc.length < 1000000 then lcL vs t tt te ds (acc ++ [y]) ρ2 r2 else .stuck) else lcL vs t tt te ds acc
theorem lcL_cons (vs : List Nat) (t : D → List Slot → Option (List Slot)) (tt : M R Bool) (te : M R Slot) (d : D) (ds acc : List D) : lcL vs t tt te (d :: ds) acc ρ r = lcK3 (t d (wipeS vs ρ)) vs t tt te ds acc r := rfl
theorem lcK3_some (vs : List Nat) (t : D → List Slot → Option (List Slot)) (tt : M R Bool) (te : M R Slot) (ds acc : List D) : lcK3 (some ρ) vs t tt te ds acc r = (tt ρ r).bind fun b => if b = true then (bnd (toD te) fun y => fun ρ2 r2 => if acc.length < 1000000 then lcL vs t tt te ds (acc ++ [y]) ρ2 r2 else .stuck) else lcL vs t tt te ds acc := rfl
theorem lcL_nil (vs : List Nat) (t : D → List Slot → Option (List Slot)) (tt : M R Bool) (te : M R Slot) (acc : List D) : lcL vs t tt te [] acc ρ r = .ok acc ρ r := rfl
def dcK3 (o : Option (List Slot)) (vs : List Nat) (t : D → List Slot → Option (List Slot)) (tt : M R Bool) (tk tv : M R Slot) (ds : List D) (acc : List (List Key × D)) (r : R) : Res R (List (List Key × D)) := match o with
  | none => .stuck
  | some ρ1 => (tt ρ1 r).bind fun b => if b = true then (bnd (toD tk) fun k => bnd (toD tv) fun y => fun ρ2 r2 => match keyOf k with
        | some ks => if acc.length < 1000000 then dcL vs t tt tk tv ds (putT acc ks y) ρ2 r2 else .stuck
        | none => .stuck) else dcL vs t tt tk tv ds acc
def dcK4 (o : Option (List Key)) (vs : List Nat) (t : D → List Slot → Option (List Slot)) (tt : M R Bool) (tk tv : M R Slot) (ds : List D) (acc : List (List Key × D)) (y : D) : M R (List (List Key × D)) := fun ρ2 r2 => match o with
        | some ks => if acc.length < 1000000 then dcL vs t tt tk tv ds (putT acc ks y) ρ2 r2 else .stuck
        | none => .stuck
theorem dcL_cons (vs : List Nat) (t : D → List Slot → Option (List Slot)) (tt : M R Bool) (tk tv : M R Slot) (d : D) (ds : List D) (acc : List (List Key × D)) : dcL vs t tt tk tv (d :: ds) acc ρ r = dcK3 (t d (wipeS vs ρ)) vs t tt tk tv ds acc r := rfl
theorem dcK3_some (vs : List Nat) (t : D → List Slot → Option (List Slot)) (tt : M R Bool) (tk tv : M R Slot) (ds : List D) (acc : List (List Key × D)) : dcK3 (some ρ) vs t tt tk tv ds acc r = (tt ρ r).bind fun b => if b = true then (bnd (toD tk) fun k => bnd (toD tv) fun y => dcK4 (keyOf k) vs t tt tk tv ds acc y) else dcL vs t tt tk tv ds acc := rfl
theorem dcK4_some (ks : List Key) (vs : List Nat) (t : D → List Slot → Option (List Slot)) (tt : M R Bool) (tk tv : M R Slot) (ds : List D) (acc : List (List Key × D)) (y : D) : dcK4 (some ks) vs t tt tk tv ds acc y ρ r = if acc.length < 1000000 then dcL vs t tt tk tv ds (putT acc ks y) ρ r else .stuck := rfl
theorem dcL_nil (vs : List Nat) (t : D → List Slot → Option (List Slot)) (tt : M R Bool) (tk tv : M R Slot) (acc : List (List Key × D)) : dcL vs t tt tk tv [] acc ρ r = .ok acc ρ r := rfl
def outsL {α : Type} (step : α → D → α) (out : α → D → Option D) : α → List D → List D
  | _, [] => []
  | a, d :: ds => (out a d).toList ++ outsL step out (step a d) ds
theorem lcL_run {α : Type} {vs : List Nat} {t : D → List Slot → Option (List Slot)} {tt : M R Bool} {te : M R Slot} (st : List Slot) (rs : α → R) (step : α → D → α) (out : α → D → Option D) (ok : α → List D → Prop)
    (h : ∀ a d ds, ok a (d :: ds) → ok (step a d) ds ∧ ∃ ρ1, t d st = some ρ1 ∧ ((out a d = none ∧ ∃ ρ2, tt ρ1 (rs a) = .ok false ρ2 (rs (step a d)) ∧ wipeS vs ρ2 = st) ∨
      ∃ y ρ2 r2 ρ3, out a d = some y ∧ tt ρ1 (rs a) = .ok true ρ2 r2 ∧ toD te ρ2 r2 = .ok y ρ3 (rs (step a d)) ∧ wipeS vs ρ3 = st)) :
    ∀ (ds : List D) (a : α) (acc : List D) (ρ : List Slot), wipeS vs ρ = st → ok a ds → acc.length + ds.length ≤ 1000000 → ∃ ρ', wipeS vs ρ' = st ∧ lcL vs t tt te ds acc ρ (rs a) = .ok (acc ++ outsL step out a ds) ρ' (rs (ds.foldl step a))
  | [], a, acc, ρ, hw, _, _ => ⟨ρ, hw, by simp [lcL, outsL]⟩
  | d :: ds, a, acc, ρ, hw, ho, hl => by
    obtain ⟨h1, ρ1, h2, h3⟩ := h a d ds ho
    rw [List.length_cons] at hl
    rcases h3 with ⟨h3, ρ2, h4, h5⟩ | ⟨y, ρ2, r2, ρ3, h3, h4, h5, h6⟩
    · obtain ⟨ρ', e1, e2⟩ := lcL_run st rs step out ok h ds (step a d) acc ρ2 h5 h1 (by omega)
      refine ⟨ρ', e1, ?_⟩
      rw [lcL_cons, hw, h2, lcK3_some]
      simp only [bnd_eq, h4, bind_ok, Bool.false_eq_true, if_false, outsL, h3, Option.toList_none, List.nil_append, List.foldl_cons]
      exact e2
    · obtain ⟨ρ', e1, e2⟩ := lcL_run st rs step out ok h ds (step a d) (acc ++ [y]) ρ3 h6 h1 (by rw [List.length_append, List.length_singleton]; omega)
      refine ⟨ρ', e1, ?_⟩
      rw [lcL_cons, hw, h2, lcK3_some]
      have hl2 : acc.length < 1000000 := by omega
      simp only [bnd_eq, h4, bind_ok, if_true, h5, if_pos hl2, outsL, h3, Option.toList_some, List.foldl_cons]
      rw [e2, List.append_assoc]
/-- the same where the resource stays -/
theorem lcL_map {vs : List Nat} {t : D → List Slot → Option (List Slot)} {tt : M R Bool} {te : M R Slot} (st : List Slot) (out : D → Option D)
    {ds : List D} (h : ∀ d ∈ ds, ∃ ρ1, t d st = some ρ1 ∧ ((out d = none ∧ ∃ ρ2, tt ρ1 r = .ok false ρ2 r ∧ wipeS vs ρ2 = st) ∨
      ∃ y ρ2 ρ3, out d = some y ∧ tt ρ1 r = .ok true ρ2 r ∧ toD te ρ2 r = .ok y ρ3 r ∧ wipeS vs ρ3 = st))
    {ρ : List Slot} (hw : wipeS vs ρ = st) (hl : ds.length ≤ 1000000) : ∃ ρ', wipeS vs ρ' = st ∧ lcL vs t tt te ds [] ρ r = .ok (ds.filterMap out) ρ' r := by
  obtain ⟨ρ', e1, e2⟩ := lcL_run (α := Unit) (vs := vs) (t := t) (tt := tt) (te := te) st (fun _ => r) (fun a _ => a) (fun _ d => out d) (fun _ ds' => ∀ d ∈ ds', d ∈ ds) (fun a d ds' ho => by
    refine ⟨fun d' hd' => ho d' (List.mem_cons_of_mem _ hd'), ?_⟩
    obtain ⟨ρ1, h1, h2⟩ := h d (ho d (List.mem_cons_self ..))
    refine ⟨ρ1, h1, ?_⟩
    rcases h2 with h2 | ⟨y, ρ2, ρ3, h2⟩
    · exact .inl h2
    · exact .inr ⟨y, ρ2, r, ρ3, h2⟩) ds () [] ρ hw (fun d hd => hd) (by simpa using hl)
  refine ⟨ρ', e1, ?_⟩
  rw [e2, List.nil_append]
  congr 1
  clear e2 hl h
  induction ds with
  | nil => rfl
  | cons d ds ih =>
    rw [outsL, ih, List.filterMap_cons]
    cases out d <;> rfl
theorem backS_at (ρ : List Slot) : ∀ (vs : List Nat) (l : List Slot) (i : Nat), (i ∉ vs → (backS vs ρ l)[i]? = l[i]?) ∧ (i ∈ vs → i < l.length → ∀ u, ρ[i]? = some u → u.isOwn = false → (backS vs ρ l)[i]? = some u)
  | [], l, i => ⟨fun _ => rfl, fun h => absurd h (by simp)⟩
  | v :: vs, l, i => by
    obtain ⟨w, hw, hw2⟩ : ∃ w, backS (v :: vs) ρ l = backS vs ρ (l.set v w) ∧ ∀ u, ρ[v]? = some u → u.isOwn = false → w = u := by
      refine ⟨_, rfl, fun u hu ho => ?_⟩
      simp only [hu]
      cases u with
      | own _ => cases ho
      | ownT _ => cases ho
      | _ => rfl
    obtain ⟨h1, h2⟩ := backS_at ρ vs (l.set v w) i
    rw [hw]
    refine ⟨fun hn => ?_, fun hm hl u hu ho => ?_⟩
    · exact (h1 fun z => hn (List.mem_cons_of_mem _ z)).trans (List.getElem?_set_ne fun z => hn (by rw [z]; exact List.mem_cons_self))
    · by_cases hv : i ∈ vs
      · exact h2 hv (by rw [List.length_set]; exact hl) u hu ho
      · rcases List.mem_cons.mp hm with z | z
        · subst z
          rw [h1 hv, List.getElem?_set_self hl, hw2 u hu ho]
        · exact absurd z hv
theorem wipeS_in {i : Nat} : ∀ (js : List Nat) (l : List Slot), i ∈ js → i < l.length → (wipeS js l)[i]? = some .emp
  | [], _, h, _ => absurd h (by simp)
  | j :: js, l, h, hl => by
    rw [wipe_cons]
    by_cases hj : i ∈ js
    · exact wipeS_in js _ hj (by rw [List.length_set]; exact hl)
    · rw [wipeS_at js _ hj]
      rcases List.mem_cons.mp h with z | z
      · subst z; rw [List.getElem?_set_self hl]
      · exact absurd z hj
/-- behind a comprehension whose turns leave the slots as they are -/
theorem backS_same {vs : List Nat} (h : wipeS vs ρ' = wipeS vs ρ) (k : ∀ i ∈ vs, ∀ s, ρ[i]? = some s → s.isOwn = false) : backS vs ρ ρ' = ρ := by
  have hl : ρ'.length = ρ.length := by rw [← wipeS_len vs ρ', h, wipeS_len]
  apply List.ext_getElem?
  intro i
  obtain ⟨h1, h2⟩ := backS_at ρ vs ρ' i
  by_cases hi : i ∈ vs
  · rcases Nat.lt_or_ge i ρ.length with z | z
    · have e : ρ[i]? = some ρ[i] := List.getElem?_eq_getElem z
      rw [h2 hi (by rw [hl]; exact z) _ e (k i hi _ e), e]
    · rw [List.getElem?_eq_none z, List.getElem?_eq_none]
      rw [backS_len ρ vs ρ', hl]; exact z
  · rw [h1 hi]
    have := congrArg (fun l => l[i]?) h
    simpa [wipeS_at vs _ hi] using this
end
/-! ### the draws -/
section
variable {ρ ρ' : List Slot} {r r' : Dr}
def drgK (b : Bool) (k : DKey) : M Dr Slot := fun ρ r => if b = true then .ok (.val (.int (r.get k))) ρ r else .stuck
theorem vDrGet_eq (i : Nat) (k : DKey) : vDrGet i k ρ r = drgK (isRoot ρ[i]?) k ρ r := rfl
theorem drgK_true (k : DKey) : drgK true k ρ r = .ok (.val (.int (r.get k))) ρ r := rfl
theorem isRoot_root : isRoot (some .root) = true := rfl
def drlK (b : Bool) : M Dr Slot := fun ρ r => if b = true then .ok (.val (.int r.cells.length)) ρ r else .stuck
theorem vDrLen_eq (i : Nat) : vDrLen i ρ r = drlK (isRoot ρ[i]?) ρ r := rfl
theorem drlK_true : drlK true ρ r = .ok (.val (.int r.cells.length)) ρ r := rfl
def drc3 (o : Option Int) : M Dr Slot := fun ρ r => match o with
  | some x => .ok (.val (.int x)) ρ r
  | none => .stuck
def drc2 (e : D) : M Dr Slot := fun ρ r => match e with
  | .int n => (match atI r.cells n with
    | some x => .ok (.val (.int x)) ρ r
    | none => .stuck)
  | _ => .stuck
def drcK (b : Bool) (fb : M Dr Slot) : M Dr Slot := fun ρ0 r0 => if b = true then ((toD fb ρ0 r0).bind fun e => drc2 e) else .stuck
theorem vDrCell_eq (i : Nat) (fb : M Dr Slot) : vDrCell i fb ρ r = drcK (isRoot ρ[i]?) fb ρ r := rfl
theorem drcK_true (fb : M Dr Slot) : drcK true fb ρ r = (toD fb ρ r).bind fun e => drc2 e := rfl
theorem drc2_int (n : Int) : drc2 (.int n) ρ r = drc3 (atI r.cells n) ρ r := rfl
theorem drc3_some (x : Int) : drc3 (some x) ρ r = .ok (.val (.int x)) ρ r := rfl
def drpK (d : D) (i : Nat) (k : DKey) : MS Dr := fun ρ r => match d with
  | .int n => if isRoot ρ[i]? = true ∧ k.fine n = true then .nx ρ (r.set n k) else .stuck
  | _ => .stuck
theorem sDrPut_eq (i : Nat) (k : DKey) (fe : M Dr Slot) : sDrPut i k fe ρ r = thenK (toD fe ρ r) fun d => drpK d i k := rfl
theorem drpK_int (n : Int) (i : Nat) (k : DKey) : drpK (.int n) i k ρ r = if isRoot ρ[i]? = true ∧ k.fine n = true then .nx ρ (r.set n k) else .stuck := rfl
end
end L2.VL

/-! VLM: the beginning's value; a draw's value. -/
namespace L2.VL
open PySem PySem.Spec PyProof.Rows
section
variable {K : PySem.W.Frag}
def teBegin : M (Scr K) Slot := vIfE (toB (vBin gGe (vVar 2) (ret (.val (.int 0))))) (vBin gMul (vCB gInt (aCons (vVar 2) aNil)) (ret (.val (.int 2)))) (vBin gSub (vBin gMul (vUn gNeg (vCB gInt (aCons (vVar 2) aNil))) (ret (.val (.int 2)))) (ret (.val (.int 1))))
def gBegin : MS (Scr K) := sSet 1 (vLc [2] (iSeq (vScr 0 63)) (gNm 2) ttYes teBegin)
def eBegin : M (Scr K) Slot := (vBin gMod (vCB gInt (aCons (vCB gSum (aCons (vVar 1) aNil)) aNil)) (ret (.val (.int 1000003))))
def cellOf (n : Int) : Int := if 0 ≤ n then n * 2 else -n * 2 - 1
theorem mulOk_r (i j : Int) (h : j.natAbs < 2 ^ 64) : mulOk i j := .inr (.inr h)
theorem mulOk_l (i j : Int) (h : i.natAbs < 2 ^ 64) : mulOk i j := .inr (.inl h)
theorem te_val (n : Int) (r : Scr K) : toD teBegin [.root, .emp, .val (.int n)] r = .ok (.int (cellOf n)) [.root, .emp, .val (.int n)] r := by
  have m1 := mulOk_r n 2 (by decide)
  have m2 := mulOk_r (-n) 2 (by decide)
  unfold teBegin cellOf
  by_cases h : 0 ≤ n
  · have h' : n ≥ 0 := h
    simp only [bnd_eq, bind_ok, ret_eq, ofO_some, toD_eq, frz_val, frz_own, toB_eq, boolOf_b, vVar_eq, varK_val, varK_root, varK_own, vBin_eq, vUn_eq, vAnd_eq, vOr_eq, vNot_eq, tAnd_eq, tOr_eq, tNot_eq, vIfE_eq, aNil_eq, aCons_eq, vTup_eq, vLst_eq, vCB_eq, chain_eq, vIsi_eq, vIsi2_eq, noDict_int, noDict_tuple, noDict_list, noDict_none, noDict_bool, noDict_str, isT_int_int, isT_bool_int, isT_tuple_tuple, isT_tuple_int, isT_int_tuple, gAdd_int, gAdd_tup, gAdd_lst, gSub_int, gMul_int, gMul_tup, gMul_lst, gMod_int, gDiv_int, gPow_int, gLt_int, gLe_int, gGt_int, gGe_int, gEq_int, gNe_int, gNeg_int, gRev_tup, gIx_tup, gIx_lst, gLen_tup, gLen_lst, gAbs_int, gMin_int, gMax_int, gInt_int, gTuple_lst, gTuple_tup, gList_lst, gList_tup, gSum_ints, gAll_bools, gAny_bools, vIxV_eq, ixK_some, ixK2_some, slotD_val, slotD_own, vLenV_eq, lenK_some, tTruV_eq, truK_some, tTru_eq, truD_bool, truD_int, truD_tup, truD_lst, truD_none, vApp_eq, appK_some, appK2_some, ownOf_own, thenK_ok, thenS_eq, sSetIx_eq, setIxK_some, setIxK2_some, setIxK3_some, sSeq_eq, seqK_nx, seqK_rt, seqK_bk, seqK_ct, sNext_eq, sBreak_eq, sCont_eq, sRet_eq, sRetN_eq, sExpr_eq, sSet_eq, sIf_eq, asgK_some, sAsg_eq, gNm_eq, gTp_tup, gAll2_nil, gAll2_cons, bNil_eq, bCons_eq, parK_two, sPar_eq, iSeq_eq, seqOf_tup, seqOf_lst, iRg_eq, vCallP_eq, callK_ret, vCallR_eq, callRK_ret, rNil_eq, rCons_eq, argOf_val, argOf_own, argOf_root, oNone_eq, oSome_eq, intOf_int, vSlice_eq, gSl_tup, gSl_lst, wipe_nil, wipe_cons, outP_val, outP_own, outP_ownT, outP_nx, outR_rt, outR_nx, vNewT_eq, vDisp1_eq, vTake_eq, takeK_some, ownTOf_own, iItemsT_eq, dictOf_own, sPutT_eq, putK1_some, putK2_some, vGetT_eq, getK1_some, getK2_some, keyOf_ints, forK_some, forK2_nx, forK2_ct, forK2_bk, forK2_rt, lcK_ok, dcK_ok, ttYes_eq, lcK3_some, dcK3_some, dcK4_some, vDrGet_eq, drgK_true, isRoot_root, vDrLen_eq, drlK_true, vDrCell_eq, drcK_true, drc2_int, drc3_some, sDrPut_eq, drpK_int, List.getElem?_cons_zero, List.getElem?_cons_succ, List.set_cons_zero, List.set_cons_succ, Option.map_some, Option.bind_some, if_true, if_false, ite_true, ite_false, iteM, iteMS, Bool.false_eq_true, small_eq, List.length_cons, List.length_nil, decide_eq_true_eq, eq_self, decide_true, Int.toNat_natCast, Nat.reduceLeDiff, Nat.reduceAdd, Nat.reduceMul, Nat.zero_le, Nat.zero_add, h, h', if_pos m1]
  · have h' : ¬ n ≥ 0 := h
    simp only [bnd_eq, bind_ok, ret_eq, ofO_some, toD_eq, frz_val, frz_own, toB_eq, boolOf_b, vVar_eq, varK_val, varK_root, varK_own, vBin_eq, vUn_eq, vAnd_eq, vOr_eq, vNot_eq, tAnd_eq, tOr_eq, tNot_eq, vIfE_eq, aNil_eq, aCons_eq, vTup_eq, vLst_eq, vCB_eq, chain_eq, vIsi_eq, vIsi2_eq, noDict_int, noDict_tuple, noDict_list, noDict_none, noDict_bool, noDict_str, isT_int_int, isT_bool_int, isT_tuple_tuple, isT_tuple_int, isT_int_tuple, gAdd_int, gAdd_tup, gAdd_lst, gSub_int, gMul_int, gMul_tup, gMul_lst, gMod_int, gDiv_int, gPow_int, gLt_int, gLe_int, gGt_int, gGe_int, gEq_int, gNe_int, gNeg_int, gRev_tup, gIx_tup, gIx_lst, gLen_tup, gLen_lst, gAbs_int, gMin_int, gMax_int, gInt_int, gTuple_lst, gTuple_tup, gList_lst, gList_tup, gSum_ints, gAll_bools, gAny_bools, vIxV_eq, ixK_some, ixK2_some, slotD_val, slotD_own, vLenV_eq, lenK_some, tTruV_eq, truK_some, tTru_eq, truD_bool, truD_int, truD_tup, truD_lst, truD_none, vApp_eq, appK_some, appK2_some, ownOf_own, thenK_ok, thenS_eq, sSetIx_eq, setIxK_some, setIxK2_some, setIxK3_some, sSeq_eq, seqK_nx, seqK_rt, seqK_bk, seqK_ct, sNext_eq, sBreak_eq, sCont_eq, sRet_eq, sRetN_eq, sExpr_eq, sSet_eq, sIf_eq, asgK_some, sAsg_eq, gNm_eq, gTp_tup, gAll2_nil, gAll2_cons, bNil_eq, bCons_eq, parK_two, sPar_eq, iSeq_eq, seqOf_tup, seqOf_lst, iRg_eq, vCallP_eq, callK_ret, vCallR_eq, callRK_ret, rNil_eq, rCons_eq, argOf_val, argOf_own, argOf_root, oNone_eq, oSome_eq, intOf_int, vSlice_eq, gSl_tup, gSl_lst, wipe_nil, wipe_cons, outP_val, outP_own, outP_ownT, outP_nx, outR_rt, outR_nx, vNewT_eq, vDisp1_eq, vTake_eq, takeK_some, ownTOf_own, iItemsT_eq, dictOf_own, sPutT_eq, putK1_some, putK2_some, vGetT_eq, getK1_some, getK2_some, keyOf_ints, forK_some, forK2_nx, forK2_ct, forK2_bk, forK2_rt, lcK_ok, dcK_ok, ttYes_eq, lcK3_some, dcK3_some, dcK4_some, vDrGet_eq, drgK_true, isRoot_root, vDrLen_eq, drlK_true, vDrCell_eq, drcK_true, drc2_int, drc3_some, sDrPut_eq, drpK_int, List.getElem?_cons_zero, List.getElem?_cons_succ, List.set_cons_zero, List.set_cons_succ, Option.map_some, Option.bind_some, if_true, if_false, ite_true, ite_false, iteM, iteMS, Bool.false_eq_true, small_eq, List.length_cons, List.length_nil, decide_eq_true_eq, eq_self, decide_true, Int.toNat_natCast, Nat.reduceLeDiff, Nat.reduceAdd, Nat.reduceMul, Nat.zero_le, Nat.zero_add, h, h', if_pos m2]
theorem scr_val (ns : List Int) (h : ns.length ≤ 63) : vScr 0 63 [Slot.root, .emp, .emp] (⟨ns⟩ : Scr K) = .ok (.own (ns.map PyData.int)) [.root, .emp, .emp] ⟨ns⟩ := by
  have hc : cutD (ns.map PyData.int) none (some 63) = ns.map PyData.int := by
    refine cut_whole ⟨rfl, ?_⟩
    simp [HT.sIx]
    try omega
  show Res.ok (Slot.own (cutD (ns.map PyData.int) none (some 63))) _ _ = _
  rw [hc]
theorem begin_val (ns : List Int) (h : ns.length ≤ 63) : ∃ (ρ : List Slot) (cs : List Int), gBegin (K := K) (Slot.root :: List.replicate (3 - 1) Slot.emp) ⟨ns⟩ = .nx ρ ⟨ns⟩ ∧ cs.length ≤ 63 ∧ ρ[1]? = some (.own (cs.map PyData.int)) ∧ ∃ n ρ' r', eBegin (K := K) ρ ⟨ns⟩ = .ok (.val (.int n)) ρ' r' ∧ ρ'[1]? = some (.val (.list (cs.map PyData.int))) := by
  have e1 : gBegin (K := K) (Slot.root :: List.replicate (3 - 1) Slot.emp) ⟨ns⟩ = .nx [.root, .own ((ns.map cellOf).map PyData.int), .emp] ⟨ns⟩ := by
    show gBegin (K := K) [Slot.root, .emp, .emp] ⟨ns⟩ = _
    obtain ⟨ρ', h1, h2⟩ := lcL_map (R := Scr K) (r := ⟨ns⟩) (vs := [2]) (t := gNm 2) (tt := ttYes) (te := teBegin) [Slot.root, .emp, .emp] (fun d => match d with | .int n => some (.int (cellOf n)) | _ => none) (ds := ns.map PyData.int) (fun d hd => by
      obtain ⟨n, _, rfl⟩ := List.mem_map.mp hd
      exact ⟨_, rfl, .inr ⟨_, _, _, rfl, rfl, te_val n _, rfl⟩⟩) (ρ := [.root, .emp, .emp]) rfl (by rw [List.length_map]; omega)
    unfold gBegin
    simp only [bnd_eq, bind_ok, ret_eq, ofO_some, toD_eq, frz_val, frz_own, toB_eq, boolOf_b, vVar_eq, varK_val, varK_root, varK_own, vBin_eq, vUn_eq, vAnd_eq, vOr_eq, vNot_eq, tAnd_eq, tOr_eq, tNot_eq, vIfE_eq, aNil_eq, aCons_eq, vTup_eq, vLst_eq, vCB_eq, chain_eq, vIsi_eq, vIsi2_eq, noDict_int, noDict_tuple, noDict_list, noDict_none, noDict_bool, noDict_str, isT_int_int, isT_bool_int, isT_tuple_tuple, isT_tuple_int, isT_int_tuple, gAdd_int, gAdd_tup, gAdd_lst, gSub_int, gMul_int, gMul_tup, gMul_lst, gMod_int, gDiv_int, gPow_int, gLt_int, gLe_int, gGt_int, gGe_int, gEq_int, gNe_int, gNeg_int, gRev_tup, gIx_tup, gIx_lst, gLen_tup, gLen_lst, gAbs_int, gMin_int, gMax_int, gInt_int, gTuple_lst, gTuple_tup, gList_lst, gList_tup, gSum_ints, gAll_bools, gAny_bools, vIxV_eq, ixK_some, ixK2_some, slotD_val, slotD_own, vLenV_eq, lenK_some, tTruV_eq, truK_some, tTru_eq, truD_bool, truD_int, truD_tup, truD_lst, truD_none, vApp_eq, appK_some, appK2_some, ownOf_own, thenK_ok, thenS_eq, sSetIx_eq, setIxK_some, setIxK2_some, setIxK3_some, sSeq_eq, seqK_nx, seqK_rt, seqK_bk, seqK_ct, sNext_eq, sBreak_eq, sCont_eq, sRet_eq, sRetN_eq, sExpr_eq, sSet_eq, sIf_eq, asgK_some, sAsg_eq, gNm_eq, gTp_tup, gAll2_nil, gAll2_cons, bNil_eq, bCons_eq, parK_two, sPar_eq, iSeq_eq, seqOf_tup, seqOf_lst, iRg_eq, vCallP_eq, callK_ret, vCallR_eq, callRK_ret, rNil_eq, rCons_eq, argOf_val, argOf_own, argOf_root, oNone_eq, oSome_eq, intOf_int, vSlice_eq, gSl_tup, gSl_lst, wipe_nil, wipe_cons, outP_val, outP_own, outP_ownT, outP_nx, outR_rt, outR_nx, vNewT_eq, vDisp1_eq, vTake_eq, takeK_some, ownTOf_own, iItemsT_eq, dictOf_own, sPutT_eq, putK1_some, putK2_some, vGetT_eq, getK1_some, getK2_some, keyOf_ints, forK_some, forK2_nx, forK2_ct, forK2_bk, forK2_rt, lcK_ok, dcK_ok, ttYes_eq, lcK3_some, dcK3_some, dcK4_some, vDrGet_eq, drgK_true, isRoot_root, vDrLen_eq, drlK_true, vDrCell_eq, drcK_true, drc2_int, drc3_some, sDrPut_eq, drpK_int, List.getElem?_cons_zero, List.getElem?_cons_succ, List.set_cons_zero, List.set_cons_succ, Option.map_some, Option.bind_some, if_true, if_false, ite_true, ite_false, iteM, iteMS, Bool.false_eq_true, small_eq, List.length_cons, List.length_nil, decide_eq_true_eq, eq_self, decide_true, Int.toNat_natCast, Nat.reduceLeDiff, Nat.reduceAdd, Nat.reduceMul, Nat.zero_le, Nat.zero_add, vLc_eq, scr_val ns h, h2]
    rw [backS_same (ρ := [Slot.root, .emp, .emp]) (ρ' := ρ') (by rw [h1]; rfl) (fun i hi s hs => by
      obtain rfl : i = 2 := by simpa using hi
      obtain rfl : Slot.emp = s := by simpa using hs
      rfl)]
    simp only [bnd_eq, bind_ok, ret_eq, ofO_some, toD_eq, frz_val, frz_own, toB_eq, boolOf_b, vVar_eq, varK_val, varK_root, varK_own, vBin_eq, vUn_eq, vAnd_eq, vOr_eq, vNot_eq, tAnd_eq, tOr_eq, tNot_eq, vIfE_eq, aNil_eq, aCons_eq, vTup_eq, vLst_eq, vCB_eq, chain_eq, vIsi_eq, vIsi2_eq, noDict_int, noDict_tuple, noDict_list, noDict_none, noDict_bool, noDict_str, isT_int_int, isT_bool_int, isT_tuple_tuple, isT_tuple_int, isT_int_tuple, gAdd_int, gAdd_tup, gAdd_lst, gSub_int, gMul_int, gMul_tup, gMul_lst, gMod_int, gDiv_int, gPow_int, gLt_int, gLe_int, gGt_int, gGe_int, gEq_int, gNe_int, gNeg_int, gRev_tup, gIx_tup, gIx_lst, gLen_tup, gLen_lst, gAbs_int, gMin_int, gMax_int, gInt_int, gTuple_lst, gTuple_tup, gList_lst, gList_tup, gSum_ints, gAll_bools, gAny_bools, vIxV_eq, ixK_some, ixK2_some, slotD_val, slotD_own, vLenV_eq, lenK_some, tTruV_eq, truK_some, tTru_eq, truD_bool, truD_int, truD_tup, truD_lst, truD_none, vApp_eq, appK_some, appK2_some, ownOf_own, thenK_ok, thenS_eq, sSetIx_eq, setIxK_some, setIxK2_some, setIxK3_some, sSeq_eq, seqK_nx, seqK_rt, seqK_bk, seqK_ct, sNext_eq, sBreak_eq, sCont_eq, sRet_eq, sRetN_eq, sExpr_eq, sSet_eq, sIf_eq, asgK_some, sAsg_eq, gNm_eq, gTp_tup, gAll2_nil, gAll2_cons, bNil_eq, bCons_eq, parK_two, sPar_eq, iSeq_eq, seqOf_tup, seqOf_lst, iRg_eq, vCallP_eq, callK_ret, vCallR_eq, callRK_ret, rNil_eq, rCons_eq, argOf_val, argOf_own, argOf_root, oNone_eq, oSome_eq, intOf_int, vSlice_eq, gSl_tup, gSl_lst, wipe_nil, wipe_cons, outP_val, outP_own, outP_ownT, outP_nx, outR_rt, outR_nx, vNewT_eq, vDisp1_eq, vTake_eq, takeK_some, ownTOf_own, iItemsT_eq, dictOf_own, sPutT_eq, putK1_some, putK2_some, vGetT_eq, getK1_some, getK2_some, keyOf_ints, forK_some, forK2_nx, forK2_ct, forK2_bk, forK2_rt, lcK_ok, dcK_ok, ttYes_eq, lcK3_some, dcK3_some, dcK4_some, vDrGet_eq, drgK_true, isRoot_root, vDrLen_eq, drlK_true, vDrCell_eq, drcK_true, drc2_int, drc3_some, sDrPut_eq, drpK_int, List.getElem?_cons_zero, List.getElem?_cons_succ, List.set_cons_zero, List.set_cons_succ, Option.map_some, Option.bind_some, if_true, if_false, ite_true, ite_false, iteM, iteMS, Bool.false_eq_true, small_eq, List.length_cons, List.length_nil, decide_eq_true_eq, eq_self, decide_true, Int.toNat_natCast, Nat.reduceLeDiff, Nat.reduceAdd, Nat.reduceMul, Nat.zero_le, Nat.zero_add]
    simp [List.filterMap_map, Function.comp_def]
  refine ⟨_, ns.map cellOf, e1, by simpa using h, rfl, ?_⟩
  refine ⟨(ns.map cellOf).sum.fmod 1000003, [.root, .val (.list ((ns.map cellOf).map PyData.int)), .emp], ⟨ns⟩, ?_, rfl⟩
  unfold eBegin
  simp only [bnd_eq, bind_ok, ret_eq, ofO_some, toD_eq, frz_val, frz_own, toB_eq, boolOf_b, vVar_eq, varK_val, varK_root, varK_own, vBin_eq, vUn_eq, vAnd_eq, vOr_eq, vNot_eq, tAnd_eq, tOr_eq, tNot_eq, vIfE_eq, aNil_eq, aCons_eq, vTup_eq, vLst_eq, vCB_eq, chain_eq, vIsi_eq, vIsi2_eq, noDict_int, noDict_tuple, noDict_list, noDict_none, noDict_bool, noDict_str, isT_int_int, isT_bool_int, isT_tuple_tuple, isT_tuple_int, isT_int_tuple, gAdd_int, gAdd_tup, gAdd_lst, gSub_int, gMul_int, gMul_tup, gMul_lst, gMod_int, gDiv_int, gPow_int, gLt_int, gLe_int, gGt_int, gGe_int, gEq_int, gNe_int, gNeg_int, gRev_tup, gIx_tup, gIx_lst, gLen_tup, gLen_lst, gAbs_int, gMin_int, gMax_int, gInt_int, gTuple_lst, gTuple_tup, gList_lst, gList_tup, gSum_ints, gAll_bools, gAny_bools, vIxV_eq, ixK_some, ixK2_some, slotD_val, slotD_own, vLenV_eq, lenK_some, tTruV_eq, truK_some, tTru_eq, truD_bool, truD_int, truD_tup, truD_lst, truD_none, vApp_eq, appK_some, appK2_some, ownOf_own, thenK_ok, thenS_eq, sSetIx_eq, setIxK_some, setIxK2_some, setIxK3_some, sSeq_eq, seqK_nx, seqK_rt, seqK_bk, seqK_ct, sNext_eq, sBreak_eq, sCont_eq, sRet_eq, sRetN_eq, sExpr_eq, sSet_eq, sIf_eq, asgK_some, sAsg_eq, gNm_eq, gTp_tup, gAll2_nil, gAll2_cons, bNil_eq, bCons_eq, parK_two, sPar_eq, iSeq_eq, seqOf_tup, seqOf_lst, iRg_eq, vCallP_eq, callK_ret, vCallR_eq, callRK_ret, rNil_eq, rCons_eq, argOf_val, argOf_own, argOf_root, oNone_eq, oSome_eq, intOf_int, vSlice_eq, gSl_tup, gSl_lst, wipe_nil, wipe_cons, outP_val, outP_own, outP_ownT, outP_nx, outR_rt, outR_nx, vNewT_eq, vDisp1_eq, vTake_eq, takeK_some, ownTOf_own, iItemsT_eq, dictOf_own, sPutT_eq, putK1_some, putK2_some, vGetT_eq, getK1_some, getK2_some, keyOf_ints, forK_some, forK2_nx, forK2_ct, forK2_bk, forK2_rt, lcK_ok, dcK_ok, ttYes_eq, lcK3_some, dcK3_some, dcK4_some, vDrGet_eq, drgK_true, isRoot_root, vDrLen_eq, drlK_true, vDrCell_eq, drcK_true, drc2_int, drc3_some, sDrPut_eq, drpK_int, List.getElem?_cons_zero, List.getElem?_cons_succ, List.set_cons_zero, List.set_cons_succ, Option.map_some, Option.bind_some, if_true, if_false, ite_true, ite_false, iteM, iteMS, Bool.false_eq_true, small_eq, List.length_cons, List.length_nil, decide_eq_true_eq, eq_self, decide_true, Int.toNat_natCast, Nat.reduceLeDiff, Nat.reduceAdd, Nat.reduceMul, Nat.zero_le, Nat.zero_add, gSum_ints, ne_eq]
  rfl
end
/-! ### a draw -/
def gDraw2 : MS Dr := (sSeq (sSet 2 (vDrCell 0 (vDrGet 0 .at_)))
  (sDrPut 0 .at_ (vBin gAdd (vDrGet 0 .at_) (ret (.val (.int 1))))))
def gDraw3 : MS Dr := (sSeq (sSet 3 (vBin gMod (vCB gInt (aCons (vBin gAdd (vBin gAdd (vBin gMul (vVar 2) (ret (.val (.int 48271)))) (vBin gMul (vDrGet 0 .count) (ret (.val (.int 69621))))) (ret (.val (.int 12345)))) aNil)) (ret (.val (.int 2305843009213693951)))))
  (sSeq (sSet 3 (vBin gMod (vCB gInt (aCons (vBin gAdd (vBin gAdd (vBin gMul (vVar 3) (vVar 3)) (vVar 2)) (vBin gMul (vDrGet 0 .count) (ret (.val (.int 7919))))) aNil)) (ret (.val (.int 2305843009213693951)))))
  (sSet 2 (vBin gMod (vCB gInt (aCons (vBin gAdd (vBin gAdd (vBin gMul (vBin gMul (vVar 3) (vVar 3)) (ret (.val (.int 16807)))) (vBin gMul (vVar 2) (ret (.val (.int 40014))))) (ret (.val (.int 1)))) aNil)) (ret (.val (.int 2305843009213693951)))))))
def gDraw1 : MS Dr := (sSeq (sSet 2 (vBin gAdd (vDrGet 0 .sum) (vDrGet 0 .count)))
  (sSeq (sIf (toB (vBin gLt (vDrGet 0 .at_) (vDrLen 0))) gDraw2 sNext)
  (sSeq (sIf (toB (vBin gLt (vVar 2) (vBin gPow (ret (.val (.int 10))) (ret (.val (.int 18)))))) gDraw3 sNext)
  (sDrPut 0 .left (vVar 2)))))
def gDraw : MS Dr := (sSeq (sDrPut 0 .count (vBin gAdd (vDrGet 0 .count) (ret (.val (.int 1)))))
  (sSeq (sIf (toB (vBin gLt (vDrGet 0 .left) (vVar 1))) gDraw1 sNext)
  (sSeq (sSet 4 (vBin gMod (vCB gInt (aCons (vDrGet 0 .left) aNil)) (vVar 1)))
  (sSeq (sDrPut 0 .left (vBin gDiv (vCB gInt (aCons (vDrGet 0 .left) aNil)) (vVar 1)))
  (sRet (vVar 4))))))
theorem fmod_in {i j : Int} (h : 0 < j) : 0 ≤ i.fmod j ∧ i.fmod j < j := ⟨Int.fmod_nonneg_of_pos i h, Int.fmod_lt_of_pos i h⟩
theorem draw3_val (many c : Int) (s t : Slot) (d : Dr) : ∃ s' c', gDraw3 [.root, .val (.int many), .val (.int c), s, t] d = .nx [.root, .val (.int many), .val (.int c'), s', t] d := by
  have p : (2305843009213693951 : Int) ≠ 0 := by decide
  have hm : ∀ x : Int, mulOk (x.fmod 2305843009213693951) (x.fmod 2305843009213693951) := fun x => mulOk_r _ _ (by
    have := fmod_in (i := x) (j := 2305843009213693951) (by decide)
    omega)
  have h1 := mulOk_r c 48271 (by decide)
  have h2 := mulOk_r (d.get .count) 69621 (by decide)
  have h3 := mulOk_r (d.get .count) 7919 (by decide)
  have h4 : ∀ x : Int, mulOk x 16807 := fun x => mulOk_r x 16807 (by decide)
  have h5 := mulOk_r c 40014 (by decide)
  unfold gDraw3
  simp only [bnd_eq, bind_ok, ret_eq, ofO_some, toD_eq, frz_val, frz_own, toB_eq, boolOf_b, vVar_eq, varK_val, varK_root, varK_own, vBin_eq, vUn_eq, vAnd_eq, vOr_eq, vNot_eq, tAnd_eq, tOr_eq, tNot_eq, vIfE_eq, aNil_eq, aCons_eq, vTup_eq, vLst_eq, vCB_eq, chain_eq, vIsi_eq, vIsi2_eq, noDict_int, noDict_tuple, noDict_list, noDict_none, noDict_bool, noDict_str, isT_int_int, isT_bool_int, isT_tuple_tuple, isT_tuple_int, isT_int_tuple, gAdd_int, gAdd_tup, gAdd_lst, gSub_int, gMul_int, gMul_tup, gMul_lst, gMod_int, gDiv_int, gPow_int, gLt_int, gLe_int, gGt_int, gGe_int, gEq_int, gNe_int, gNeg_int, gRev_tup, gIx_tup, gIx_lst, gLen_tup, gLen_lst, gAbs_int, gMin_int, gMax_int, gInt_int, gTuple_lst, gTuple_tup, gList_lst, gList_tup, gSum_ints, gAll_bools, gAny_bools, vIxV_eq, ixK_some, ixK2_some, slotD_val, slotD_own, vLenV_eq, lenK_some, tTruV_eq, truK_some, tTru_eq, truD_bool, truD_int, truD_tup, truD_lst, truD_none, vApp_eq, appK_some, appK2_some, ownOf_own, thenK_ok, thenS_eq, sSetIx_eq, setIxK_some, setIxK2_some, setIxK3_some, sSeq_eq, seqK_nx, seqK_rt, seqK_bk, seqK_ct, sNext_eq, sBreak_eq, sCont_eq, sRet_eq, sRetN_eq, sExpr_eq, sSet_eq, sIf_eq, asgK_some, sAsg_eq, gNm_eq, gTp_tup, gAll2_nil, gAll2_cons, bNil_eq, bCons_eq, parK_two, sPar_eq, iSeq_eq, seqOf_tup, seqOf_lst, iRg_eq, vCallP_eq, callK_ret, vCallR_eq, callRK_ret, rNil_eq, rCons_eq, argOf_val, argOf_own, argOf_root, oNone_eq, oSome_eq, intOf_int, vSlice_eq, gSl_tup, gSl_lst, wipe_nil, wipe_cons, outP_val, outP_own, outP_ownT, outP_nx, outR_rt, outR_nx, vNewT_eq, vDisp1_eq, vTake_eq, takeK_some, ownTOf_own, iItemsT_eq, dictOf_own, sPutT_eq, putK1_some, putK2_some, vGetT_eq, getK1_some, getK2_some, keyOf_ints, forK_some, forK2_nx, forK2_ct, forK2_bk, forK2_rt, lcK_ok, dcK_ok, ttYes_eq, lcK3_some, dcK3_some, dcK4_some, vDrGet_eq, drgK_true, isRoot_root, vDrLen_eq, drlK_true, vDrCell_eq, drcK_true, drc2_int, drc3_some, sDrPut_eq, drpK_int, List.getElem?_cons_zero, List.getElem?_cons_succ, List.set_cons_zero, List.set_cons_succ, Option.map_some, Option.bind_some, if_true, if_false, ite_true, ite_false, iteM, iteMS, Bool.false_eq_true, small_eq, List.length_cons, List.length_nil, decide_eq_true_eq, eq_self, decide_true, Int.toNat_natCast, Nat.reduceLeDiff, Nat.reduceAdd, Nat.reduceMul, Nat.zero_le, Nat.zero_add, p, ne_eq, not_false_eq_true, if_pos h1, if_pos h2, if_pos h3, hm, h4, if_pos h5]
  exact ⟨_, _, rfl⟩
theorem draw2_val (many c : Int) (s t : Slot) (d : Dr) (h0 : DrOk d) (h : d.at_ < d.cells.length) : ∃ c' d', gDraw2 [.root, .val (.int many), .val (.int c), s, t] d = .nx [.root, .val (.int many), .val (.int c'), s, t] d' ∧ DrOk d' := by
  have ha := h0.at0
  have hx : ∃ x, atI d.cells (d.get .at_) = some x := by
    refine ⟨d.cells[d.at_.toNat]'(by omega), ?_⟩
    show (ixN d.cells.length d.at_).bind _ = _
    unfold ixN
    rw [if_pos ha, if_pos h]
    exact List.getElem?_eq_getElem _
  obtain ⟨x, hx⟩ := hx
  have hf : DKey.fine (d.get .at_ + 1) .at_ = true := decide_eq_true (by show 0 ≤ d.at_ + 1; omega)
  unfold gDraw2
  simp only [bnd_eq, bind_ok, ret_eq, ofO_some, toD_eq, frz_val, frz_own, toB_eq, boolOf_b, vVar_eq, varK_val, varK_root, varK_own, vBin_eq, vUn_eq, vAnd_eq, vOr_eq, vNot_eq, tAnd_eq, tOr_eq, tNot_eq, vIfE_eq, aNil_eq, aCons_eq, vTup_eq, vLst_eq, vCB_eq, chain_eq, vIsi_eq, vIsi2_eq, noDict_int, noDict_tuple, noDict_list, noDict_none, noDict_bool, noDict_str, isT_int_int, isT_bool_int, isT_tuple_tuple, isT_tuple_int, isT_int_tuple, gAdd_int, gAdd_tup, gAdd_lst, gSub_int, gMul_int, gMul_tup, gMul_lst, gMod_int, gDiv_int, gPow_int, gLt_int, gLe_int, gGt_int, gGe_int, gEq_int, gNe_int, gNeg_int, gRev_tup, gIx_tup, gIx_lst, gLen_tup, gLen_lst, gAbs_int, gMin_int, gMax_int, gInt_int, gTuple_lst, gTuple_tup, gList_lst, gList_tup, gSum_ints, gAll_bools, gAny_bools, vIxV_eq, ixK_some, ixK2_some, slotD_val, slotD_own, vLenV_eq, lenK_some, tTruV_eq, truK_some, tTru_eq, truD_bool, truD_int, truD_tup, truD_lst, truD_none, vApp_eq, appK_some, appK2_some, ownOf_own, thenK_ok, thenS_eq, sSetIx_eq, setIxK_some, setIxK2_some, setIxK3_some, sSeq_eq, seqK_nx, seqK_rt, seqK_bk, seqK_ct, sNext_eq, sBreak_eq, sCont_eq, sRet_eq, sRetN_eq, sExpr_eq, sSet_eq, sIf_eq, asgK_some, sAsg_eq, gNm_eq, gTp_tup, gAll2_nil, gAll2_cons, bNil_eq, bCons_eq, parK_two, sPar_eq, iSeq_eq, seqOf_tup, seqOf_lst, iRg_eq, vCallP_eq, callK_ret, vCallR_eq, callRK_ret, rNil_eq, rCons_eq, argOf_val, argOf_own, argOf_root, oNone_eq, oSome_eq, intOf_int, vSlice_eq, gSl_tup, gSl_lst, wipe_nil, wipe_cons, outP_val, outP_own, outP_ownT, outP_nx, outR_rt, outR_nx, vNewT_eq, vDisp1_eq, vTake_eq, takeK_some, ownTOf_own, iItemsT_eq, dictOf_own, sPutT_eq, putK1_some, putK2_some, vGetT_eq, getK1_some, getK2_some, keyOf_ints, forK_some, forK2_nx, forK2_ct, forK2_bk, forK2_rt, lcK_ok, dcK_ok, ttYes_eq, lcK3_some, dcK3_some, dcK4_some, vDrGet_eq, drgK_true, isRoot_root, vDrLen_eq, drlK_true, vDrCell_eq, drcK_true, drc2_int, drc3_some, sDrPut_eq, drpK_int, List.getElem?_cons_zero, List.getElem?_cons_succ, List.set_cons_zero, List.set_cons_succ, Option.map_some, Option.bind_some, if_true, if_false, ite_true, ite_false, iteM, iteMS, Bool.false_eq_true, small_eq, List.length_cons, List.length_nil, decide_eq_true_eq, eq_self, decide_true, Int.toNat_natCast, Nat.reduceLeDiff, Nat.reduceAdd, Nat.reduceMul, Nat.zero_le, Nat.zero_add, hx, hf, and_self]
  exact ⟨_, _, rfl, ⟨by show 0 ≤ d.at_ + 1; omega, h0.len⟩⟩
theorem draw1_val (many : Int) (s t u : Slot) (d : Dr) (h0 : DrOk d) : ∃ s' t' u' d', gDraw1 [.root, .val (.int many), s, t, u] d = .nx [.root, .val (.int many), s', t', u'] d' ∧ DrOk d' := by
  have hp : (0 : Int) ≤ 18 ∧ (18 : Int) ≤ 1000 ∧ (10 : Int).natAbs < 2 ^ 64 := by decide
  unfold gDraw1
  have e1 : ∃ c d', sIf (toB (vBin gLt (vDrGet 0 .at_) (vDrLen 0))) gDraw2 sNext [.root, .val (.int many), .val (.int (d.get .sum + d.get .count)), t, u] d = .nx [.root, .val (.int many), .val (.int c), t, u] d' ∧ DrOk d' := by
    by_cases h : d.at_ < d.cells.length
    · obtain ⟨c', d', e, h'⟩ := draw2_val many (d.get .sum + d.get .count) t u d h0 h
      have h2 : d.get .at_ < d.cells.length := h
      refine ⟨c', d', ?_, h'⟩
      simp only [bnd_eq, bind_ok, ret_eq, ofO_some, toD_eq, frz_val, frz_own, toB_eq, boolOf_b, vVar_eq, varK_val, varK_root, varK_own, vBin_eq, vUn_eq, vAnd_eq, vOr_eq, vNot_eq, tAnd_eq, tOr_eq, tNot_eq, vIfE_eq, aNil_eq, aCons_eq, vTup_eq, vLst_eq, vCB_eq, chain_eq, vIsi_eq, vIsi2_eq, noDict_int, noDict_tuple, noDict_list, noDict_none, noDict_bool, noDict_str, isT_int_int, isT_bool_int, isT_tuple_tuple, isT_tuple_int, isT_int_tuple, gAdd_int, gAdd_tup, gAdd_lst, gSub_int, gMul_int, gMul_tup, gMul_lst, gMod_int, gDiv_int, gPow_int, gLt_int, gLe_int, gGt_int, gGe_int, gEq_int, gNe_int, gNeg_int, gRev_tup, gIx_tup, gIx_lst, gLen_tup, gLen_lst, gAbs_int, gMin_int, gMax_int, gInt_int, gTuple_lst, gTuple_tup, gList_lst, gList_tup, gSum_ints, gAll_bools, gAny_bools, vIxV_eq, ixK_some, ixK2_some, slotD_val, slotD_own, vLenV_eq, lenK_some, tTruV_eq, truK_some, tTru_eq, truD_bool, truD_int, truD_tup, truD_lst, truD_none, vApp_eq, appK_some, appK2_some, ownOf_own, thenK_ok, thenS_eq, sSetIx_eq, setIxK_some, setIxK2_some, setIxK3_some, sSeq_eq, seqK_nx, seqK_rt, seqK_bk, seqK_ct, sNext_eq, sBreak_eq, sCont_eq, sRet_eq, sRetN_eq, sExpr_eq, sSet_eq, sIf_eq, asgK_some, sAsg_eq, gNm_eq, gTp_tup, gAll2_nil, gAll2_cons, bNil_eq, bCons_eq, parK_two, sPar_eq, iSeq_eq, seqOf_tup, seqOf_lst, iRg_eq, vCallP_eq, callK_ret, vCallR_eq, callRK_ret, rNil_eq, rCons_eq, argOf_val, argOf_own, argOf_root, oNone_eq, oSome_eq, intOf_int, vSlice_eq, gSl_tup, gSl_lst, wipe_nil, wipe_cons, outP_val, outP_own, outP_ownT, outP_nx, outR_rt, outR_nx, vNewT_eq, vDisp1_eq, vTake_eq, takeK_some, ownTOf_own, iItemsT_eq, dictOf_own, sPutT_eq, putK1_some, putK2_some, vGetT_eq, getK1_some, getK2_some, keyOf_ints, forK_some, forK2_nx, forK2_ct, forK2_bk, forK2_rt, lcK_ok, dcK_ok, ttYes_eq, lcK3_some, dcK3_some, dcK4_some, vDrGet_eq, drgK_true, isRoot_root, vDrLen_eq, drlK_true, vDrCell_eq, drcK_true, drc2_int, drc3_some, sDrPut_eq, drpK_int, List.getElem?_cons_zero, List.getElem?_cons_succ, List.set_cons_zero, List.set_cons_succ, Option.map_some, Option.bind_some, if_true, if_false, ite_true, ite_false, iteM, iteMS, Bool.false_eq_true, small_eq, List.length_cons, List.length_nil, decide_eq_true_eq, eq_self, decide_true, Int.toNat_natCast, Nat.reduceLeDiff, Nat.reduceAdd, Nat.reduceMul, Nat.zero_le, Nat.zero_add, h2, e]
    · have h2 : ¬ d.get .at_ < d.cells.length := h
      refine ⟨d.get .sum + d.get .count, d, ?_, h0⟩
      simp only [bnd_eq, bind_ok, ret_eq, ofO_some, toD_eq, frz_val, frz_own, toB_eq, boolOf_b, vVar_eq, varK_val, varK_root, varK_own, vBin_eq, vUn_eq, vAnd_eq, vOr_eq, vNot_eq, tAnd_eq, tOr_eq, tNot_eq, vIfE_eq, aNil_eq, aCons_eq, vTup_eq, vLst_eq, vCB_eq, chain_eq, vIsi_eq, vIsi2_eq, noDict_int, noDict_tuple, noDict_list, noDict_none, noDict_bool, noDict_str, isT_int_int, isT_bool_int, isT_tuple_tuple, isT_tuple_int, isT_int_tuple, gAdd_int, gAdd_tup, gAdd_lst, gSub_int, gMul_int, gMul_tup, gMul_lst, gMod_int, gDiv_int, gPow_int, gLt_int, gLe_int, gGt_int, gGe_int, gEq_int, gNe_int, gNeg_int, gRev_tup, gIx_tup, gIx_lst, gLen_tup, gLen_lst, gAbs_int, gMin_int, gMax_int, gInt_int, gTuple_lst, gTuple_tup, gList_lst, gList_tup, gSum_ints, gAll_bools, gAny_bools, vIxV_eq, ixK_some, ixK2_some, slotD_val, slotD_own, vLenV_eq, lenK_some, tTruV_eq, truK_some, tTru_eq, truD_bool, truD_int, truD_tup, truD_lst, truD_none, vApp_eq, appK_some, appK2_some, ownOf_own, thenK_ok, thenS_eq, sSetIx_eq, setIxK_some, setIxK2_some, setIxK3_some, sSeq_eq, seqK_nx, seqK_rt, seqK_bk, seqK_ct, sNext_eq, sBreak_eq, sCont_eq, sRet_eq, sRetN_eq, sExpr_eq, sSet_eq, sIf_eq, asgK_some, sAsg_eq, gNm_eq, gTp_tup, gAll2_nil, gAll2_cons, bNil_eq, bCons_eq, parK_two, sPar_eq, iSeq_eq, seqOf_tup, seqOf_lst, iRg_eq, vCallP_eq, callK_ret, vCallR_eq, callRK_ret, rNil_eq, rCons_eq, argOf_val, argOf_own, argOf_root, oNone_eq, oSome_eq, intOf_int, vSlice_eq, gSl_tup, gSl_lst, wipe_nil, wipe_cons, outP_val, outP_own, outP_ownT, outP_nx, outR_rt, outR_nx, vNewT_eq, vDisp1_eq, vTake_eq, takeK_some, ownTOf_own, iItemsT_eq, dictOf_own, sPutT_eq, putK1_some, putK2_some, vGetT_eq, getK1_some, getK2_some, keyOf_ints, forK_some, forK2_nx, forK2_ct, forK2_bk, forK2_rt, lcK_ok, dcK_ok, ttYes_eq, lcK3_some, dcK3_some, dcK4_some, vDrGet_eq, drgK_true, isRoot_root, vDrLen_eq, drlK_true, vDrCell_eq, drcK_true, drc2_int, drc3_some, sDrPut_eq, drpK_int, List.getElem?_cons_zero, List.getElem?_cons_succ, List.set_cons_zero, List.set_cons_succ, Option.map_some, Option.bind_some, if_true, if_false, ite_true, ite_false, iteM, iteMS, Bool.false_eq_true, small_eq, List.length_cons, List.length_nil, decide_eq_true_eq, eq_self, decide_true, Int.toNat_natCast, Nat.reduceLeDiff, Nat.reduceAdd, Nat.reduceMul, Nat.zero_le, Nat.zero_add, h2]
  obtain ⟨c, d1, e1, h1⟩ := e1
  have e2 : ∃ c' t', sIf (toB (vBin gLt (vVar 2) (vBin gPow (ret (.val (.int 10))) (ret (.val (.int 18)))))) gDraw3 sNext [.root, .val (.int many), .val (.int c), t, u] d1 = .nx [.root, .val (.int many), .val (.int c'), t', u] d1 := by
    by_cases h : c < (10 : Int) ^ (18 : Int).toNat
    · obtain ⟨t', c', e⟩ := draw3_val many c t u d1
      refine ⟨c', t', ?_⟩
      simp only [bnd_eq, bind_ok, ret_eq, ofO_some, toD_eq, frz_val, frz_own, toB_eq, boolOf_b, vVar_eq, varK_val, varK_root, varK_own, vBin_eq, vUn_eq, vAnd_eq, vOr_eq, vNot_eq, tAnd_eq, tOr_eq, tNot_eq, vIfE_eq, aNil_eq, aCons_eq, vTup_eq, vLst_eq, vCB_eq, chain_eq, vIsi_eq, vIsi2_eq, noDict_int, noDict_tuple, noDict_list, noDict_none, noDict_bool, noDict_str, isT_int_int, isT_bool_int, isT_tuple_tuple, isT_tuple_int, isT_int_tuple, gAdd_int, gAdd_tup, gAdd_lst, gSub_int, gMul_int, gMul_tup, gMul_lst, gMod_int, gDiv_int, gPow_int, gLt_int, gLe_int, gGt_int, gGe_int, gEq_int, gNe_int, gNeg_int, gRev_tup, gIx_tup, gIx_lst, gLen_tup, gLen_lst, gAbs_int, gMin_int, gMax_int, gInt_int, gTuple_lst, gTuple_tup, gList_lst, gList_tup, gSum_ints, gAll_bools, gAny_bools, vIxV_eq, ixK_some, ixK2_some, slotD_val, slotD_own, vLenV_eq, lenK_some, tTruV_eq, truK_some, tTru_eq, truD_bool, truD_int, truD_tup, truD_lst, truD_none, vApp_eq, appK_some, appK2_some, ownOf_own, thenK_ok, thenS_eq, sSetIx_eq, setIxK_some, setIxK2_some, setIxK3_some, sSeq_eq, seqK_nx, seqK_rt, seqK_bk, seqK_ct, sNext_eq, sBreak_eq, sCont_eq, sRet_eq, sRetN_eq, sExpr_eq, sSet_eq, sIf_eq, asgK_some, sAsg_eq, gNm_eq, gTp_tup, gAll2_nil, gAll2_cons, bNil_eq, bCons_eq, parK_two, sPar_eq, iSeq_eq, seqOf_tup, seqOf_lst, iRg_eq, vCallP_eq, callK_ret, vCallR_eq, callRK_ret, rNil_eq, rCons_eq, argOf_val, argOf_own, argOf_root, oNone_eq, oSome_eq, intOf_int, vSlice_eq, gSl_tup, gSl_lst, wipe_nil, wipe_cons, outP_val, outP_own, outP_ownT, outP_nx, outR_rt, outR_nx, vNewT_eq, vDisp1_eq, vTake_eq, takeK_some, ownTOf_own, iItemsT_eq, dictOf_own, sPutT_eq, putK1_some, putK2_some, vGetT_eq, getK1_some, getK2_some, keyOf_ints, forK_some, forK2_nx, forK2_ct, forK2_bk, forK2_rt, lcK_ok, dcK_ok, ttYes_eq, lcK3_some, dcK3_some, dcK4_some, vDrGet_eq, drgK_true, isRoot_root, vDrLen_eq, drlK_true, vDrCell_eq, drcK_true, drc2_int, drc3_some, sDrPut_eq, drpK_int, List.getElem?_cons_zero, List.getElem?_cons_succ, List.set_cons_zero, List.set_cons_succ, Option.map_some, Option.bind_some, if_true, if_false, ite_true, ite_false, iteM, iteMS, Bool.false_eq_true, small_eq, List.length_cons, List.length_nil, decide_eq_true_eq, eq_self, decide_true, Int.toNat_natCast, Nat.reduceLeDiff, Nat.reduceAdd, Nat.reduceMul, Nat.zero_le, Nat.zero_add, if_pos hp, h, e]
    · refine ⟨c, t, ?_⟩
      simp only [bnd_eq, bind_ok, ret_eq, ofO_some, toD_eq, frz_val, frz_own, toB_eq, boolOf_b, vVar_eq, varK_val, varK_root, varK_own, vBin_eq, vUn_eq, vAnd_eq, vOr_eq, vNot_eq, tAnd_eq, tOr_eq, tNot_eq, vIfE_eq, aNil_eq, aCons_eq, vTup_eq, vLst_eq, vCB_eq, chain_eq, vIsi_eq, vIsi2_eq, noDict_int, noDict_tuple, noDict_list, noDict_none, noDict_bool, noDict_str, isT_int_int, isT_bool_int, isT_tuple_tuple, isT_tuple_int, isT_int_tuple, gAdd_int, gAdd_tup, gAdd_lst, gSub_int, gMul_int, gMul_tup, gMul_lst, gMod_int, gDiv_int, gPow_int, gLt_int, gLe_int, gGt_int, gGe_int, gEq_int, gNe_int, gNeg_int, gRev_tup, gIx_tup, gIx_lst, gLen_tup, gLen_lst, gAbs_int, gMin_int, gMax_int, gInt_int, gTuple_lst, gTuple_tup, gList_lst, gList_tup, gSum_ints, gAll_bools, gAny_bools, vIxV_eq, ixK_some, ixK2_some, slotD_val, slotD_own, vLenV_eq, lenK_some, tTruV_eq, truK_some, tTru_eq, truD_bool, truD_int, truD_tup, truD_lst, truD_none, vApp_eq, appK_some, appK2_some, ownOf_own, thenK_ok, thenS_eq, sSetIx_eq, setIxK_some, setIxK2_some, setIxK3_some, sSeq_eq, seqK_nx, seqK_rt, seqK_bk, seqK_ct, sNext_eq, sBreak_eq, sCont_eq, sRet_eq, sRetN_eq, sExpr_eq, sSet_eq, sIf_eq, asgK_some, sAsg_eq, gNm_eq, gTp_tup, gAll2_nil, gAll2_cons, bNil_eq, bCons_eq, parK_two, sPar_eq, iSeq_eq, seqOf_tup, seqOf_lst, iRg_eq, vCallP_eq, callK_ret, vCallR_eq, callRK_ret, rNil_eq, rCons_eq, argOf_val, argOf_own, argOf_root, oNone_eq, oSome_eq, intOf_int, vSlice_eq, gSl_tup, gSl_lst, wipe_nil, wipe_cons, outP_val, outP_own, outP_ownT, outP_nx, outR_rt, outR_nx, vNewT_eq, vDisp1_eq, vTake_eq, takeK_some, ownTOf_own, iItemsT_eq, dictOf_own, sPutT_eq, putK1_some, putK2_some, vGetT_eq, getK1_some, getK2_some, keyOf_ints, forK_some, forK2_nx, forK2_ct, forK2_bk, forK2_rt, lcK_ok, dcK_ok, ttYes_eq, lcK3_some, dcK3_some, dcK4_some, vDrGet_eq, drgK_true, isRoot_root, vDrLen_eq, drlK_true, vDrCell_eq, drcK_true, drc2_int, drc3_some, sDrPut_eq, drpK_int, List.getElem?_cons_zero, List.getElem?_cons_succ, List.set_cons_zero, List.set_cons_succ, Option.map_some, Option.bind_some, if_true, if_false, ite_true, ite_false, iteM, iteMS, Bool.false_eq_true, small_eq, List.length_cons, List.length_nil, decide_eq_true_eq, eq_self, decide_true, Int.toNat_natCast, Nat.reduceLeDiff, Nat.reduceAdd, Nat.reduceMul, Nat.zero_le, Nat.zero_add, if_pos hp, h]
  obtain ⟨c', t', e2⟩ := e2
  generalize sIf (toB (vBin gLt (vDrGet 0 .at_) (vDrLen 0))) gDraw2 sNext = G1 at e1 ⊢
  generalize sIf (toB (vBin gLt (vVar 2) (vBin gPow (ret (.val (.int 10))) (ret (.val (.int 18)))))) gDraw3 sNext = G2 at e2 ⊢
  have hf : DKey.fine c' .left = true := rfl
  simp only [bnd_eq, bind_ok, ret_eq, ofO_some, toD_eq, frz_val, frz_own, toB_eq, boolOf_b, vVar_eq, varK_val, varK_root, varK_own, vBin_eq, vUn_eq, vAnd_eq, vOr_eq, vNot_eq, tAnd_eq, tOr_eq, tNot_eq, vIfE_eq, aNil_eq, aCons_eq, vTup_eq, vLst_eq, vCB_eq, chain_eq, vIsi_eq, vIsi2_eq, noDict_int, noDict_tuple, noDict_list, noDict_none, noDict_bool, noDict_str, isT_int_int, isT_bool_int, isT_tuple_tuple, isT_tuple_int, isT_int_tuple, gAdd_int, gAdd_tup, gAdd_lst, gSub_int, gMul_int, gMul_tup, gMul_lst, gMod_int, gDiv_int, gPow_int, gLt_int, gLe_int, gGt_int, gGe_int, gEq_int, gNe_int, gNeg_int, gRev_tup, gIx_tup, gIx_lst, gLen_tup, gLen_lst, gAbs_int, gMin_int, gMax_int, gInt_int, gTuple_lst, gTuple_tup, gList_lst, gList_tup, gSum_ints, gAll_bools, gAny_bools, vIxV_eq, ixK_some, ixK2_some, slotD_val, slotD_own, vLenV_eq, lenK_some, tTruV_eq, truK_some, tTru_eq, truD_bool, truD_int, truD_tup, truD_lst, truD_none, vApp_eq, appK_some, appK2_some, ownOf_own, thenK_ok, thenS_eq, sSetIx_eq, setIxK_some, setIxK2_some, setIxK3_some, sSeq_eq, seqK_nx, seqK_rt, seqK_bk, seqK_ct, sNext_eq, sBreak_eq, sCont_eq, sRet_eq, sRetN_eq, sExpr_eq, sSet_eq, sIf_eq, asgK_some, sAsg_eq, gNm_eq, gTp_tup, gAll2_nil, gAll2_cons, bNil_eq, bCons_eq, parK_two, sPar_eq, iSeq_eq, seqOf_tup, seqOf_lst, iRg_eq, vCallP_eq, callK_ret, vCallR_eq, callRK_ret, rNil_eq, rCons_eq, argOf_val, argOf_own, argOf_root, oNone_eq, oSome_eq, intOf_int, vSlice_eq, gSl_tup, gSl_lst, wipe_nil, wipe_cons, outP_val, outP_own, outP_ownT, outP_nx, outR_rt, outR_nx, vNewT_eq, vDisp1_eq, vTake_eq, takeK_some, ownTOf_own, iItemsT_eq, dictOf_own, sPutT_eq, putK1_some, putK2_some, vGetT_eq, getK1_some, getK2_some, keyOf_ints, forK_some, forK2_nx, forK2_ct, forK2_bk, forK2_rt, lcK_ok, dcK_ok, ttYes_eq, lcK3_some, dcK3_some, dcK4_some, vDrGet_eq, drgK_true, isRoot_root, vDrLen_eq, drlK_true, vDrCell_eq, drcK_true, drc2_int, drc3_some, sDrPut_eq, drpK_int, List.getElem?_cons_zero, List.getElem?_cons_succ, List.set_cons_zero, List.set_cons_succ, Option.map_some, Option.bind_some, if_true, if_false, ite_true, ite_false, iteM, iteMS, Bool.false_eq_true, small_eq, List.length_cons, List.length_nil, decide_eq_true_eq, eq_self, decide_true, Int.toNat_natCast, Nat.reduceLeDiff, Nat.reduceAdd, Nat.reduceMul, Nat.zero_le, Nat.zero_add, sSet_eq, e1, e2, hf, and_self]
  exact ⟨_, _, _, _, rfl, ⟨h1.at0, h1.len⟩⟩
/-- a draw: a number from 0 to many - 1 -/
theorem draw_val (many : Int) (d : Dr) (h0 : DrOk d) (hm : 0 < many) (hb : many < 1000000) : ∃ n d', runR 5 gDraw [.root, .val (.int many)] d = .ret (.val (.int n)) d' ∧ 0 ≤ n ∧ n < many ∧ DrOk d' := by
  have hf : ∀ c, DKey.fine c .count = true := fun _ => rfl
  have hf2 : ∀ c, DKey.fine c .left = true := fun _ => rfl
  have e1 : ∃ s t u d', sIf (toB (vBin gLt (vDrGet 0 .left) (vVar 1))) gDraw1 sNext [.root, .val (.int many), .emp, .emp, .emp] (d.set (d.get .count + 1) .count) = .nx [.root, .val (.int many), s, t, u] d' ∧ DrOk d' := by
    have h1 : DrOk (d.set (d.get .count + 1) .count) := ⟨h0.at0, h0.len⟩
    generalize d.set (d.get .count + 1) .count = d1 at h1
    by_cases h : d1.get .left < many
    · obtain ⟨s', t', u', d', e, h'⟩ := draw1_val many .emp .emp .emp d1 h1
      refine ⟨s', t', u', d', ?_, h'⟩
      simp only [bnd_eq, bind_ok, ret_eq, ofO_some, toD_eq, frz_val, frz_own, toB_eq, boolOf_b, vVar_eq, varK_val, varK_root, varK_own, vBin_eq, vUn_eq, vAnd_eq, vOr_eq, vNot_eq, tAnd_eq, tOr_eq, tNot_eq, vIfE_eq, aNil_eq, aCons_eq, vTup_eq, vLst_eq, vCB_eq, chain_eq, vIsi_eq, vIsi2_eq, noDict_int, noDict_tuple, noDict_list, noDict_none, noDict_bool, noDict_str, isT_int_int, isT_bool_int, isT_tuple_tuple, isT_tuple_int, isT_int_tuple, gAdd_int, gAdd_tup, gAdd_lst, gSub_int, gMul_int, gMul_tup, gMul_lst, gMod_int, gDiv_int, gPow_int, gLt_int, gLe_int, gGt_int, gGe_int, gEq_int, gNe_int, gNeg_int, gRev_tup, gIx_tup, gIx_lst, gLen_tup, gLen_lst, gAbs_int, gMin_int, gMax_int, gInt_int, gTuple_lst, gTuple_tup, gList_lst, gList_tup, gSum_ints, gAll_bools, gAny_bools, vIxV_eq, ixK_some, ixK2_some, slotD_val, slotD_own, vLenV_eq, lenK_some, tTruV_eq, truK_some, tTru_eq, truD_bool, truD_int, truD_tup, truD_lst, truD_none, vApp_eq, appK_some, appK2_some, ownOf_own, thenK_ok, thenS_eq, sSetIx_eq, setIxK_some, setIxK2_some, setIxK3_some, sSeq_eq, seqK_nx, seqK_rt, seqK_bk, seqK_ct, sNext_eq, sBreak_eq, sCont_eq, sRet_eq, sRetN_eq, sExpr_eq, sSet_eq, sIf_eq, asgK_some, sAsg_eq, gNm_eq, gTp_tup, gAll2_nil, gAll2_cons, bNil_eq, bCons_eq, parK_two, sPar_eq, iSeq_eq, seqOf_tup, seqOf_lst, iRg_eq, vCallP_eq, callK_ret, vCallR_eq, callRK_ret, rNil_eq, rCons_eq, argOf_val, argOf_own, argOf_root, oNone_eq, oSome_eq, intOf_int, vSlice_eq, gSl_tup, gSl_lst, wipe_nil, wipe_cons, outP_val, outP_own, outP_ownT, outP_nx, outR_rt, outR_nx, vNewT_eq, vDisp1_eq, vTake_eq, takeK_some, ownTOf_own, iItemsT_eq, dictOf_own, sPutT_eq, putK1_some, putK2_some, vGetT_eq, getK1_some, getK2_some, keyOf_ints, forK_some, forK2_nx, forK2_ct, forK2_bk, forK2_rt, lcK_ok, dcK_ok, ttYes_eq, lcK3_some, dcK3_some, dcK4_some, vDrGet_eq, drgK_true, isRoot_root, vDrLen_eq, drlK_true, vDrCell_eq, drcK_true, drc2_int, drc3_some, sDrPut_eq, drpK_int, List.getElem?_cons_zero, List.getElem?_cons_succ, List.set_cons_zero, List.set_cons_succ, Option.map_some, Option.bind_some, if_true, if_false, ite_true, ite_false, iteM, iteMS, Bool.false_eq_true, small_eq, List.length_cons, List.length_nil, decide_eq_true_eq, eq_self, decide_true, Int.toNat_natCast, Nat.reduceLeDiff, Nat.reduceAdd, Nat.reduceMul, Nat.zero_le, Nat.zero_add, h, e]
    · refine ⟨.emp, .emp, .emp, d1, ?_, h1⟩
      simp only [bnd_eq, bind_ok, ret_eq, ofO_some, toD_eq, frz_val, frz_own, toB_eq, boolOf_b, vVar_eq, varK_val, varK_root, varK_own, vBin_eq, vUn_eq, vAnd_eq, vOr_eq, vNot_eq, tAnd_eq, tOr_eq, tNot_eq, vIfE_eq, aNil_eq, aCons_eq, vTup_eq, vLst_eq, vCB_eq, chain_eq, vIsi_eq, vIsi2_eq, noDict_int, noDict_tuple, noDict_list, noDict_none, noDict_bool, noDict_str, isT_int_int, isT_bool_int, isT_tuple_tuple, isT_tuple_int, isT_int_tuple, gAdd_int, gAdd_tup, gAdd_lst, gSub_int, gMul_int, gMul_tup, gMul_lst, gMod_int, gDiv_int, gPow_int, gLt_int, gLe_int, gGt_int, gGe_int, gEq_int, gNe_int, gNeg_int, gRev_tup, gIx_tup, gIx_lst, gLen_tup, gLen_lst, gAbs_int, gMin_int, gMax_int, gInt_int, gTuple_lst, gTuple_tup, gList_lst, gList_tup, gSum_ints, gAll_bools, gAny_bools, vIxV_eq, ixK_some, ixK2_some, slotD_val, slotD_own, vLenV_eq, lenK_some, tTruV_eq, truK_some, tTru_eq, truD_bool, truD_int, truD_tup, truD_lst, truD_none, vApp_eq, appK_some, appK2_some, ownOf_own, thenK_ok, thenS_eq, sSetIx_eq, setIxK_some, setIxK2_some, setIxK3_some, sSeq_eq, seqK_nx, seqK_rt, seqK_bk, seqK_ct, sNext_eq, sBreak_eq, sCont_eq, sRet_eq, sRetN_eq, sExpr_eq, sSet_eq, sIf_eq, asgK_some, sAsg_eq, gNm_eq, gTp_tup, gAll2_nil, gAll2_cons, bNil_eq, bCons_eq, parK_two, sPar_eq, iSeq_eq, seqOf_tup, seqOf_lst, iRg_eq, vCallP_eq, callK_ret, vCallR_eq, callRK_ret, rNil_eq, rCons_eq, argOf_val, argOf_own, argOf_root, oNone_eq, oSome_eq, intOf_int, vSlice_eq, gSl_tup, gSl_lst, wipe_nil, wipe_cons, outP_val, outP_own, outP_ownT, outP_nx, outR_rt, outR_nx, vNewT_eq, vDisp1_eq, vTake_eq, takeK_some, ownTOf_own, iItemsT_eq, dictOf_own, sPutT_eq, putK1_some, putK2_some, vGetT_eq, getK1_some, getK2_some, keyOf_ints, forK_some, forK2_nx, forK2_ct, forK2_bk, forK2_rt, lcK_ok, dcK_ok, ttYes_eq, lcK3_some, dcK3_some, dcK4_some, vDrGet_eq, drgK_true, isRoot_root, vDrLen_eq, drlK_true, vDrCell_eq, drcK_true, drc2_int, drc3_some, sDrPut_eq, drpK_int, List.getElem?_cons_zero, List.getElem?_cons_succ, List.set_cons_zero, List.set_cons_succ, Option.map_some, Option.bind_some, if_true, if_false, ite_true, ite_false, iteM, iteMS, Bool.false_eq_true, small_eq, List.length_cons, List.length_nil, decide_eq_true_eq, eq_self, decide_true, Int.toNat_natCast, Nat.reduceLeDiff, Nat.reduceAdd, Nat.reduceMul, Nat.zero_le, Nat.zero_add, h]
  obtain ⟨s, t, u, d1, e1, h1⟩ := e1
  have hm0 : many ≠ 0 := by omega
  have hl : many ≠ 0 ∧ many.natAbs.log2 < 9000 := ⟨hm0, by
    have hn : many.natAbs < 2 ^ 20 := by omega
    have h2 : many.natAbs ≠ 0 := by omega
    have := (Nat.log2_lt h2).mpr hn
    omega⟩
  refine ⟨(d1.get .left).fmod many, d1.set ((d1.get .left).fdiv many) .left, ?_, (fmod_in hm).1, (fmod_in hm).2, ⟨h1.at0, h1.len⟩⟩
  rw [runR_eq]
  show outR (gDraw [.root, .val (.int many), .emp, .emp, .emp] d) = _
  unfold gDraw
  generalize sIf (toB (vBin gLt (vDrGet 0 .left) (vVar 1))) gDraw1 sNext = G1 at e1 ⊢
  simp only [bnd_eq, bind_ok, ret_eq, ofO_some, toD_eq, frz_val, frz_own, toB_eq, boolOf_b, vVar_eq, varK_val, varK_root, varK_own, vBin_eq, vUn_eq, vAnd_eq, vOr_eq, vNot_eq, tAnd_eq, tOr_eq, tNot_eq, vIfE_eq, aNil_eq, aCons_eq, vTup_eq, vLst_eq, vCB_eq, chain_eq, vIsi_eq, vIsi2_eq, noDict_int, noDict_tuple, noDict_list, noDict_none, noDict_bool, noDict_str, isT_int_int, isT_bool_int, isT_tuple_tuple, isT_tuple_int, isT_int_tuple, gAdd_int, gAdd_tup, gAdd_lst, gSub_int, gMul_int, gMul_tup, gMul_lst, gMod_int, gDiv_int, gPow_int, gLt_int, gLe_int, gGt_int, gGe_int, gEq_int, gNe_int, gNeg_int, gRev_tup, gIx_tup, gIx_lst, gLen_tup, gLen_lst, gAbs_int, gMin_int, gMax_int, gInt_int, gTuple_lst, gTuple_tup, gList_lst, gList_tup, gSum_ints, gAll_bools, gAny_bools, vIxV_eq, ixK_some, ixK2_some, slotD_val, slotD_own, vLenV_eq, lenK_some, tTruV_eq, truK_some, tTru_eq, truD_bool, truD_int, truD_tup, truD_lst, truD_none, vApp_eq, appK_some, appK2_some, ownOf_own, thenK_ok, thenS_eq, sSetIx_eq, setIxK_some, setIxK2_some, setIxK3_some, sSeq_eq, seqK_nx, seqK_rt, seqK_bk, seqK_ct, sNext_eq, sBreak_eq, sCont_eq, sRet_eq, sRetN_eq, sExpr_eq, sSet_eq, sIf_eq, asgK_some, sAsg_eq, gNm_eq, gTp_tup, gAll2_nil, gAll2_cons, bNil_eq, bCons_eq, parK_two, sPar_eq, iSeq_eq, seqOf_tup, seqOf_lst, iRg_eq, vCallP_eq, callK_ret, vCallR_eq, callRK_ret, rNil_eq, rCons_eq, argOf_val, argOf_own, argOf_root, oNone_eq, oSome_eq, intOf_int, vSlice_eq, gSl_tup, gSl_lst, wipe_nil, wipe_cons, outP_val, outP_own, outP_ownT, outP_nx, outR_rt, outR_nx, vNewT_eq, vDisp1_eq, vTake_eq, takeK_some, ownTOf_own, iItemsT_eq, dictOf_own, sPutT_eq, putK1_some, putK2_some, vGetT_eq, getK1_some, getK2_some, keyOf_ints, forK_some, forK2_nx, forK2_ct, forK2_bk, forK2_rt, lcK_ok, dcK_ok, ttYes_eq, lcK3_some, dcK3_some, dcK4_some, vDrGet_eq, drgK_true, isRoot_root, vDrLen_eq, drlK_true, vDrCell_eq, drcK_true, drc2_int, drc3_some, sDrPut_eq, drpK_int, List.getElem?_cons_zero, List.getElem?_cons_succ, List.set_cons_zero, List.set_cons_succ, Option.map_some, Option.bind_some, if_true, if_false, ite_true, ite_false, iteM, iteMS, Bool.false_eq_true, small_eq, List.length_cons, List.length_nil, decide_eq_true_eq, eq_self, decide_true, Int.toNat_natCast, Nat.reduceLeDiff, Nat.reduceAdd, Nat.reduceMul, Nat.zero_le, Nat.zero_add, hf, hf2, and_self, e1, if_pos hm0, if_pos hl]
end L2.VL

/-! VLS: sorting alike data; lists that hold the same; loops by place; texts' lengths. -/
namespace L2.VL
open PySem PySem.Spec PyProof.Rows
/-! ### equal by what they compare -/
mutual
theorem eqv_eq : ∀ (x y : D), PySem.W.alike x y = true → PyData.eqv x y = true → x = y
  | .none, y, h, e => by cases y <;> first | rfl | (simp [PySem.W.alike] at h)
  | .bool a, y, h, e => by
    cases y with
    | bool b => rw [show a = b by simpa [PyData.eqv] using e]
    | _ => simp [PySem.W.alike] at h
  | .int a, y, h, e => by
    cases y with
    | int b => rw [show a = b by simpa [PyData.eqv] using e]
    | _ => simp [PySem.W.alike] at h
  | .str a, y, h, e => by
    cases y with
    | str b => rw [show a = b by simpa [PyData.eqv] using e]
    | _ => simp [PySem.W.alike] at h
  | .list xs, y, h, e => by
    cases y with
    | list ys => rw [eqvAll_eq xs ys (by simpa [PySem.W.alike] using h) (by simpa [PyData.eqv] using e)]
    | _ => simp [PySem.W.alike] at h
  | .tuple xs, y, h, e => by
    cases y with
    | tuple ys => rw [eqvAll_eq xs ys (by simpa [PySem.W.alike] using h) (by simpa [PyData.eqv] using e)]
    | _ => simp [PySem.W.alike] at h
  | .dict _, y, h, _ => by cases y <;> simp [PySem.W.alike] at h
theorem eqvAll_eq : ∀ (xs ys : List D), PySem.W.alikeAll xs ys = true → PyData.eqvAll xs ys = true → xs = ys
  | [], [], _, _ => rfl
  | [], y :: ys, _, e => by simp [PyData.eqvAll] at e
  | x :: xs, [], _, e => by simp [PyData.eqvAll] at e
  | x :: xs, y :: ys, h, e => by
    rw [PySem.W.alikeAll, Bool.and_eq_true] at h
    rw [PyData.eqvAll, Bool.and_eq_true] at e
    rw [eqv_eq x y h.1 e.1, eqvAll_eq xs ys h.2 e.2]
end
theorem toks_inj {x y : D} (h : PySem.W.alike x y = true) (e : PySem.W.keyToks x = PySem.W.keyToks y) : x = y := by
  refine eqv_eq x y h ?_
  cases q : PyData.eqv x y with
  | true => rfl
  | false =>
    have z := (PySem.W.toks_eqv x y h).2 q [] [Sum.inl 0]
    rw [← e, lex_irrefl] at z
    have : ∀ l : List (Int ⊕ List Nat), PyProof.Rows.lexLt itemOrd (l ++ []) (l ++ [Sum.inl 0]) = true := fun l => by
      rw [PySem.W.lex_pre]; rfl
    rw [this] at z
    cases z
theorem sort_perm {xs ys : List D} (p : xs.Perm ys) (al : ∀ x ∈ xs, ∀ y ∈ xs, PySem.W.alike x y = true) : sortD xs = sortD ys := by
  unfold sortD
  have px : (xs.mergeSort (PySem.W.dataLe false id)).Perm xs := List.mergeSort_perm _ _
  have py : (ys.mergeSort (PySem.W.dataLe false id)).Perm ys := List.mergeSort_perm _ _
  refine List.Perm.eq_of_pairwise (le := fun a b => PySem.W.dataLe false id a b = true) (fun a b ha hb h1 h2 => ?_) (PySem.W.sort_pairwise (PySem.W.sortLe_total _ _ _) _) (PySem.W.sort_pairwise (PySem.W.sortLe_total _ _ _) _) (px.trans (p.trans py.symm))
  have ha' : a ∈ xs := px.mem_iff.mp ha
  have hb' : b ∈ xs := p.mem_iff.mpr (py.mem_iff.mp hb)
  refine toks_inj (al a ha' b hb') ?_
  have e1 : (!(listOrd itemOrd).blt (PySem.W.keyToks b) (PySem.W.keyToks a)) = true := h1
  have e2 : (!(listOrd itemOrd).blt (PySem.W.keyToks a) (PySem.W.keyToks b)) = true := h2
  exact (listOrd itemOrd).total _ _ (by simpa using e2) (by simpa using e1)
/-! ### lists that hold the same -/
theorem perm_nodup {α : Type} : ∀ {l m : List α}, l.Nodup → m.Nodup → (∀ x, x ∈ l ↔ x ∈ m) → l.Perm m
  | [], m, _, _, h => by
    cases m with
    | nil => exact .nil
    | cons y ys => exact absurd ((h y).mpr (List.mem_cons_self ..)) (by simp)
  | x :: l, m, hl, hm, h => by
    obtain ⟨s, t, rfl⟩ := List.append_of_mem ((h x).mp (List.mem_cons_self ..))
    have hm2 := (List.perm_middle (a := x) (l₁ := s) (l₂ := t)).nodup_iff.mp hm
    rw [List.nodup_cons] at hl hm2
    refine (List.Perm.cons x (perm_nodup hl.2 hm2.2 fun y => ?_)).trans List.perm_middle.symm
    have hy := h y
    constructor
    · intro m1
      have := hy.mp (List.mem_cons_of_mem _ m1)
      have ne : y ≠ x := fun z => by subst z; exact hl.1 m1
      simp only [List.mem_append, List.mem_cons] at this ⊢
      rcases this with z | z | z
      · exact .inl z
      · exact absurd z ne
      · exact .inr z
    · intro m1
      have ne : y ≠ x := fun z => by subst z; exact hm2.1 m1
      have : y ∈ s ++ x :: t := by
        simp only [List.mem_append, List.mem_cons] at m1 ⊢
        rcases m1 with z | z
        · exact .inl z
        · exact .inr (.inr z)
      rcases List.mem_cons.mp (hy.mpr this) with z | z
      · exact absurd z ne
      · exact z
theorem nodup_len {α : Type} : ∀ {l m : List α}, l.Nodup → (∀ x ∈ l, x ∈ m) → l.length ≤ m.length
  | [], _, _, _ => Nat.zero_le _
  | x :: l, m, hl, h => by
    obtain ⟨s, t, rfl⟩ := List.append_of_mem (h x (List.mem_cons_self ..))
    rw [List.nodup_cons] at hl
    have := nodup_len (m := s ++ t) hl.2 fun y hy => by
      have ne : y ≠ x := fun z => by subst z; exact hl.1 hy
      have := h y (List.mem_cons_of_mem _ hy)
      simp only [List.mem_append, List.mem_cons] at this ⊢
      rcases this with z | z | z
      · exact .inl z
      · exact absurd z ne
      · exact .inr z
    simp only [List.length_append, List.length_cons] at this ⊢
    omega
/-! ### loops by place -/
section
variable {R : Type} {ρ : List Slot} {r : R}
theorem forL_idx {js : List Nat} {t : D → List Slot → Option (List Slot)} {body : MS R} {ds : List D} (st : Nat → List Slot) (rs : Nat → R)
    (h : ∀ i (hi : i < ds.length), ∃ ρ1, t ds[i] (st i) = some ρ1 ∧ ∃ ρ2, (body ρ1 (rs i) = .nx ρ2 (rs (i + 1)) ∨ body ρ1 (rs i) = .ct ρ2 (rs (i + 1))) ∧ wipeS js ρ2 = st (i + 1))
    (hw : wipeS js ρ = st 0) : forL js t body ds ρ (rs 0) = .nx (st ds.length) (rs ds.length) := by
  have key : ∀ (n i : Nat) (ρ : List Slot), i + n = ds.length → wipeS js ρ = st i → forL js t body (ds.drop i) ρ (rs i) = .nx (st ds.length) (rs ds.length) := by
    intro n
    induction n with
    | zero =>
      intro i ρ hi hw
      have e : i = ds.length := by omega
      subst e
      rw [List.drop_length, forL_nil, hw]
    | succ n ih =>
      intro i ρ hi hw
      have hlt : i < ds.length := by omega
      rw [drop_cons hlt, forL_cons, hw]
      obtain ⟨ρ1, h1, ρ2, h2, h3⟩ := h i hlt
      rw [h1, forK_some]
      have e := ih (i + 1) ρ2 (by omega) h3
      rcases h2 with h2 | h2
      · rw [h2, forK2_nx, e]
      · rw [h2, forK2_ct, e]
  simpa using key ds.length 0 ρ (by omega) hw
theorem rangeD_at {lo : Int} {n i : Nat} (hi : i < (rangeD lo n).length) : (rangeD lo n)[i] = .int (lo + i) := by
  have h : (rangeD lo n)[i]? = some ((rangeD lo n)[i]) := List.getElem?_eq_getElem hi
  exact (rangeD_get h).2
end
/-! ### the lengths of texts -/
/-! ### comprehensions that leave the slots as they are -/
section
variable {R : Type} {ρ ρ1 : List Slot} {r : R}
theorem vLc_fm {vs : List Nat} {t : D → List Slot → Option (List Slot)} {it : M R (List D)} {tt : M R Bool} {te : M R Slot} {ds : List D} (out : D → Option D) (hit : it ρ r = .ok ds ρ1 r)
    (h : ∀ d ∈ ds, ∃ ρ2, t d (wipeS vs ρ1) = some ρ2 ∧ ((out d = none ∧ ∃ ρ3, tt ρ2 r = .ok false ρ3 r ∧ wipeS vs ρ3 = wipeS vs ρ1) ∨ ∃ y ρ3 ρ4, out d = some y ∧ tt ρ2 r = .ok true ρ3 r ∧ toD te ρ3 r = .ok y ρ4 r ∧ wipeS vs ρ4 = wipeS vs ρ1))
    (hl : ds.length ≤ 1000000) (k : ∀ i ∈ vs, ∀ s, ρ1[i]? = some s → s.isOwn = false) : vLc vs it t tt te ρ r = .ok (.own (ds.filterMap out)) ρ1 r := by
  obtain ⟨ρ', h1, h2⟩ := lcL_map (vs := vs) (t := t) (tt := tt) (te := te) (wipeS vs ρ1) out h (ρ := ρ1) rfl hl
  rw [vLc_eq, hit, bind_ok, h2, lcK_ok, backS_same h1 k]
theorem vLc_map {vs : List Nat} {t : D → List Slot → Option (List Slot)} {it : M R (List D)} {te : M R Slot} {ds : List D} (f : D → D) (hit : it ρ r = .ok ds ρ1 r)
    (h : ∀ d ∈ ds, ∃ ρ2 ρ4, t d (wipeS vs ρ1) = some ρ2 ∧ toD te ρ2 r = .ok (f d) ρ4 r ∧ wipeS vs ρ4 = wipeS vs ρ1)
    (hl : ds.length ≤ 1000000) (k : ∀ i ∈ vs, ∀ s, ρ1[i]? = some s → s.isOwn = false) : vLc vs it t ttYes te ρ r = .ok (.own (ds.map f)) ρ1 r := by
  rw [vLc_fm (fun d => some (f d)) hit (fun d hd => ?_) hl k]
  · rw [List.filterMap_eq_map']
  · obtain ⟨ρ2, ρ4, h1, h2, h3⟩ := h d hd
    exact ⟨ρ2, h1, .inr ⟨_, ρ2, ρ4, rfl, rfl, h2, h3⟩⟩
theorem eqv_self : ∀ d : D, PySem.W.alike d d = true → PyData.eqv d d = true := fun d h => by
  cases q : PyData.eqv d d with
  | true => rfl
  | false =>
    have z := (PySem.W.toks_eqv d d h).2 q [] [Sum.inl 0]
    rw [lex_irrefl, PySem.W.lex_pre] at z
    cases z
theorem alike_list : ∀ xs ys : List Int, PySem.W.alike (.tuple (xs.map .int)) (.tuple (ys.map .int)) = true := fun xs ys => by
  rw [PySem.W.alike]; exact PySem.W.alike_ints xs ys
end
theorem rg1_nat {n : Nat} (h : n ≤ 1000000) : rg1 [.int (n : Int)] = some (rangeD 0 n) := by
  rw [rg1_int, if_pos (by omega)]
  rfl
theorem rg2_one {n : Nat} (h : n ≤ 999999) : rg2 [.int 1, .int ((n : Int) + 1)] = some (rangeD 1 n) := by
  have h1 : (1 : Int).natAbs ≤ 1000000 ∧ ((n : Int) + 1).natAbs ≤ 1000000 := ⟨by omega, by omega⟩
  have h2 : ((n : Int) + 1 - 1).toNat = n := by omega
  rw [rg2_int, if_pos h1, h2]
/-! ### items by place -/
theorem ixN_nat {n i : Nat} (h : i < n) : ixN n (i : Int) = some i := by
  unfold ixN
  rw [if_pos (by omega), if_pos (by omega)]
  rfl
theorem atI_nat {α : Type} {xs : List α} {i : Nat} (h : i < xs.length) : atI xs (i : Int) = some xs[i] := by
  unfold atI
  rw [ixN_nat h]
  exact List.getElem?_eq_getElem h
theorem atI_last {α : Type} {xs : List α} (h : xs ≠ []) : atI xs (-1) = some (xs.getLast h) := by
  have hl : 0 < xs.length := List.length_pos_iff.mpr h
  unfold atI ixN
  rw [if_neg (by decide), if_pos (by omega)]
  have e : ((-1 : Int) + (xs.length : Int)).toNat = xs.length - 1 := by omega
  rw [e, Option.bind_some, List.getLast_eq_getElem]
  exact List.getElem?_eq_getElem (by omega)
theorem rangeD_succ (lo : Int) (n : Nat) : rangeD lo (n + 1) = .int lo :: rangeD (lo + 1) n := by
  unfold rangeD
  rw [List.range_succ_eq_map, List.map_cons, List.map_map]
  congr 1
  · simp
  · apply List.map_congr_left
    intro k _
    simp only [Function.comp]
    congr 1
    simp
    omega
/-! ### data of data -/
theorem canLay_all : ∀ ds : List D, (∀ d ∈ ds, d.canLay0 = true) → PyData.canLayAll0 ds = true
  | [], _ => rfl
  | d :: ds, h => by
    rw [PyData.canLayAll0, h d (List.mem_cons_self ..), canLay_all ds fun x hx => h x (List.mem_cons_of_mem _ hx)]
    rfl
theorem depth_all {n : Nat} : ∀ ds : List D, (∀ d ∈ ds, d.depth ≤ n) → PyData.depthAll ds ≤ n
  | [], _ => Nat.zero_le _
  | d :: ds, h => by
    rw [PyData.depthAll]
    exact Nat.max_le.mpr ⟨h d (List.mem_cons_self ..), depth_all ds fun x hx => h x (List.mem_cons_of_mem _ hx)⟩
theorem noDict_all : ∀ ds : List D, (∀ d ∈ ds, d.hasDict = false) → PyData.hasDictAll ds = false
  | [], _ => rfl
  | d :: ds, h => by
    rw [PyData.hasDictAll, h d (List.mem_cons_self ..), noDict_all ds fun x hx => h x (List.mem_cons_of_mem _ hx)]
    rfl
theorem showable_all : ∀ ds : List D, (∀ d ∈ ds, d.showable = true) → PyData.showableAll ds = true
  | [], _ => rfl
  | d :: ds, h => by
    rw [PyData.showableAll, h d (List.mem_cons_self ..), showable_all ds fun x hx => h x (List.mem_cons_of_mem _ hx)]
    rfl
theorem shown_all (n : Nat) : ∀ ds : List D, (∀ d ∈ ds, d.shown.length ≤ n) → ((PyData.shownAll ds).map (·.length)).sum ≤ n * ds.length ∧ (PyData.shownAll ds).length = ds.length
  | [], _ => ⟨Nat.zero_le _, rfl⟩
  | d :: ds, h => by
    obtain ⟨h1, h2⟩ := shown_all n ds fun x hx => h x (List.mem_cons_of_mem _ hx)
    have h3 := h d (List.mem_cons_self ..)
    rw [PyData.shownAll, List.map_cons, List.sum_cons, List.length_cons, List.length_cons, h2, Nat.mul_succ]
    exact ⟨by omega, rfl⟩
theorem shown_tup {n : Nat} {ds : List D} (h : ∀ d ∈ ds, d.shown.length ≤ n) : (PyData.tuple ds).shown.length ≤ n * ds.length + 2 * ds.length + 3 := by
  obtain ⟨h1, h2⟩ := shown_all n ds h
  have := tupleText_len_le (PyData.shownAll ds)
  rw [PyData.shown]
  omega
theorem shown_int {i : Int} {k : Nat} (hk : 0 < k) (h : i.natAbs < 10 ^ k) : (PyData.int i).shown.length ≤ k + 1 := by
  rw [PyData.shown]
  have := int_text_length_le10 hk h
  have e := PySem.ofString_length (toString i)
  exact Nat.le_trans (Nat.le_of_eq e) this
theorem shaped_ints (w : List Int) : SeqAt.shaped (.tuple (w.map .int)) = true := by
  have h1 : PyData.canLayAll0 (w.map PyData.int) = true := canLay_all _ fun d hd => by
    obtain ⟨n, _, rfl⟩ := List.mem_map.mp hd
    rfl
  have h2 := PySem.W.depth_ints w
  unfold SeqAt.shaped
  rw [PyData.canLay0, h1, PyData.depth, h2]
  rfl
end L2.VL

/-! VL13: keys walked; min of a list; repr of any plain datum. -/
namespace L2.VL
open PySem PySem.Spec PyProof.Rows
/-! ### for k in d, d a dict of its own with tuple keys -/
def iKT (td : TE) : TI := fun σ H R => td σ H fun x H1 => ∃ d kvs, x = .ref d ∧ H1 d = some (.dT kvs) ∧ ∀ od, R (Itkt d od kvs) (upd H1 d (.frz od (.dT kvs)))
theorem pi_KT {X : Cx} {tg e : Expr} {td : TE} (he : PE X e td) : PI X tg e (iKT td) := by
  refine ⟨fun pins s σ H R I h => ?_⟩
  refine thn (he.run pins s σ H _ I h) fun u s1 ⟨x, H0, I0, rx, d, kvs, ex, hd0, q0⟩ => ?_
  subst ex
  obtain rfl : u = Value.ref d := rx
  obtain ⟨od, I1⟩ := I0.lock hd0 True.intro
  have q := q0 od
  have hd : upd H0 d (.frz od (.dT kvs)) d = some (.frz od (.dT kvs)) := upd_same
  generalize upd H0 d (.frz od (.dT kvs)) = H1 at I1 q hd
  obtain ⟨hs, hgd, hx, es, ep, hdt, hsz, ent⟩ := I1.frzT hd
  refine iter_keys hs hgd hx hdt (pi_one (tk := s1.toks) I1 _ (turn_keysT _ hdt) ⟨_, Heap.get?_push_size _ rfl, rfl, ?_⟩ q)
  rw [hsz] <;> rfl
section
variable {X : Cx} {R : Type} [Fam R] {L : LX} {pos : Pos} {a b c e tg : Expr} {fa : M R Slot}
def keysT (kvs : List (List Key × D)) : List D := kvs.map fun kv => keyD kv.1
def iKeysT (f : M R Slot) : M R (List D) := bnd f fun s => ofO ((dictOf s).map keysT)
theorem walks_KT {K : PySem.W.Frag} {g F : Hp} {ad : Addr} {od : Obj} {vs : List (List Key × V)} {kvs : List (List Key × D)} (hg : g ad = some (.frz od (.dT vs))) (h : KvOk K F vs kvs) : Walks K g (Itkt ad od vs) F (keysT kvs) where
  go := fun i d F1 H1 e s1 s2 s3 => by
    unfold keysT at e
    rw [List.getElem?_map] at e
    cases z : kvs[i]? with
    | none => rw [z] at e; cases e
    | some kv =>
      rw [z] at e
      obtain ⟨k, y⟩ := kv
      obtain ⟨v, e1, e2⟩ := h.get z
      have e' : keyD k = d := by simpa using e
      subst e'
      refine ⟨⟨s3 _ _ hg, lt_of_get e1⟩, fun x H2 q => ?_⟩
      obtain ⟨rfl, k', v', b, q1, rfl, q2⟩ := q
      rw [e1] at q1
      cases q1
      have x1 := frzTup s2 q2
      exact ⟨_, x1, .tup upd_same (kDs_v k)⟩
  stop := fun i F1 H1 hl s1 s2 s3 => by
    refine ⟨s3 _ _ hg, ?_⟩
    unfold keysT at hl
    rw [List.length_map] at hl
    rw [h.len]; exact hl
theorem vi_keysT (ha : PE X a (lift L fa)) : PI X tg a (liftI L (iKeysT fa)) :=
  piImp (pi_KT ha) fun σ H Rr ⟨C, F, ρ, r, hR, g0⟩ => ⟨C, F, ρ, r, hR, (Good.bnd g0).imp fun s ρ1 r1 F1 H1 R1 S1 g1 v rv => by
    cases s with
    | ownT kvs =>
      obtain ⟨⟨ad, vs, rfl, h1, h2, h3, h4, h5⟩, al⟩ := rv
      have g1' := g1 F1 H1 R1 (Same.refl _)
      refine ⟨ad, vs, rfl, h1, fun od => g1' _ _ (upd C.gh ad (.frz od (.dT vs))) (fun b o e => by rw [upd_ne (ne_of_none e h3)]; exact e) ?_ (walks_KT upd_same h5)⟩
      have R2 := (R1.put notTup_dT h1 h4 h2 (al rfl)).swap (o' := .frz od (.dT vs)) h3
      exact R2.put (fun _ z => nomatch z) upd_same h4 h2 (al rfl)
    | emp => exact g1.elim
    | val _ => exact g1.elim
    | own _ => exact g1.elim
    | root => exact g1.elim⟩
end
/-! ### min of a list of ints -/
def minI (n : Int) (ns : List Int) : Int := ns.foldl (fun a b => if b < a then b else a) n
theorem minI_is : ∀ (ns : List Int) (n : Int), minI n ns ∈ n :: ns ∧ ∀ y ∈ n :: ns, minI n ns ≤ y
  | [], n => ⟨by simp [minI], by simp [minI]⟩
  | m :: ns, n => by
    obtain ⟨h1, h2⟩ := minI_is ns (if m < n then m else n)
    have e : minI n (m :: ns) = minI (if m < n then m else n) ns := rfl
    rw [e]
    refine ⟨?_, fun y hy => ?_⟩
    · rcases List.mem_cons.mp h1 with z | z
      · rw [z]
        split
        · simp
        · simp
      · simp [z]
    · have h3 := h2 _ (List.mem_cons_self ..)
      have h4 : (if m < n then m else n) ≤ m ∧ (if m < n then m else n) ≤ n := by split <;> omega
      rcases List.mem_cons.mp hy with z | z
      · subst z; exact Int.le_trans h3 h4.2
      · rcases List.mem_cons.mp z with z | z
        · subst z; exact Int.le_trans h3 h4.1
        · exact h2 y (List.mem_cons_of_mem _ z)
def gMinL : List D → Option Slot
  | [.list ds] => match allM intOf ds with
    | some (n :: ns) => some (.val (.int (minI n ns)))
    | _ => none
  | _ => none
section
variable {X : Cx}
theorem cv_minL (hc : X.calm = true) : CallV X (.builtin "min") gMinL := by
  intro pins s σ H xs us Q I r h'
  obtain ⟨F, ds, sl, hF, hd, hg, q⟩ := h'
  unfold gMinL at hg
  split at hg
  · rename_i ys
    obtain ⟨v, rfl, hv⟩ := dn1 hd
    obtain ⟨a, vs, rfl, t1, t2⟩ := dp_lst hv
    split at hg
    · rename_i n ns e
      cases hg
      have e2 := allM_int e
      subst e2
      obtain rfl := dp_ints t2
      refine cr_min hc pins s σ H _ us Q I r ⟨a, n :: ns, rfl, .inl (sameL hF t1), by simp, fun m hm hle => ?_⟩
      obtain ⟨m1, m2⟩ := minI_is ns n
      obtain rfl : m = minI n ns := Int.le_antisymm (hle _ m1) (m2 _ hm)
      exact q_val hF q rfl (.int _)
    · cases hg
  · cases hg
/-! ### repr -/
def gReprA : List D → Option Slot
  | [d] => if d.canLay0 = true ∧ d.showable = true ∧ d.hasDict = false ∧ d.depth ≤ 100 ∧ d.shown.length ≤ 10000000 then some (.val (.str d.shown)) else none
  | _ => none
theorem cv_reprA (hgd : X.A.guards = some []) (hu : X.A.units + 200 < cLine) : CallV X (.builtin "repr") gReprA := by
  intro pins s σ H xs us Q I r h
  obtain ⟨F, ds, sl, hF, hd, hg, q⟩ := h
  unfold gReprA at hg
  split at hg
  · rename_i d
    by_cases hb : d.canLay0 = true ∧ d.showable = true ∧ d.hasDict = false ∧ d.depth ≤ 100 ∧ d.shown.length ≤ 10000000
    · rw [if_pos hb] at hg
      cases hg
      by_cases ho : isObj d = true
      · refine cv_repr hgd hu pins s σ H xs us Q I r ⟨F, [d], _, hF, hd, ?_, q⟩
        show (if isObj d = true ∧ d.canLay0 = true ∧ d.showable = true ∧ d.hasDict = false ∧ d.depth ≤ 100 ∧ d.shown.length ≤ 10000000 then some (Slot.val (PyData.str d.shown)) else none) = _
        exact if_pos ⟨ho, hb⟩
      · obtain ⟨b1, b2, b3, b4, b5⟩ := hb
        obtain ⟨v, rfl, hv⟩ := dn1 hd
        obtain ⟨u, rfl, ru⟩ := vals1 r
        have fin : ∀ (t : Nat) (u : Tok), ∃ v H', Inv X pins σ H' { s with toks := t } ∧ RelV v (Value.str d.shown u) ∧ Q v H' := fun t u => ⟨.str d.shown, H, I.tok _, ⟨u, rfl⟩, q _ F H (Ext.refl hF) (.str _)⟩
        have hz : d.shown.length ≤ sizeLine := Nat.le_trans b5 sizeLine_big
        cases d with
        | none => rw [dp_none hv] at ru; obtain rfl : u = Value.none := ru; exact PySem.P.repr_of_none (fin _ _)
        | bool b => rw [dp_bool hv] at ru; obtain rfl : u = Value.bool b := ru; exact PySem.P.repr_of_bool (fin _ _)
        | int i => rw [dp_int hv] at ru; obtain ⟨t, rfl⟩ := ru; exact PySem.P.repr_of_int (of_decide_eq_true b2) (fin _ _)
        | str x => rw [dp_str hv] at ru; obtain ⟨t, rfl⟩ := ru; exact PySem.P.repr_of_str (fin _ _) hz
        | tuple _ => exact absurd rfl ho
        | list _ => exact absurd rfl ho
        | dict _ => exact absurd b1 (by simp [PyData.canLay0])
    · rw [if_neg hb] at hg; cases hg
  · cases hg
end
end L2.VL

/-! VLE2: more rewriting: pop, while, keys, texts of data. -/
namespace L2.VL
open PySem PySem.Spec PyProof.Rows
section
variable {R : Type} {α β : Type} {ρ ρ' : List Slot} {r r' : R}
def popK (o : Option (List D)) (i : Nat) : M R Slot := fun ρ r => match o with
  | none => .stuck
  | some ds => match ds[ds.length - 1]? with
    | none => .stuck
    | some d => .ok (.val d) (ρ.set i (.own ds.dropLast)) r
def popK2 (o : Option D) (ds : List D) (i : Nat) : M R Slot := fun ρ r => match o with
    | none => .stuck
    | some d => .ok (.val d) (ρ.set i (.own ds.dropLast)) r
theorem vPop_eq (i : Nat) : (vPop i : M R Slot) ρ r = popK (ownOf ρ[i]?) i ρ r := rfl
theorem popK_some (ds : List D) (i : Nat) : (popK (some ds) i : M R Slot) ρ r = popK2 ds[ds.length - 1]? ds i ρ r := rfl
theorem popK2_some (d : D) (ds : List D) (i : Nat) : (popK2 (some d) ds i : M R Slot) ρ r = .ok (.val d) (ρ.set i (.own ds.dropLast)) r := rfl
theorem iKeysT_eq (f : M R Slot) : iKeysT f ρ r = (f ρ r).bind fun s => ofO ((dictOf s).map keysT) := rfl
theorem gIsN_of (d : D) : gIsN d .none = some (.val (.bool (isNone d))) := by cases d <;> rfl
theorem gNotN_of (d : D) : gNotN d .none = some (.val (.bool (!isNone d))) := by cases d <;> rfl
theorem isNone_none : isNone .none = true := rfl
theorem isNone_int (i : Int) : isNone (.int i) = false := rfl
theorem isNone_tup (i : List D) : isNone (.tuple i) = false := rfl
theorem isT_bool_none : isT "bool" .none = false := rfl
theorem isT_int_none : isT "int" .none = false := rfl
def whK2 (x : Out R) (js : List Nat) (t : M R Bool) (body : MS R) (n : Nat) : Out R := match x with
  | .nx ρ2 r2 => whileL js t body n ρ2 r2
  | .ct ρ2 r2 => whileL js t body n ρ2 r2
  | .bk ρ2 r2 => .nx (wipeS js ρ2) r2
  | .rt s r2 => .rt s r2
  | .exc c d ρ2 r2 => .exc c d ρ2 r2
  | .stuck => .stuck
def whK (x : Res R Bool) (js : List Nat) (t : M R Bool) (body : MS R) (n : Nat) : Out R := match x with
  | .stuck => .stuck
  | .exc c d ρ1 r1 => .exc c d ρ1 r1
  | .ok b ρ1 r1 => if b = true then whK2 (body ρ1 r1) js t body n else .nx ρ1 r1
theorem whileL_succ (js : List Nat) (t : M R Bool) (body : MS R) (n : Nat) : whileL js t body (n + 1) ρ r = whK (t (wipeS js ρ) r) js t body n := rfl
end
section
variable {R : Type} {ρ : List Slot} {r : R}
/-- a while of k turns -/
theorem whileL_idx {js : List Nat} {t : M R Bool} {body : MS R} (st : Nat → List Slot) (rs : Nat → R) (k : Nat) {ρe : List Slot} {re : R}
    (h : ∀ i, i < k → ∃ ρ1 r1, t (st i) (rs i) = .ok true ρ1 r1 ∧ ∃ ρ2, (body ρ1 r1 = .nx ρ2 (rs (i + 1)) ∨ body ρ1 r1 = .ct ρ2 (rs (i + 1))) ∧ wipeS js ρ2 = st (i + 1))
    (he : t (st k) (rs k) = .ok false ρe re) (n : Nat) (hn : k < n) (hw : wipeS js ρ = st 0) : whileL js t body n ρ (rs 0) = .nx ρe re := by
  have key : ∀ (m i : Nat) (ρ : List Slot) (n : Nat), i + m = k → m < n → wipeS js ρ = st i → whileL js t body n ρ (rs i) = .nx ρe re := by
    intro m
    induction m with
    | zero =>
      intro i ρ n hi hn hw
      obtain ⟨n, rfl⟩ : ∃ n', n = n' + 1 := ⟨n - 1, by omega⟩
      obtain rfl : i = k := by omega
      rw [whileL_succ, hw, he]
      rfl
    | succ m ih =>
      intro i ρ n hi hn hw
      obtain ⟨n, rfl⟩ : ∃ n', n = n' + 1 := ⟨n - 1, by omega⟩
      obtain ⟨ρ1, r1, h1, ρ2, h2, h3⟩ := h i (by omega)
      have e := ih (i + 1) ρ2 n (by omega) (by omega) h3
      rw [whileL_succ, hw, h1]
      show whK2 (body ρ1 r1) js t body n = _
      rcases h2 with h2 | h2
      · rw [h2]; exact e
      · rw [h2]; exact e
  exact key k 0 ρ n (by omega) hn hw
end
/-- a loop that changes the draws alone -/
theorem forL_dr {js : List Nat} {t : D → List Slot → Option (List Slot)} {body : MS Dr} {st : List Slot}
    (h : ∀ x d, DrOk d → ∃ ρ1, t x st = some ρ1 ∧ ∃ ρ2 d', (body ρ1 d = .nx ρ2 d' ∨ body ρ1 d = .ct ρ2 d') ∧ wipeS js ρ2 = st ∧ DrOk d') :
    ∀ (ds : List D) (ρ : List Slot) (d : Dr), wipeS js ρ = st → DrOk d → ∃ d', forL js t body ds ρ d = .nx st d' ∧ DrOk d'
  | [], ρ, d, hw, h0 => ⟨d, by rw [forL_nil, hw], h0⟩
  | x :: ds, ρ, d, hw, h0 => by
    obtain ⟨ρ1, h1, ρ2, d', h2, h3, h4⟩ := h x d h0
    obtain ⟨d2, h5, h6⟩ := forL_dr h ds ρ2 d' h3 h4
    refine ⟨d2, ?_, h6⟩
    rw [forL_cons, hw, h1, forK_some]
    rcases h2 with h2 | h2
    · rw [h2, forK2_nx, h5]
    · rw [h2, forK2_ct, h5]
theorem str_ne (x : Str) : gNe (.str x) (.str x) = some (.val (.bool false)) := by
  unfold gNe
  rw [if_pos (.inl rfl)]
  have : PyData.eqv (.str x) (.str x) = true := by rw [eqv_str]; exact decide_eq_true rfl
  rw [this]
  rfl
end L2.VL

/-! VX: expansions of words, in plain Lean (patterns turned about: the last letter first). -/
namespace L2.VL
open PySem
def ab (l : Int) : Int := if l < 0 then -l else l
def stepF (l : Int) (f : List Int → Int) : List Int → Int
  | [] => f []
  | a :: r => f (a :: r) + (if a = ab l then (if l < 0 then -(stepF l f r) else f r) else 0)
theorem stepF_cons (l : Int) (f : List Int → Int) (a : Int) (r : List Int) : stepF l f (a :: r) = f (a :: r) + (if a = ab l then (if l < 0 then -(stepF l f r) else f r) else 0) := by rw [stepF]
def expF (w : List Int) : List Int → Int := w.foldl (fun f l => stepF l f) (fun rp => if rp = [] then 1 else 0)
theorem expF_snoc (w : List Int) (l : Int) : expF (w ++ [l]) = stepF l (expF w) := by
  unfold expF
  rw [List.foldl_append]
  rfl
theorem stepF_congr {l : Int} {f g : List Int → Int} : ∀ {r : List Int}, (∀ s, s.length ≤ r.length → f s = g s) → stepF l f r = stepF l g r
  | [], h => h [] (Nat.le_refl _)
  | a :: r, h => by
    unfold stepF
    rw [h (a :: r) (Nat.le_refl _), h r (by simp), stepF_congr fun s hs => h s (by simp; omega)]
theorem stepF_add (l : Int) (c : Int) (f g : List Int → Int) : ∀ r : List Int, stepF l (fun s => c * f s + g s) r = c * stepF l f r + stepF l g r
  | [] => rfl
  | a :: r => by
    unfold stepF
    rw [stepF_add l c f g r]
    split
    · split
      · rw [Int.mul_add, Int.mul_neg]; omega
      · rw [Int.mul_add]; omega
    · rw [Int.mul_add]; omega
theorem stepF_zero (l : Int) : ∀ r : List Int, stepF l (fun _ => 0) r = 0
  | [] => rfl
  | a :: r => by
    unfold stepF
    rw [stepF_zero l r]
    split
    · split <;> rfl
    · rfl
theorem stepF_bound {l : Int} {f : List Int → Int} {B : Nat} : ∀ {r : List Int}, (∀ s, s.length ≤ r.length → (f s).natAbs ≤ B) → (stepF l f r).natAbs ≤ (r.length + 1) * B
  | [], h => by
    have := h [] (Nat.le_refl _)
    show (f []).natAbs ≤ (0 + 1) * B
    omega
  | a :: r, h => by
    have h1 := h (a :: r) (Nat.le_refl _)
    have h2 := h r (by simp)
    have h3 := stepF_bound (l := l) (r := r) fun s hs => h s (by simp; omega)
    have e : ((a :: r).length + 1) * B = (r.length + 1) * B + B := by rw [List.length_cons, Nat.add_mul]; omega
    have e2 : B ≤ (r.length + 1) * B := Nat.le_mul_of_pos_left B (by omega)
    rw [e]
    unfold stepF
    split
    · split <;> omega
    · omega
theorem expF_bound : ∀ (w r : List Int), r.length ≤ 4 → (expF w r).natAbs ≤ 5 ^ w.length := by
  intro w
  have key : ∀ (n : Nat) (w : List Int), w.length = n → ∀ r : List Int, r.length ≤ 4 → (expF w r).natAbs ≤ 5 ^ n := by
    intro n
    induction n with
    | zero =>
      intro w hw r hr
      obtain rfl : w = [] := List.length_eq_zero_iff.mp hw
      unfold expF
      simp only [List.foldl_nil]
      split <;> simp
    | succ n ih =>
      intro w hw r hr
      have hne : w ≠ [] := fun z => by subst z; simp at hw
      have e := List.dropLast_concat_getLast hne
      rw [← e, expF_snoc]
      have hd : w.dropLast.length = n := by rw [List.length_dropLast]; omega
      have := stepF_bound (l := w.getLast hne) (f := expF w.dropLast) (B := 5 ^ n) (r := r) fun s hs => ih _ hd s (by omega)
      have h2 : (r.length + 1) * 5 ^ n ≤ 5 * 5 ^ n := Nat.mul_le_mul_right _ (by omega)
      rw [Nat.pow_succ]
      omega
  exact key w.length w rfl
/-! ### tables -/
abbrev Tb := List (List Int × Int)
def getP (T : Tb) (p : List Int) : Int := ((T.find? fun x => decide (x.1 = p)).map (·.2)).getD 0
def putP (T : Tb) (p : List Int) (n : Int) : Tb := if (T.any fun x => decide (x.1 = p)) = true then T.map (fun x => if x.1 = p then (x.1, n) else x) else T ++ [(p, n)]
def addP (T : Tb) (x : List Int × Int) : Tb := putP T x.1 (getP T x.1 + x.2)
def ks (T : Tb) : List (List Int) := T.map (·.1)
def encT (T : Tb) : List (List Key × D) := T.map fun x => (kI x.1, PyData.int x.2)
theorem kI_iff {a b : List Int} : kI a = kI b ↔ a = b := ⟨kI_inj, fun h => by rw [h]⟩
theorem valT_enc (T : Tb) (p : List Int) : (valT (encT T) (kI p)).getD (.int 0) = .int (getP T p) := by
  unfold valT encT getP
  induction T with
  | nil => rfl
  | cons x T ih =>
    rw [List.map_cons, List.find?_cons, List.find?_cons]
    by_cases h : x.1 = p
    · have h' : kI x.1 = kI p := by rw [h]
      simp [h, h']
    · have h' : ¬ kI x.1 = kI p := fun z => h (kI_inj z)
      simp [h, h']
      simpa using ih
theorem putT_enc (T : Tb) (p : List Int) (n : Int) : putT (encT T) (kI p) (.int n) = encT (putP T p n) := by
  unfold putT putP encT
  have e : ((T.map fun x => (kI x.1, PyData.int x.2)).any fun kv => decide (kv.1 = kI p)) = (T.any fun x => decide (x.1 = p)) := by
    rw [List.any_map]
    congr 1
    funext x
    simp [Function.comp, kI_iff]
  rw [e]
  split
  · rw [List.map_map, List.map_map]
    apply List.map_congr_left
    intro x _
    simp only [Function.comp, kI_iff]
    split <;> rfl
  · simp
theorem find_none {T : Tb} {p : List Int} (h : (T.any fun x => decide (x.1 = p)) = false) : T.find? (fun x => decide (x.1 = p)) = none := by
  rw [List.find?_eq_none]
  intro x hx z
  rw [List.any_eq_false] at h
  exact h x hx z
theorem getP_putP (T : Tb) (p q : List Int) (n : Int) : getP (putP T p n) q = if p = q then n else getP T q := by
  unfold putP
  split
  · rename_i h
    induction T with
    | nil => simp at h
    | cons x T ih =>
      unfold getP at ih ⊢
      rw [List.map_cons, List.find?_cons, List.find?_cons]
      by_cases hx : x.1 = p
      · rw [if_pos hx]
        by_cases hq : p = q
        · have hxq : x.1 = q := hx.trans hq
          simp [hxq, hq]
        · have hxq : ¬ x.1 = q := fun z => hq (hx.symm.trans z)
          simp only [hxq, decide_false, if_neg hq]
          by_cases ha : (T.any fun x => decide (x.1 = p)) = true
          · rw [ih ha, if_neg hq]
          · have e : T.map (fun x => if x.1 = p then (x.1, n) else x) = T := by
              conv => rhs; rw [← List.map_id T]
              apply List.map_congr_left
              intro y hy
              rw [if_neg]
              · rfl
              · intro z
                exact ha (List.any_eq_true.mpr ⟨y, hy, decide_eq_true z⟩)
            rw [e]
      · rw [if_neg hx]
        have ha : (T.any fun x => decide (x.1 = p)) = true := by
          rw [List.any_cons, decide_eq_false hx, Bool.false_or] at h
          exact h
        by_cases hq : x.1 = q
        · have hpq : ¬ p = q := fun z => hx (hq.trans z.symm)
          simp [hq, hpq]
        · simp only [hq, decide_false]
          exact ih ha
  · rename_i h
    have hn := find_none (T := T) (p := p) (by
      cases q : (T.any fun x => decide (x.1 = p)) with
      | true => exact absurd q h
      | false => rfl)
    unfold getP
    rw [List.find?_append]
    by_cases hq : p = q
    · subst hq
      rw [hn]
      simp
    · cases T.find? (fun x => decide (x.1 = q)) with
      | none => simp [hq]
      | some y => simp [hq]
theorem getP_addP (T : Tb) (x : List Int × Int) (q : List Int) : getP (addP T x) q = getP T q + if x.1 = q then x.2 else 0 := by
  unfold addP
  rw [getP_putP]
  split
  · rename_i h; rw [h]
  · omega
theorem ks_putP (T : Tb) (p : List Int) (n : Int) : ks (putP T p n) = if p ∈ ks T then ks T else ks T ++ [p] := by
  unfold putP ks
  have e : (T.any fun x => decide (x.1 = p)) = true ↔ p ∈ T.map (·.1) := by
    rw [List.any_eq_true, List.mem_map]
    constructor
    · rintro ⟨x, h1, h2⟩; exact ⟨x, h1, of_decide_eq_true h2⟩
    · rintro ⟨x, h1, h2⟩; exact ⟨x, h1, decide_eq_true h2⟩
  by_cases h : p ∈ T.map (·.1)
  · rw [if_pos (e.mpr h), if_pos h, List.map_map]
    apply List.map_congr_left
    intro x _
    simp only [Function.comp]
    split <;> rfl
  · rw [if_neg (fun z => h (e.mp z)), if_neg h]
    simp
theorem nodup_putP {T : Tb} (h : (ks T).Nodup) (p : List Int) (n : Int) : (ks (putP T p n)).Nodup := by
  rw [ks_putP]
  split
  · exact h
  · rename_i hp
    rw [List.nodup_append]
    refine ⟨h, by simp, fun x hx y hy => ?_⟩
    obtain rfl : y = p := by simpa using hy
    exact fun z => hp (z ▸ hx)
theorem mem_putP {T : Tb} {p q : List Int} {n : Int} (h : q ∈ ks (putP T p n)) : q ∈ ks T ∨ q = p := by
  rw [ks_putP] at h
  split at h
  · exact .inl h
  · simpa using h
theorem len_putP (T : Tb) (p : List Int) (n : Int) : (putP T p n).length ≤ T.length + 1 := by
  have := congrArg List.length (ks_putP T p n)
  unfold ks at this
  rw [List.length_map] at this
  rw [this]
  split
  · rw [List.length_map]; omega
  · rw [List.length_append, List.length_map]; simp
def adds (L : Tb) (T : Tb) : Tb := L.foldl addP T
def sumAt (L : Tb) (q : List Int) : Int := (L.map fun x => if x.1 = q then x.2 else 0).sum
theorem adds_get : ∀ (L T : Tb) (q : List Int), getP (adds L T) q = getP T q + sumAt L q
  | [], T, q => by simp [adds, sumAt]
  | x :: L, T, q => by
    show getP (adds L (addP T x)) q = _
    rw [adds_get L, getP_addP]
    unfold sumAt
    rw [List.map_cons, List.sum_cons]
    omega
theorem adds_nodup : ∀ (L T : Tb), (ks T).Nodup → (ks (adds L T)).Nodup
  | [], _, h => h
  | x :: L, T, h => adds_nodup L (addP T x) (nodup_putP h _ _)
theorem adds_mem : ∀ (L T : Tb) (q : List Int), q ∈ ks (adds L T) → q ∈ ks T ∨ q ∈ ks L
  | [], _, _, h => .inl h
  | x :: L, T, q, h => by
    rcases adds_mem L (addP T x) q h with z | z
    · rcases mem_putP z with z | z
      · exact .inl z
      · exact .inr (by unfold ks; rw [List.map_cons, z]; exact List.mem_cons_self ..)
    · exact .inr (by unfold ks; rw [List.map_cons]; exact List.mem_cons_of_mem _ z)
theorem adds_len : ∀ (L T : Tb), (adds L T).length ≤ T.length + L.length
  | [], _ => Nat.le_refl _
  | x :: L, T => by
    have h1 := adds_len L (addP T x)
    have h2 := len_putP T x.1 (getP T x.1 + x.2)
    show (adds L (addP T x)).length ≤ _
    have e : addP T x = putP T x.1 (getP T x.1 + x.2) := rfl
    rw [e] at h1
    rw [List.length_cons, e]
    omega
theorem adds_app (L M T : Tb) : adds (L ++ M) T = adds M (adds L T) := by unfold adds; rw [List.foldl_append]
theorem getP_mem {T : Tb} (h : (ks T).Nodup) {p : List Int} {n : Int} (m : (p, n) ∈ T) : getP T p = n := by
  induction T with
  | nil => cases m
  | cons x T ih =>
    unfold ks at h
    rw [List.map_cons, List.nodup_cons] at h
    unfold getP
    rw [List.find?_cons]
    rcases List.mem_cons.mp m with z | z
    · subst z; simp
    · have hx : ¬ x.1 = p := fun e => h.1 (by rw [e]; exact List.mem_map.mpr ⟨_, z, rfl⟩)
      simp only [hx, decide_false]
      exact ih h.2 z
theorem getP_none {T : Tb} {p : List Int} (h : p ∉ ks T) : getP T p = 0 := by
  unfold getP
  rw [find_none]
  · rfl
  · rw [List.any_eq_false]
    intro x hx z
    exact h (List.mem_map.mpr ⟨x, hx, of_decide_eq_true z⟩)
theorem getP_some {T : Tb} {p : List Int} (h : p ∈ ks T) : ∃ n, (p, n) ∈ T := by
  obtain ⟨x, hx, rfl⟩ := List.mem_map.mp h
  exact ⟨x.2, hx⟩
/-! ### one letter -/
def longest (most : Int) (l : Int) (p : List Int) : Int := if l > 0 then (p.length : Int) + 1 else most
def many (most : Int) (l : Int) (p : List Int) : Nat := ((if most < longest most l p then most else longest most l p) - (p.length : Int) + 1).toNat
def sg (l : Int) (k : Nat) : Int := if l < 0 ∧ (k : Int).fmod 2 = 1 then -1 else 1
def contrib (most l : Int) (x : List Int × Int) : Tb := (List.range (many most l x.1)).map fun k => (x.1 ++ List.replicate k (ab l), sg l k * x.2)
def allC (most l : Int) (T : Tb) : Tb := T.flatMap (contrib most l)
def dl (p : List Int) (r : List Int) : Int := if p = r.reverse then 1 else 0
theorem sg_zero (l : Int) : sg l 0 = 1 := by
  unfold sg
  rw [if_neg]
  rintro ⟨_, h⟩
  cases h
theorem sg_succ {l : Int} (h : l < 0) (k : Nat) : sg l (k + 1) = -sg l k := by
  unfold sg
  simp only [h, true_and]
  have e1 : ((k + 1 : Nat) : Int).fmod 2 = ((k + 1) % 2 : Nat) := by rw [Int.fmod_eq_emod_of_nonneg _ (by decide)]; rfl
  have e2 : (k : Int).fmod 2 = (k % 2 : Nat) := by rw [Int.fmod_eq_emod_of_nonneg _ (by decide)]; rfl
  rw [e1, e2]
  rcases Nat.mod_two_eq_zero_or_one k with z | z
  · have z1 : (k + 1) % 2 = 1 := by omega
    rw [z, z1]; rfl
  · have z1 : (k + 1) % 2 = 0 := by omega
    rw [z, z1]; rfl
theorem sg_pos {l : Int} (h : ¬ l < 0) (k : Nat) : sg l k = 1 := by
  unfold sg
  rw [if_neg (fun z => h z.1)]
def tsum (l : Int) (p : List Int) (m : Nat) (q : List Int) : Int := ((List.range m).map fun k => if p ++ List.replicate k (ab l) = q then sg l k else 0).sum
theorem tsum_nil (l : Int) (p : List Int) (m : Nat) : tsum l p (m + 1) [] = if p = [] then 1 else 0 := by
  unfold tsum
  rw [List.range_succ_eq_map, List.map_cons, List.sum_cons, List.map_map]
  have e : ((List.range m).map ((fun k => if p ++ List.replicate k (ab l) = [] then sg l k else 0) ∘ Nat.succ)).sum = 0 := by
    have : ∀ k, ((fun k => if p ++ List.replicate k (ab l) = [] then sg l k else 0) ∘ Nat.succ) k = 0 := fun k => by simp [Function.comp]
    induction m with
    | zero => rfl
    | succ m ih => rw [List.range_succ, List.map_append, List.sum_append, ih]; simp [this]
  rw [e]
  simp [sg_zero]
theorem sum_mul (c : Int) : ∀ (L : List Nat) (f : Nat → Int), (L.map fun k => c * f k).sum = c * (L.map f).sum
  | [], f => by simp
  | x :: L, f => by rw [List.map_cons, List.sum_cons, List.map_cons, List.sum_cons, sum_mul c L f, Int.mul_add]
theorem tsum_snoc (l : Int) (p : List Int) (m : Nat) (q : List Int) (a : Int) :
    tsum l p (m + 1) (q ++ [a]) = (if p = q ++ [a] then 1 else 0) + (if a = ab l then (if l < 0 then -(tsum l p m q) else ((List.range m).map fun k => if p ++ List.replicate k (ab l) = q then (1 : Int) else 0).sum) else 0) := by
  unfold tsum
  rw [List.range_succ_eq_map, List.map_cons, List.sum_cons, List.map_map]
  have e0 : (if p ++ List.replicate 0 (ab l) = q ++ [a] then sg l 0 else 0) = if p = q ++ [a] then 1 else 0 := by simp [sg_zero]
  rw [e0]
  congr 1
  have hk : ∀ k, ((fun k => if p ++ List.replicate k (ab l) = q ++ [a] then sg l k else 0) ∘ Nat.succ) k = if a = ab l then (if l < 0 then -1 * (if p ++ List.replicate k (ab l) = q then sg l k else 0) else (if p ++ List.replicate k (ab l) = q then (1 : Int) else 0)) else 0 := fun k => by
    simp only [Function.comp, Nat.succ_eq_add_one]
    have e : (p ++ List.replicate (k + 1) (ab l) = q ++ [a]) ↔ (p ++ List.replicate k (ab l) = q ∧ a = ab l) := by
      rw [List.replicate_succ', ← List.append_assoc]
      constructor
      · intro h
        obtain ⟨h1, h2⟩ := List.append_inj' h rfl
        exact ⟨h1, by simpa using h2.symm⟩
      · rintro ⟨h1, h2⟩
        rw [h1, h2]
    by_cases ha : a = ab l
    · rw [if_pos ha]
      by_cases hp : p ++ List.replicate k (ab l) = q
      · rw [if_pos (e.mpr ⟨hp, ha⟩), if_pos hp, if_pos hp]
        split
        · rename_i hl; rw [sg_succ hl]; omega
        · rename_i hl; rw [sg_pos hl]
      · rw [if_neg (fun z => hp (e.mp z).1), if_neg hp, if_neg hp]
        split <;> simp
    · rw [if_neg ha, if_neg (fun z => ha (e.mp z).2)]
  rw [List.map_congr_left fun k _ => hk k]
  split
  · split
    · rw [sum_mul]; omega
    · rfl
  · induction m with
    | zero => rfl
    | succ m ih => rw [List.range_succ, List.map_append, List.sum_append, ih]; simp
theorem tsum_neg {l : Int} (hl : l < 0) (p : List Int) : ∀ (rq : List Int) (m : Nat), rq.length < m + p.length → tsum l p m rq.reverse = stepF l (dl p) rq
  | [], 0, h => by
    have hp : ¬ p = [] := fun z => by subst z; simp at h
    show (0 : Int) = dl p []
    unfold dl
    rw [List.reverse_nil, if_neg hp]
  | [], m + 1, h => by
    rw [List.reverse_nil, tsum_nil]
    show _ = dl p []
    unfold dl
    rw [List.reverse_nil]
  | a :: r, 0, h => by
    have hp : ¬ p = (a :: r).reverse := fun z => by subst z; simp at h
    have ih := tsum_neg hl p r 0 (by simp at h ⊢; omega)
    unfold stepF
    rw [← ih]
    unfold dl
    rw [if_neg hp]
    show (0 : Int) = 0 + (if a = ab l then (if l < 0 then -0 else _) else 0)
    rw [if_pos hl]
    split <;> rfl
  | a :: r, m + 1, h => by
    have ih := tsum_neg hl p r m (by simp at h ⊢; omega)
    have e : dl p (a :: r) = if p = r.reverse ++ [a] then 1 else 0 := by unfold dl; rw [List.reverse_cons]
    rw [List.reverse_cons, tsum_snoc, ih, stepF_cons, e, if_pos hl, if_pos hl]
theorem tsum_pos {l : Int} (hl : ¬ l < 0) (p : List Int) (rq : List Int) (m : Nat) (h : m = 2 ∨ (m = 1 ∧ rq.length ≤ p.length)) : tsum l p m rq.reverse = stepF l (dl p) rq := by
  cases rq with
  | nil =>
    obtain ⟨m', rfl⟩ : ∃ m', m = m' + 1 := by
      rcases h with rfl | ⟨rfl, _⟩
      · exact ⟨1, rfl⟩
      · exact ⟨0, rfl⟩
    rw [List.reverse_nil, tsum_nil]
    show _ = dl p []
    unfold dl
    rw [List.reverse_nil]
  | cons a r =>
    unfold stepF
    rw [if_neg hl, List.reverse_cons]
    have e : dl p (a :: r) = if p = r.reverse ++ [a] then 1 else 0 := by unfold dl; rw [List.reverse_cons]
    rw [e]
    rcases h with rfl | ⟨rfl, h⟩
    · rw [tsum_snoc, if_neg hl]
      congr 1
      split
      · show ([0].map _).sum = _
        simp [dl]
      · rfl
    · rw [tsum_snoc, if_neg hl]
      congr 1
      split
      · have hp : ¬ p = r.reverse := fun z => by subst z; simp at h; omega
        unfold dl
        rw [if_neg hp]
        rfl
      · rfl
theorem sum_app (L M : Tb) (q : List Int) : sumAt (L ++ M) q = sumAt L q + sumAt M q := by
  unfold sumAt
  rw [List.map_append, List.sum_append]
theorem contrib_sum (most l : Int) (x : List Int × Int) (q : List Int) : sumAt (contrib most l x) q = x.2 * tsum l x.1 (many most l x.1) q := by
  unfold sumAt contrib tsum
  rw [List.map_map, ← sum_mul]
  congr 1
  apply List.map_congr_left
  intro k _
  simp only [Function.comp]
  split
  · rw [Int.mul_comm]
  · rw [Int.mul_zero]
theorem many_pos {most : Nat} {l : Int} {p : List Int} (hl : 0 < l) (hp : p.length ≤ most) : many most l p = 2 ∨ (many most l p = 1 ∧ p.length = most) := by
  unfold many longest
  rw [if_pos hl]
  by_cases h : p.length = most
  · right
    refine ⟨?_, h⟩
    rw [if_pos (by omega)]
    omega
  · left
    rw [if_neg (by omega)]
    omega
theorem many_neg {most : Nat} {l : Int} {p : List Int} (hl : ¬ 0 < l) (hp : p.length ≤ most) : many most l p = most - p.length + 1 := by
  unfold many longest
  rw [if_neg (by omega)]
  rw [if_neg (by omega)]
  omega
theorem contrib_step {most : Nat} {l : Int} (hl : l ≠ 0) {x : List Int × Int} (hx : x.1.length ≤ most) {q : List Int} (hq : q.length ≤ most) : sumAt (contrib most l x) q = x.2 * stepF l (dl x.1) q.reverse := by
  rw [contrib_sum]
  congr 1
  have e : q = q.reverse.reverse := by rw [List.reverse_reverse]
  conv => lhs; rw [e]
  have hq' : q.reverse.length ≤ most := by rw [List.length_reverse]; exact hq
  by_cases h : l < 0
  · refine tsum_neg h _ _ _ ?_
    rw [many_neg (by omega) hx]
    omega
  · refine tsum_pos h _ _ _ ?_
    rcases many_pos (l := l) (by omega) hx with z | ⟨z, z2⟩
    · exact .inl z
    · exact .inr ⟨z, by omega⟩
theorem lin_step (l : Int) : ∀ (T : Tb) (r : List Int), (T.map fun x => x.2 * stepF l (dl x.1) r).sum = stepF l (fun s => (T.map fun x => x.2 * dl x.1 s).sum) r
  | [], r => by
    show (0 : Int) = stepF l (fun _ => 0) r
    rw [stepF_zero]
  | x :: T, r => by
    rw [List.map_cons, List.sum_cons, lin_step l T r]
    have := stepF_add l x.2 (dl x.1) (fun s => (T.map fun x => x.2 * dl x.1 s).sum) r
    rw [← this]
    rfl
theorem lin_get {T : Tb} (h : (ks T).Nodup) (s : List Int) : (T.map fun x => x.2 * dl x.1 s).sum = getP T s.reverse := by
  induction T with
  | nil => rfl
  | cons x T ih =>
    unfold ks at h
    rw [List.map_cons, List.nodup_cons] at h
    rw [List.map_cons, List.sum_cons, ih h.2]
    unfold getP
    rw [List.find?_cons]
    by_cases hx : x.1 = s.reverse
    · have hn : getP T s.reverse = 0 := getP_none fun z => h.1 (by rw [hx]; exact z)
      unfold getP at hn
      rw [hn]
      simp [dl, hx]
    · simp [dl, hx]
theorem all_sum {most : Nat} {l : Int} (hl : l ≠ 0) {q : List Int} (hq : q.length ≤ most) : ∀ {T : Tb}, (∀ p ∈ ks T, p.length ≤ most) → sumAt (allC most l T) q = (T.map fun x => x.2 * stepF l (dl x.1) q.reverse).sum
  | [], _ => rfl
  | x :: T, h => by
    unfold allC
    rw [List.flatMap_cons, sum_app, List.map_cons, List.sum_cons, contrib_step hl (h x.1 (by unfold ks; simp)) hq]
    congr 1
    exact all_sum hl hq fun p hp => h p (by unfold ks at hp ⊢; rw [List.map_cons]; exact List.mem_cons_of_mem _ hp)
def Let3 (p : List Int) : Prop := ∀ a ∈ p, a = 1 ∨ a = 2 ∨ a = 3
structure TbOk (most : Nat) (T : Tb) (f : List Int → Int) : Prop where
  nd : (ks T).Nodup
  len : ∀ p ∈ ks T, p.length ≤ most ∧ Let3 p
  get : ∀ q : List Int, q.length ≤ most → getP T q = f q.reverse
  nz : ∀ x ∈ T, x.2 ≠ 0
def keepN (T : Tb) : Tb := T.filter fun x => decide (x.2 ≠ 0)
theorem keep_get {T : Tb} (h : (ks T).Nodup) (q : List Int) : getP (keepN T) q = getP T q := by
  induction T with
  | nil => rfl
  | cons x T ih =>
    unfold ks at h
    rw [List.map_cons, List.nodup_cons] at h
    have ih' := ih h.2
    unfold keepN at ih' ⊢
    rw [List.filter_cons]
    by_cases hz : x.2 = 0
    · rw [if_neg (by simp [hz]), ih']
      unfold getP
      rw [List.find?_cons]
      by_cases hx : x.1 = q
      · have hn : getP T q = 0 := getP_none fun z => h.1 (by rw [hx]; exact z)
        unfold getP at hn
        rw [hn]
        simp [hx, hz]
      · simp [hx]
    · rw [if_pos (by simp [hz])]
      unfold getP at ih' ⊢
      rw [List.find?_cons, List.find?_cons]
      by_cases hx : x.1 = q
      · simp [hx]
      · simp only [hx, decide_false]
        exact ih'
def nextT (most : Int) (l : Int) (T : Tb) : Tb := keepN (adds (allC most l T) [])
def expT (most : Int) (w : List Int) : Tb := w.foldl (fun T l => nextT most l T) [([], 1)]
theorem allC_mem {most : Nat} {l : Int} (hl : ab l = 1 ∨ ab l = 2 ∨ ab l = 3) (h0 : l ≠ 0) {T : Tb} (h : ∀ p ∈ ks T, p.length ≤ most ∧ Let3 p) {q : List Int} (hq : q ∈ ks (allC most l T)) : q.length ≤ most ∧ Let3 q := by
  unfold ks allC at hq
  obtain ⟨y, hy, rfl⟩ := List.mem_map.mp hq
  obtain ⟨x, hx, hy⟩ := List.mem_flatMap.mp hy
  unfold contrib at hy
  obtain ⟨k, hk, rfl⟩ := List.mem_map.mp hy
  obtain ⟨h1, h2⟩ := h x.1 (List.mem_map.mpr ⟨x, hx, rfl⟩)
  have hk' : k < many most l x.1 := List.mem_range.mp hk
  refine ⟨?_, fun a ha => ?_⟩
  · show (x.1 ++ List.replicate k (ab l)).length ≤ most
    rw [List.length_append, List.length_replicate]
    by_cases hp : 0 < l
    · rcases many_pos (l := l) hp h1 with z | ⟨z, z2⟩
      · -- two values: room for one letter more
        have : x.1.length < most ∨ x.1.length = most := by omega
        rcases this with q | q
        · omega
        · unfold many longest at z
          rw [if_pos hp, if_pos (by omega)] at z
          omega
      · omega
    · rw [many_neg hp h1] at hk'
      omega
  · rcases List.mem_append.mp ha with z | z
    · exact h2 a z
    · rw [List.eq_of_mem_replicate z]; exact hl
theorem next_ok {most : Nat} {l : Int} (hl : ab l = 1 ∨ ab l = 2 ∨ ab l = 3) (h0 : l ≠ 0) {T : Tb} {f : List Int → Int} (h : TbOk most T f) : TbOk most (nextT most l T) (stepF l f) := by
  have nd := adds_nodup (allC most l T) [] (by simp [ks])
  unfold nextT
  refine ⟨?_, fun p hp => ?_, fun q hq => ?_, fun x hx => ?_⟩
  · unfold keepN ks
    exact nd.sublist (List.filter_sublist.map _)
  · have : p ∈ ks (adds (allC most l T) []) := by
      unfold keepN ks at hp
      obtain ⟨x, hx, rfl⟩ := List.mem_map.mp hp
      exact List.mem_map.mpr ⟨x, (List.mem_filter.mp hx).1, rfl⟩
    rcases adds_mem _ _ _ this with z | z
    · simp [ks] at z
    · exact allC_mem hl h0 h.len z
  · rw [keep_get nd, adds_get]
    have e0 : getP [] q = 0 := rfl
    rw [e0, Int.zero_add, all_sum h0 hq fun p hp => (h.len p hp).1, lin_step]
    apply stepF_congr
    intro s hs
    rw [lin_get h.nd, h.get s.reverse (by rw [List.length_reverse] at hs ⊢; omega), List.reverse_reverse]
  · unfold keepN at hx
    simpa using (List.mem_filter.mp hx).2
def WordOk (w : List Int) : Prop := ∀ l ∈ w, -3 ≤ l ∧ l ≤ 3 ∧ l ≠ 0
theorem ab_ok {l : Int} (h : -3 ≤ l ∧ l ≤ 3 ∧ l ≠ 0) : ab l = 1 ∨ ab l = 2 ∨ ab l = 3 := by
  unfold ab
  split <;> omega
theorem start_ok (most : Nat) : TbOk most [([], 1)] (fun rp => if rp = [] then 1 else 0) := by
  refine ⟨by simp [ks], fun p hp => ?_, fun q hq => ?_, fun x hx => ?_⟩
  · obtain rfl : p = [] := by simpa [ks] using hp
    exact ⟨by simp, fun a ha => absurd ha (by simp)⟩
  · unfold getP
    cases q with
    | nil => rfl
    | cons a q => simp
  · obtain rfl : x = ([], 1) := by simpa using hx
    decide
theorem expT_snoc (most : Int) (w : List Int) (l : Int) : expT most (w ++ [l]) = nextT most l (expT most w) := by
  unfold expT
  rw [List.foldl_append]
  rfl
theorem expT_ok (most : Nat) : ∀ {w : List Int}, WordOk w → TbOk most (expT most w) (expF w) := by
  intro w
  have key : ∀ (n : Nat) (w : List Int), w.length = n → WordOk w → TbOk most (expT most w) (expF w) := by
    intro n
    induction n with
    | zero =>
      intro w hw _
      obtain rfl : w = [] := List.length_eq_zero_iff.mp hw
      exact start_ok most
    | succ n ih =>
      intro w hw ho
      have hne : w ≠ [] := fun z => by subst z; simp at hw
      have e := List.dropLast_concat_getLast hne
      have hd : w.dropLast.length = n := by rw [List.length_dropLast]; omega
      have i1 := ih w.dropLast hd fun l hl => ho l (List.dropLast_subset w hl)
      have hg := ho (w.getLast hne) (List.getLast_mem hne)
      rw [← e, expT_snoc, expF_snoc]
      exact next_ok (ab_ok hg) hg.2.2 i1
  exact key w.length w rfl
/-! ### all patterns -/
def pats : Nat → List (List Int)
  | 0 => [[]]
  | n + 1 => (pats n).flatMap fun p => [p ++ [1], p ++ [2], p ++ [3]]
theorem mem_pats : ∀ {n : Nat} {p : List Int}, p ∈ pats n ↔ p.length = n ∧ Let3 p
  | 0, p => by
    unfold pats
    constructor
    · intro h
      obtain rfl : p = [] := by simpa using h
      exact ⟨rfl, fun a ha => absurd ha (by simp)⟩
    · rintro ⟨h, _⟩
      rw [List.length_eq_zero_iff.mp h]
      simp
  | n + 1, p => by
    unfold pats
    rw [List.mem_flatMap]
    constructor
    · rintro ⟨q, hq, hp⟩
      obtain ⟨h1, h2⟩ := mem_pats.mp hq
      have key : ∀ a : Int, (a = 1 ∨ a = 2 ∨ a = 3) → p = q ++ [a] → p.length = n + 1 ∧ Let3 p := by
        rintro a ha rfl
        refine ⟨by simp [h1], fun b hb => ?_⟩
        rcases List.mem_append.mp hb with z | z
        · exact h2 b z
        · obtain rfl : b = a := by simpa using z
          exact ha
      simp only [List.mem_cons, List.not_mem_nil, or_false] at hp
      rcases hp with hp | hp | hp
      · exact key 1 (.inl rfl) hp
      · exact key 2 (.inr (.inl rfl)) hp
      · exact key 3 (.inr (.inr rfl)) hp
    · rintro ⟨h1, h2⟩
      have hne : p ≠ [] := fun z => by subst z; simp at h1
      have e := List.dropLast_concat_getLast hne
      refine ⟨p.dropLast, mem_pats.mpr ⟨by rw [List.length_dropLast]; omega, fun a ha => h2 a (List.dropLast_subset p ha)⟩, ?_⟩
      rcases h2 _ (List.getLast_mem hne) with z | z | z
      · rw [z] at e; simp [e]
      · rw [z] at e; simp [e]
      · rw [z] at e; simp [e]
theorem nodup_pats : ∀ n : Nat, (pats n).Nodup
  | 0 => by simp [pats]
  | n + 1 => by
    unfold pats
    have key : ∀ L : List (List Int), L.Nodup → (L.flatMap fun p => [p ++ [(1 : Int)], p ++ [2], p ++ [3]]).Nodup := by
      intro L
      induction L with
      | nil => intro _; simp
      | cons p L ih =>
        intro h
        rw [List.nodup_cons] at h
        rw [List.flatMap_cons, List.nodup_append]
        refine ⟨by simp, ih h.2, fun x hx y hy z => ?_⟩
        subst z
        obtain ⟨q, hq, hy⟩ := List.mem_flatMap.mp hy
        have : p = q := by
          have e1 : x.dropLast = p := by
            simp only [List.mem_cons, List.not_mem_nil, or_false] at hx
            rcases hx with rfl | rfl | rfl <;> simp
          have e2 : x.dropLast = q := by
            simp only [List.mem_cons, List.not_mem_nil, or_false] at hy
            rcases hy with rfl | rfl | rfl <;> simp
          exact e1.symm.trans e2
        subst this
        exact h.1 hq
    exact key _ (nodup_pats n)
theorem len_pats : ∀ n : Nat, (pats n).length = 3 ^ n
  | 0 => rfl
  | n + 1 => by
    unfold pats
    have key : ∀ L : List (List Int), (L.flatMap fun p => [p ++ [(1 : Int)], p ++ [2], p ++ [3]]).length = L.length * 3 := by
      intro L
      induction L with
      | nil => rfl
      | cons p L ih => rw [List.flatMap_cons, List.length_append, ih, List.length_cons]; simp; omega
    rw [key, len_pats n, Nat.pow_succ]
theorem tb_len {most : Nat} (hm : most ≤ 4) {T : Tb} {f : List Int → Int} (h : TbOk most T f) : T.length ≤ 121 := by
  have := nodup_len (m := pats 0 ++ pats 1 ++ pats 2 ++ pats 3 ++ pats 4) h.nd fun p hp => by
    obtain ⟨h1, h2⟩ := h.len p hp
    simp only [List.mem_append, mem_pats, h2, and_true]
    omega
  unfold ks at this
  rw [List.length_map] at this
  simp only [List.length_append, len_pats] at this
  omega
/-- the own list of the law -/
def dueL (most : Nat) (w : List Int) : Tb := (List.range most).flatMap fun i => keepN ((pats (i + 1)).map fun p => (p, expF w p.reverse))
theorem due_mem {most : Nat} {w : List Int} {x : List Int × Int} : x ∈ dueL most w ↔ (1 ≤ x.1.length ∧ x.1.length ≤ most ∧ Let3 x.1) ∧ x.2 = expF w x.1.reverse ∧ x.2 ≠ 0 := by
  unfold dueL keepN
  rw [List.mem_flatMap]
  constructor
  · rintro ⟨i, hi, hx⟩
    rw [List.mem_filter] at hx
    obtain ⟨p, hp, rfl⟩ := List.mem_map.mp hx.1
    obtain ⟨h1, h2⟩ := mem_pats.mp hp
    have hi' := List.mem_range.mp hi
    exact ⟨⟨by show 1 ≤ p.length; omega, by show p.length ≤ most; omega, h2⟩, rfl, by simpa using hx.2⟩
  · rintro ⟨⟨h1, h2, h3⟩, h4, h5⟩
    refine ⟨x.1.length - 1, List.mem_range.mpr (by omega), List.mem_filter.mpr ⟨List.mem_map.mpr ⟨x.1, mem_pats.mpr ⟨by omega, h3⟩, ?_⟩, by simpa using h5⟩⟩
    rw [← h4]
theorem due_nodup (most : Nat) (w : List Int) : (dueL most w).Nodup := by
  unfold dueL
  have key : ∀ L : List Nat, L.Nodup → (L.flatMap fun i => keepN ((pats (i + 1)).map fun p => (p, expF w p.reverse))).Nodup := by
    intro L
    induction L with
    | nil => intro _; simp
    | cons i L ih =>
      intro h
      rw [List.nodup_cons] at h
      rw [List.flatMap_cons, List.nodup_append]
      have inj : ((pats (i + 1)).map fun p => (p, expF w p.reverse)).Nodup := by
        have := nodup_pats (i + 1)
        rw [List.nodup_iff_pairwise_ne] at this ⊢
        rw [List.pairwise_map]
        exact this.imp fun h z => h (congrArg Prod.fst z)
      refine ⟨inj.sublist List.filter_sublist, ih h.2, fun x hx y hy z => ?_⟩
      subst z
      obtain ⟨j, hj, hy⟩ := List.mem_flatMap.mp hy
      unfold keepN at hx hy
      obtain ⟨p, hp, e1⟩ := List.mem_map.mp (List.mem_filter.mp hx).1
      obtain ⟨q, hq, e2⟩ := List.mem_map.mp (List.mem_filter.mp hy).1
      have l1 := (mem_pats.mp hp).1
      have l2 := (mem_pats.mp hq).1
      have e3 : p = q := by rw [← e1] at e2; exact (congrArg Prod.fst e2).symm
      subst e3
      have : i = j := by omega
      subst this
      exact h.1 hj
  exact key _ List.nodup_range
def toldL (most : Nat) (w : List Int) : Tb := (expT most w).filter fun x => decide (x.1 ≠ [])
theorem told_due {most : Nat} {w : List Int} (hw : WordOk w) : (toldL most w).Perm (dueL most w) := by
  have h := expT_ok most hw
  have nd : (expT most w).Nodup := by
    have := h.nd
    unfold ks at this
    rw [List.nodup_iff_pairwise_ne] at this ⊢
    rw [List.pairwise_map] at this
    exact this.imp fun h z => h (congrArg Prod.fst z)
  refine perm_nodup (nd.sublist List.filter_sublist) (due_nodup most w) fun x => ?_
  rw [due_mem]
  unfold toldL
  rw [List.mem_filter]
  constructor
  · rintro ⟨h1, h2⟩
    have hne : x.1 ≠ [] := by simpa using h2
    obtain ⟨l1, l2⟩ := h.len x.1 (List.mem_map.mpr ⟨x, h1, rfl⟩)
    have hp : 1 ≤ x.1.length := by
      cases hx : x.1 with
      | nil => exact absurd hx hne
      | cons a r => simp
    exact ⟨⟨hp, l1, l2⟩, by rw [← h.get x.1 l1, getP_mem h.nd h1], h.nz x h1⟩
  · rintro ⟨⟨l1, l2, l3⟩, h4, h5⟩
    have hg := h.get x.1 l2
    rw [← h4] at hg
    have hm : x.1 ∈ ks (expT most w) := by
      by_cases z : x.1 ∈ ks (expT most w)
      · exact z
      · rw [getP_none z] at hg; exact absurd hg.symm h5
    obtain ⟨n, hn⟩ := getP_some hm
    have e : n = x.2 := by rw [← getP_mem h.nd hn, hg]
    rw [e] at hn
    refine ⟨hn, ?_⟩
    have : x.1 ≠ [] := fun z => by rw [z] at l1; simp at l1
    simpa using this
end L2.VL

/-! VY: words that come to nothing; expansions tell them (Magnus), in plain Lean. -/
namespace L2.VL
open PySem
theorem ab_neg (l : Int) : ab (-l) = ab l := by unfold ab; split <;> split <;> omega
theorem stepF_inv {l : Int} (h0 : l ≠ 0) (f : List Int → Int) : ∀ r : List Int, stepF (-l) (stepF l f) r = f r
  | [] => rfl
  | a :: r => by
    rw [stepF_cons, stepF_cons, ab_neg]
    by_cases ha : a = ab l
    · rw [if_pos ha, if_pos ha]
      by_cases hl : l < 0
      · rw [if_pos hl, if_neg (by omega)]; omega
      · rw [if_neg hl, if_pos (by omega), stepF_inv h0 f r]; omega
    · rw [if_neg ha, if_neg ha]; omega
/-- one letter more, kept or left out -/
def redS (k : List Int) (l : Int) : List Int := if k.getLast? = some (-l) then k.dropLast else k ++ [l]
def leftOut (w : List Int) : List Int := w.foldl redS []
def NZ (w : List Int) : Prop := ∀ l ∈ w, l ≠ 0
/-- no opposite neighbours -/
def Red : List Int → Prop
  | a :: b :: r => a ≠ -b ∧ Red (b :: r)
  | _ => True
theorem last_split {k : List Int} {a : Int} (h : k.getLast? = some a) : ∃ k', k = k' ++ [a] := by
  have hne : k ≠ [] := fun z => by subst z; simp at h
  refine ⟨k.dropLast, ?_⟩
  have e := List.dropLast_concat_getLast hne
  rw [List.getLast?_eq_some_getLast hne] at h
  rw [← Option.some.inj h]
  exact e.symm
theorem expF_redS {k : List Int} {l : Int} (h0 : l ≠ 0) : expF (redS k l) = stepF l (expF k) := by
  unfold redS
  split
  · rename_i h
    obtain ⟨k', rfl⟩ := last_split h
    rw [List.dropLast_concat, expF_snoc]
    funext r
    have := stepF_inv (l := -l) (by omega) (expF k') r
    rw [Int.neg_neg] at this
    exact this.symm
  · rw [expF_snoc]
theorem expF_fold : ∀ (w k : List Int), NZ w → expF (w.foldl redS k) = w.foldl (fun f l => stepF l f) (expF k)
  | [], _, _ => rfl
  | l :: w, k, h => by
    rw [List.foldl_cons, List.foldl_cons, expF_fold w (redS k l) fun x hx => h x (List.mem_cons_of_mem _ hx), expF_redS (h l (List.mem_cons_self ..))]
theorem expF_left {w : List Int} (h : NZ w) : expF (leftOut w) = expF w := by
  unfold leftOut
  rw [expF_fold w [] h]
  rfl
theorem left_snoc (w : List Int) (l : Int) : leftOut (w ++ [l]) = redS (leftOut w) l := by
  unfold leftOut
  rw [List.foldl_append]
  rfl
theorem red_snoc : ∀ {k : List Int} {l : Int}, Red k → k.getLast? ≠ some (-l) → Red (k ++ [l])
  | [], _, _, _ => trivial
  | [a], l, _, h => ⟨fun z => h (by simp [z]), trivial⟩
  | a :: b :: r, l, ⟨h1, h2⟩, h => ⟨h1, red_snoc (k := b :: r) h2 (fun z => h (by rw [List.getLast?_cons_cons]; exact z))⟩
theorem red_dropLast : ∀ {k : List Int}, Red k → Red k.dropLast
  | [], _ => trivial
  | [_], _ => trivial
  | [_, _], _ => trivial
  | a :: b :: c :: r, ⟨h1, h2⟩ => ⟨h1, red_dropLast (k := b :: c :: r) h2⟩
theorem red_redS {k : List Int} {l : Int} (h : Red k) : Red (redS k l) := by
  unfold redS
  split
  · exact red_dropLast h
  · rename_i h2; exact red_snoc h h2
theorem red_fold : ∀ (w k : List Int), Red k → Red (w.foldl redS k)
  | [], _, h => h
  | l :: w, k, h => red_fold w (redS k l) (red_redS h)
theorem red_left (w : List Int) : Red (leftOut w) := red_fold w [] trivial
theorem red_tail {a : Int} {r : List Int} (h : Red (a :: r)) : Red r := by
  cases r with
  | nil => trivial
  | cons b r => exact h.2
/-- a word without opposite neighbours stays -/
theorem fold_red : ∀ (w k : List Int), Red (k ++ w) → w.foldl redS k = k ++ w
  | [], k, _ => by simp
  | l :: w, k, h => by
    have hk : k.getLast? ≠ some (-l) := by
      intro z
      obtain ⟨k', rfl⟩ := last_split z
      clear z
      induction k' with
      | nil => exact h.1 rfl
      | cons a k' ih => exact ih (red_tail h)
    have e : redS k l = k ++ [l] := by unfold redS; rw [if_neg hk]
    rw [List.foldl_cons, e, fold_red w (k ++ [l]) (by simpa using h)]
    simp
theorem left_red {w : List Int} (h : Red w) : leftOut w = w := by
  have := fold_red w [] (by simpa using h)
  unfold leftOut
  simpa using this
theorem redS_len (k : List Int) (l : Int) : (redS k l).length ≤ k.length + 1 := by
  unfold redS
  split
  · rw [List.length_dropLast]; omega
  · simp
theorem fold_len : ∀ (w k : List Int), (w.foldl redS k).length ≤ k.length + w.length
  | [], k => by simp
  | l :: w, k => by
    have h1 := fold_len w (redS k l)
    have h2 := redS_len k l
    rw [List.foldl_cons, List.length_cons]
    omega
theorem left_len (w : List Int) : (leftOut w).length ≤ w.length := by
  have := fold_len w []
  unfold leftOut
  simpa using this
theorem redS_mem {k : List Int} {l x : Int} (h : x ∈ redS k l) : x ∈ k ∨ x = l := by
  unfold redS at h
  split at h
  · exact .inl (List.dropLast_subset k h)
  · simpa using h
theorem fold_mem : ∀ (w k : List Int) {x : Int}, x ∈ w.foldl redS k → x ∈ k ∨ x ∈ w
  | [], k, x, h => .inl h
  | l :: w, k, x, h => by
    rcases fold_mem w (redS k l) h with z | z
    · rcases redS_mem z with z | z
      · exact .inl z
      · exact .inr (by rw [z]; exact List.mem_cons_self ..)
    · exact .inr (List.mem_cons_of_mem _ z)
theorem left_mem {w : List Int} {x : Int} (h : x ∈ leftOut w) : x ∈ w := by
  rcases fold_mem w [] h with z | z
  · cases z
  · exact z
theorem left_ok {w : List Int} (h : WordOk w) : WordOk (leftOut w) := fun l hl => h l (left_mem hl)
theorem nz_of {w : List Int} (h : WordOk w) : NZ w := fun l hl => (h l hl).2.2
/-- a pair may be taken out anywhere -/
theorem redS_pair {k : List Int} {x : Int} (h : Red k) (hx : x ≠ 0) : redS (redS k x) (-x) = k := by
  unfold redS
  by_cases h1 : k.getLast? = some (-x)
  · rw [if_pos h1]
    obtain ⟨k', rfl⟩ := last_split h1
    rw [List.dropLast_concat, if_neg]
    intro z
    rw [Int.neg_neg] at z
    obtain ⟨k2, rfl⟩ := last_split z
    clear z h1
    induction k2 with
    | nil => exact h.1 (by omega)
    | cons a k2 ih => exact ih (red_tail h)
  · rw [if_neg h1, if_pos (by simp), List.dropLast_concat]
theorem left_pair (u v : List Int) {x : Int} (hx : x ≠ 0) : leftOut (u ++ [x, -x] ++ v) = leftOut (u ++ v) := by
  unfold leftOut
  rw [List.foldl_append, List.foldl_append, List.foldl_append]
  congr 1
  show redS (redS (u.foldl redS []) x) (-x) = _
  exact redS_pair (red_fold u [] trivial) hx
/-! ### a word that does not come to nothing has a number -/
/-- no equal neighbours -/
def Alt : List Int → Prop
  | a :: b :: r => a ≠ b ∧ Alt (b :: r)
  | _ => True
theorem alt_tail {a : Int} {r : List Int} (h : Alt (a :: r)) : Alt r := by
  cases r with
  | nil => trivial
  | cons b r => exact h.2
theorem stepF_other {l : Int} (f : List Int → Int) {s : List Int} (h : s.head? ≠ some (ab l)) : stepF l f s = f s := by
  cases s with
  | nil => rfl
  | cons a r =>
    rw [stepF_cons, if_neg (fun z => h (by rw [z]; rfl))]
    omega
theorem alt_head {a : Int} {t : List Int} (h : Alt (a :: t)) : t.head? ≠ some a := by
  cases t with
  | nil => simp
  | cons b t => intro z; exact h.1 (by simpa using z.symm)
/-- what a word without opposite neighbours comes to: a the last letter's, r the syllables' letters ahead, turned about, e the last exponent, P the product of the others -/
structure Syl (w : List Int) (l a : Int) (r : List Int) (e P : Int) : Prop where
  last : w.getLast? = some l
  ha : a = ab l
  alt : Alt (a :: r)
  P0 : P ≠ 0
  sg : (0 < l → 0 < e) ∧ (l < 0 → e < 0)
  l0 : l ≠ 0
  len : r.length + 1 ≤ w.length
  A : ∀ s : List Int, Alt s → s.head? ≠ some a → r.length ≤ s.length → expF w s = if s = r then P else 0
  B : ∀ t : List Int, Alt (a :: t) → r.length ≤ t.length → expF w (a :: t) = if t = r then e * P else 0
theorem step_same {l : Int} (f : List Int → Int) {t : List Int} (h : Alt (ab l :: t)) : stepF l f (ab l :: t) = f (ab l :: t) + (if l < 0 then -(f t) else f t) := by
  rw [stepF_cons, if_pos rfl]
  congr 1
  split
  · rw [stepF_other f (alt_head h)]
  · rfl
theorem syl_one {l : Int} (h0 : l ≠ 0) : Syl [l] l (ab l) [] (if l < 0 then -1 else 1) 1 := by
  have e0 : expF [l] = stepF l (fun rp => if rp = [] then 1 else 0) := rfl
  refine ⟨rfl, rfl, trivial, by decide, ⟨fun h => ?_, fun h => ?_⟩, h0, by simp, fun s hs hh hl => ?_, fun t ht hl => ?_⟩
  · rw [if_neg (by omega)]; decide
  · rw [if_pos h]; decide
  · rw [e0, stepF_other _ hh]
  · rw [e0, step_same _ ht]
    have : ¬ (ab l :: t = []) := by simp
    rw [if_neg this]
    by_cases ht : t = []
    · rw [if_pos ht, if_pos ht]; split <;> omega
    · rw [if_neg ht, if_neg ht]; split <;> omega
theorem syl_snoc {w : List Int} {l a : Int} {r : List Int} {e P : Int} (h : Syl w l a r e P) {m : Int} (hm : m ≠ 0) (hn : l ≠ -m) : ∃ a' r' e' P', Syl (w ++ [m]) m a' r' e' P' := by
  have hP := h.P0
  have he : e ≠ 0 := by
    have := h.sg; have := h.l0
    omega
  by_cases hs : ab m = a
  · have hlm : l = m := by
      have := h.ha
      unfold ab at this hs
      split at hs <;> split at this <;> omega
    subst hlm
    refine ⟨a, r, e + (if l < 0 then -1 else 1), P, ⟨by simp, h.ha, h.alt, h.P0, ?_, hm, ?_, fun s hs1 hh hl => ?_, fun t ht hl => ?_⟩⟩
    · have := h.sg
      constructor
      · intro z; rw [if_neg (by omega)]; have := this.1 z; omega
      · intro z; rw [if_pos z]; have := this.2 z; omega
    · have := h.len; simp; omega
    · rw [expF_snoc, stepF_other _ (by rw [hs]; exact hh)]
      exact h.A s hs1 hh hl
    · have ht' : Alt (ab l :: t) := by rw [hs]; exact ht
      have hB := h.B t ht hl
      have hA := h.A t (alt_tail ht) (alt_head ht) hl
      rw [expF_snoc, ← hs, step_same _ ht', hs, hB, hA]
      by_cases hr : t = r
      · rw [if_pos hr, if_pos hr, if_pos hr, Int.add_mul]
        split <;> simp
      · rw [if_neg hr, if_neg hr, if_neg hr]
        split <;> simp
  · have key : ∀ s : List Int, Alt s → s.head? ≠ some (ab m) → (a :: r).length ≤ s.length → expF w s = if s = a :: r then e * P else 0 := by
      intro s hs1 hh hl
      rw [List.length_cons] at hl
      by_cases hb : s.head? = some a
      · cases s with
        | nil => simp at hb
        | cons c t =>
          obtain rfl : c = a := by simpa using hb
          rw [h.B t hs1 (by rw [List.length_cons] at hl; omega)]
          simp
      · rw [h.A s hs1 hb (by omega)]
        have n1 : s ≠ r := fun z => by subst z; omega
        have n2 : s ≠ a :: r := fun z => by subst z; simp at hb
        rw [if_neg n1, if_neg n2]
    refine ⟨ab m, a :: r, if m < 0 then -1 else 1, e * P, ⟨by simp, rfl, ⟨hs, h.alt⟩, Int.mul_ne_zero he hP, ⟨fun z => ?_, fun z => ?_⟩, hm, ?_, fun s hs1 hh hl => ?_, fun t ht hl => ?_⟩⟩
    · rw [if_neg (by omega)]; decide
    · rw [if_pos z]; decide
    · have := h.len; simp; omega
    · rw [expF_snoc, stepF_other _ hh]
      exact key s hs1 hh hl
    · have k2 := key t (alt_tail ht) (alt_head ht) hl
      have k1 : expF w (ab m :: t) = 0 := by
        rw [List.length_cons] at hl
        rw [h.A (ab m :: t) ht (by simpa using hs) (by rw [List.length_cons]; omega), if_neg]
        intro z
        have := congrArg List.length z
        rw [List.length_cons] at this
        omega
      rw [expF_snoc, step_same _ ht, k1, k2]
      by_cases hr : t = a :: r
      · rw [if_pos hr, if_pos hr]; split <;> omega
      · rw [if_neg hr, if_neg hr]; split <;> simp
theorem red_last : ∀ {k : List Int} {l m : Int}, Red (k ++ [l, m]) → l ≠ -m
  | [], _, _, h => h.1
  | _ :: _, _, _, h => red_last (red_tail h)
theorem red_front : ∀ {k v : List Int}, Red (k ++ v) → Red k
  | [], _, _ => trivial
  | [_], _, _ => trivial
  | a :: b :: k, v, h => ⟨h.1, red_front (k := b :: k) (v := v) h.2⟩
theorem syl_of : ∀ (n : Nat) (w : List Int), w.length = n + 1 → NZ w → Red w → ∃ l a r e P, Syl w l a r e P
  | 0, w, hl, hz, hr => by
    match w, hl with
    | [l], _ => exact ⟨l, _, _, _, _, syl_one (hz l (by simp))⟩
  | n + 1, w, hl, hz, hr => by
    have hne : w ≠ [] := fun z => by subst z; simp at hl
    have e := List.dropLast_concat_getLast hne
    have hd : w.dropLast.length = n + 1 := by rw [List.length_dropLast]; omega
    have hr' : Red (w.dropLast ++ [w.getLast hne]) := by rw [e]; exact hr
    obtain ⟨l, a, r, ee, P, S⟩ := syl_of n w.dropLast hd (fun x hx => hz x (List.dropLast_subset w hx)) (red_front hr')
    obtain ⟨k', hk⟩ := last_split S.last
    have hn : l ≠ -(w.getLast hne) := by
      rw [hk] at hr'
      exact red_last (by simpa using hr')
    obtain ⟨a', r', e', P', S'⟩ := syl_snoc S (hz _ (List.getLast_mem hne)) hn
    rw [e] at S'
    exact ⟨_, a', r', e', P', S'⟩
/-- Magnus: a word without opposite neighbours, not empty, has a number at some pattern no longer than itself -/
theorem magnus {w : List Int} (hw : NZ w) (hr : Red w) (hne : w ≠ []) : ∃ s : List Int, s ≠ [] ∧ s.length ≤ w.length ∧ expF w s ≠ 0 := by
  have hl : w.length = (w.length - 1) + 1 := by
    have : 0 < w.length := List.length_pos_iff.mpr hne
    omega
  obtain ⟨l, a, r, e, P, S⟩ := syl_of _ w hl hw hr
  have he : e ≠ 0 := by
    have := S.sg; have := S.l0
    omega
  refine ⟨a :: r, by simp, by rw [List.length_cons]; exact S.len, ?_⟩
  rw [S.B r S.alt (Nat.le_refl _), if_pos rfl]
  exact Int.mul_ne_zero he S.P0
/-! ### tables of patterns -/
def KOk (most : Nat) (T : Tb) : Prop := (ks T).Nodup ∧ ∀ p ∈ ks T, p.length ≤ most ∧ Let3 p
theorem len_flat (f : Nat → List (List Int)) : ∀ L : List Nat, (L.flatMap f).length = (L.map fun i => (f i).length).sum
  | [] => rfl
  | a :: L => by rw [List.flatMap_cons, List.length_append, len_flat f L, List.map_cons, List.sum_cons]
theorem kok_len {most : Nat} (hm : most ≤ 10) {T : Tb} (h : KOk most T) : T.length ≤ 88573 := by
  have := nodup_len (m := (List.range 11).flatMap pats) h.1 fun p hp => by
    obtain ⟨h1, h2⟩ := h.2 p hp
    exact List.mem_flatMap.mpr ⟨p.length, List.mem_range.mpr (by omega), mem_pats.mpr ⟨rfl, h2⟩⟩
  unfold ks at this
  rw [List.length_map, len_flat] at this
  have e : ((List.range 11).map fun i => (pats i).length) = (List.range 11).map fun i => 3 ^ i := List.map_congr_left fun i _ => len_pats i
  rw [e] at this
  exact this
theorem kok_adds {most : Nat} {L T : Tb} (h : KOk most T) (hL : ∀ p ∈ ks L, p.length ≤ most ∧ Let3 p) : KOk most (adds L T) :=
  ⟨adds_nodup L T h.1, fun p hp => by
    rcases adds_mem L T p hp with z | z
    · exact h.2 p z
    · exact hL p z⟩
/-! ### depths -/
/-- d tells the least length of a number of f -/
def DepIs (f : List Int → Int) (d : PyData) : Prop := (d = .none ∧ ∀ s, s ≠ [] → f s = 0) ∨ ∃ n : Nat, 1 ≤ n ∧ d = .int n ∧ (∀ s, s ≠ [] → s.length < n → f s = 0) ∧ ∃ s, s.length = n ∧ f s ≠ 0
theorem dep_unique {f : List Int → Int} {d d' : PyData} (h : DepIs f d) (h' : DepIs f d') : d = d' := by
  have ne : ∀ {s : List Int} {n : Nat}, s.length = n → 1 ≤ n → s ≠ [] := fun h1 h2 z => by subst z; rw [← h1] at h2; exact absurd h2 (by decide)
  rcases h with ⟨rfl, h1⟩ | ⟨n, h1, rfl, h2, s, h3, h4⟩
  · rcases h' with ⟨rfl, _⟩ | ⟨m, k1, rfl, k2, t, k3, k4⟩
    · rfl
    · exact absurd (h1 t (ne k3 k1)) k4
  · rcases h' with ⟨rfl, k1⟩ | ⟨m, k1, rfl, k2, t, k3, k4⟩
    · exact absurd (k1 s (ne h3 h1)) h4
    · have e : n = m := by
        rcases Nat.lt_trichotomy n m with z | z | z
        · exact absurd (k2 s (ne h3 h1) (by omega)) h4
        · exact z
        · exact absurd (h2 t (ne k3 k1) (by omega)) k4
      rw [e]
theorem expF_nil : ∀ w : List Int, expF w [] = 1 := by
  intro w
  have : ∀ (w : List Int) (f : List Int → Int), w.foldl (fun f l => stepF l f) f [] = f [] := by
    intro w
    induction w with
    | nil => intro f; rfl
    | cons l w ih => intro f; rw [List.foldl_cons, ih]; rfl
  exact (this w _).trans rfl
def d0 (r : List Int) : Int := if r = [] then 1 else 0
theorem expF_eq (w : List Int) : expF w = w.foldl (fun f l => stepF l f) d0 := rfl
/-- a letter 1 put ahead of all patterns -/
def shF (f : List Int → Int) : List Int → Int
  | [] => 0
  | [a] => if a = 1 then f [] else 0
  | a :: b :: r => shF (fun s => f (a :: s)) (b :: r)
theorem shF_congr : ∀ {r : List Int} {f g : List Int → Int}, (∀ s, s.length < r.length → f s = g s) → shF f r = shF g r
  | [], _, _, _ => rfl
  | [a], f, g, h => by
    unfold shF
    rw [h [] (by simp)]
  | a :: b :: r, f, g, h => by
    unfold shF
    exact shF_congr fun s hs => h (a :: s) (by simp only [List.length_cons] at *; omega)
theorem shF_zero : ∀ r : List Int, shF (fun _ => 0) r = 0
  | [] => rfl
  | [a] => by unfold shF; split <;> rfl
  | a :: b :: r => by unfold shF; exact shF_zero (b :: r)
theorem shF_add (f g : List Int → Int) : ∀ r : List Int, shF (fun s => f s + g s) r = shF f r + shF g r
  | [] => rfl
  | [a] => by unfold shF; split <;> rfl
  | a :: b :: r => by
    unfold shF
    exact shF_add (fun s => f (a :: s)) (fun s => g (a :: s)) (b :: r)
theorem shF_mul (c : Int) : ∀ (r : List Int) (f : List Int → Int), shF (fun s => c * f s) r = c * shF f r
  | [], f => by unfold shF; rw [Int.mul_zero]
  | [a], f => by unfold shF; split <;> simp
  | a :: b :: r, f => by
    unfold shF
    exact shF_mul c (b :: r) (fun s => f (a :: s))
theorem step_shF (l : Int) : ∀ (r : List Int) (f : List Int → Int), stepF l (shF f) r = shF (stepF l f) r
  | [], f => rfl
  | [a], f => by
    rw [stepF_cons]
    have e : shF f [] = 0 := rfl
    have e2 : stepF l (shF f) [] = 0 := rfl
    rw [e, e2]
    have e3 : stepF l f [] = f [] := rfl
    unfold shF
    rw [e3]
    split <;> split <;> simp
  | a :: b :: r, f => by
    rw [stepF_cons, step_shF l (b :: r) f]
    have e1 : shF f (a :: b :: r) = shF (fun s => f (a :: s)) (b :: r) := by rw [shF]
    have e2 : shF (stepF l f) (a :: b :: r) = shF (fun s => stepF l f (a :: s)) (b :: r) := by rw [shF]
    rw [e1, e2]
    by_cases ha : a = ab l
    · rw [if_pos ha]
      by_cases hl : l < 0
      · rw [if_pos hl]
        have e3 : (fun s => stepF l f (a :: s)) = fun s => (fun s => f (a :: s)) s + (fun s => -1 * stepF l f s) s := by
          funext s
          show stepF l f (a :: s) = f (a :: s) + -1 * stepF l f s
          rw [stepF_cons, if_pos ha, if_pos hl]
          omega
        rw [e3, shF_add, shF_mul]
        omega
      · rw [if_neg hl]
        have e3 : (fun s => stepF l f (a :: s)) = fun s => (fun s => f (a :: s)) s + f s := by
          funext s
          rw [stepF_cons, if_pos ha, if_neg hl]
        rw [e3, shF_add]
    · rw [if_neg ha]
      have e3 : (fun s => stepF l f (a :: s)) = fun s => f (a :: s) := by
        funext s
        rw [stepF_cons, if_neg ha]
        omega
      rw [e3]
      omega
theorem fold_add : ∀ (w : List Int) (f g : List Int → Int), w.foldl (fun f l => stepF l f) (fun s => f s + g s) = fun s => w.foldl (fun f l => stepF l f) f s + w.foldl (fun f l => stepF l f) g s
  | [], _, _ => rfl
  | l :: w, f, g => by
    have e : stepF l (fun s => f s + g s) = fun s => stepF l f s + stepF l g s := by
      funext s
      have := stepF_add l 1 f g s
      simpa using this
    rw [List.foldl_cons, e, fold_add w]
    rfl
theorem fold_shF : ∀ (w : List Int) (f : List Int → Int), w.foldl (fun f l => stepF l f) (shF f) = shF (w.foldl (fun f l => stepF l f) f)
  | [], _ => rfl
  | l :: w, f => by
    have e : stepF l (shF f) = shF (stepF l f) := funext fun r => step_shF l r f
    rw [List.foldl_cons, e, fold_shF w]
    rfl
theorem step_one : stepF 1 d0 = fun s => d0 s + shF d0 s := by
  funext s
  cases s with
  | nil => rfl
  | cons a r =>
    rw [stepF_cons]
    congr 1
    have e : ab 1 = 1 := rfl
    rw [e, if_neg (by decide : ¬ (1 : Int) < 0)]
    cases r with
    | nil => rfl
    | cons b r =>
      have e1 : d0 (b :: r) = 0 := rfl
      have e2 : shF d0 (a :: b :: r) = shF (fun s => d0 (a :: s)) (b :: r) := by rw [shF]
      have e3 : (fun s => d0 (a :: s)) = fun _ => 0 := rfl
      rw [e1, e2, e3, shF_zero]
      split <;> rfl
theorem expF_one (w : List Int) : expF (1 :: w) = fun s => expF w s + shF (expF w) s := by
  rw [expF_eq, expF_eq, List.foldl_cons, step_one, fold_add, fold_shF]
/-- a word turned by a letter has the same first numbers -/
theorem conj_same {w : List Int} {n : Nat} (h : ∀ s, s ≠ [] → s.length < n → expF w s = 0) {r : List Int} (hr : r.length ≤ n) : expF (1 :: (w ++ [-1])) r = expF w r := by
  have e0 : expF (1 :: (w ++ [-1])) = stepF (-1) (expF (1 :: w)) := by
    rw [← List.cons_append, expF_snoc]
  rw [e0, expF_one]
  have e1 : stepF (-1) (fun s => expF w s + shF (expF w) s) r = stepF (-1) (fun s => 1 * stepF 1 d0 s + (expF w s - d0 s)) r := by
    apply stepF_congr
    intro s hs
    rw [step_one, Int.one_mul]
    have : shF (expF w) s = shF d0 s := shF_congr fun t ht => by
      by_cases z : t = []
      · subst z; exact expF_nil w
      · rw [h t z (by omega)]
        unfold d0
        rw [if_neg z]
    rw [this]
    show expF w s + shF d0 s = d0 s + shF d0 s + (expF w s - d0 s)
    omega
  rw [e1, stepF_add, Int.one_mul]
  have e2 : stepF (-1) (stepF 1 d0) r = d0 r := stepF_inv (l := 1) (by decide) d0 r
  rw [e2]
  have e3 : stepF (-1) (fun s => expF w s - d0 s) r = expF w r - d0 r := by
    cases r with
    | nil => rfl
    | cons a r =>
      rw [stepF_cons]
      have : stepF (-1) (fun s => expF w s - d0 s) r = 0 := by
        rw [← stepF_zero (-1) r]
        apply stepF_congr
        intro s hs
        rw [List.length_cons] at hr
        by_cases z : s = []
        · subst z; rw [expF_nil]; rfl
        · show expF w s - d0 s = 0
          rw [h s z (by omega)]
          unfold d0
          rw [if_neg z]
          rfl
      rw [this]
      split <;> omega
  rw [e3]
  omega
theorem conj_dep {w : List Int} {d : PyData} (h : DepIs (expF w) d) : DepIs (expF (1 :: (w ++ [-1]))) d := by
  rcases h with ⟨rfl, h1⟩ | ⟨n, h1, rfl, h2, s, h3, h4⟩
  · exact .inl ⟨rfl, fun s hs => by rw [conj_same (n := s.length) (fun t ht _ => h1 t ht) (Nat.le_refl _), h1 s hs]⟩
  · refine .inr ⟨n, h1, rfl, fun t ht hl => ?_, s, h3, ?_⟩
    · rw [conj_same h2 (by omega), h2 t ht hl]
    · rw [conj_same h2 (by omega)]; exact h4
theorem dep_nil {w : List Int} (hw : NZ w) {d : PyData} (h : DepIs (expF w) d) : leftOut w = [] ↔ d = .none := by
  constructor
  · intro z
    refine dep_unique h (.inl ⟨rfl, fun s hs => ?_⟩)
    rw [← expF_left hw, z]
    exact if_neg hs
  · rintro rfl
    by_cases z : leftOut w = []
    · exact z
    · obtain ⟨s, h1, _, h3⟩ := magnus (w := leftOut w) (fun l hl => hw l (left_mem hl)) (red_left w) z
      rw [expF_left hw] at h3
      rcases h with ⟨_, h4⟩ | ⟨n, _, h4, _⟩
      · exact absurd (h4 s h1) h3
      · cases h4
/-! ### keys of a table -/
theorem any_key {most : Nat} {w : List Int} (hw : WordOk w) : ((expT most w).any fun x => !x.1.isEmpty) = true ↔ ∃ s : List Int, s ≠ [] ∧ s.length ≤ most ∧ expF w s ≠ 0 := by
  have h := expT_ok most hw
  rw [List.any_eq_true]
  constructor
  · rintro ⟨x, h1, h2⟩
    have hne : x.1 ≠ [] := by cases hx : x.1 <;> simp_all
    obtain ⟨l1, _⟩ := h.len x.1 (List.mem_map.mpr ⟨x, h1, rfl⟩)
    refine ⟨x.1.reverse, by simpa using hne, by rw [List.length_reverse]; exact l1, ?_⟩
    rw [← h.get x.1 l1, getP_mem h.nd h1]
    exact h.nz x h1
  · rintro ⟨s, h1, h2, h3⟩
    have hg := h.get s.reverse (by rw [List.length_reverse]; exact h2)
    rw [List.reverse_reverse] at hg
    have hm : s.reverse ∈ ks (expT most w) := by
      by_cases z : s.reverse ∈ ks (expT most w)
      · exact z
      · rw [getP_none z] at hg; exact absurd hg.symm h3
    obtain ⟨n, hn⟩ := getP_some hm
    refine ⟨_, hn, ?_⟩
    cases s with
    | nil => exact absurd rfl h1
    | cons a s => simp
theorem told_of {most : Nat} {w : List Int} (hw : WordOk w) {s : List Int} (h1 : s ≠ []) (h2 : s.length ≤ most) (h3 : expF w s ≠ 0) : toldL most w ≠ [] := by
  intro z
  have := (any_key (most := most) hw).mpr ⟨s, h1, h2, h3⟩
  rw [List.any_eq_true] at this
  obtain ⟨x, hx, h4⟩ := this
  have : x ∈ toldL most w := List.mem_filter.mpr ⟨hx, by cases hx1 : x.1 <;> simp_all⟩
  rw [z] at this
  cases this
end L2.VL

namespace L2.VL.K77
open PySem PySem.Spec PyProof.Rows
def topS (i : Nat) : Stmt := PySem.Challenge.pw_wholelayers_k77_whole_depths.main.body.getD i (.Pass ⟨0, 0, 0, 0⟩)
section
variable {P : Program} {w : World} {K : PySem.W.Frag} {mg : Str → Option Value} {base : Heap}
/-! ### _law_begin -/
abbrev s__law_begin : Stmt := topS 17
theorem sc__law_begin : FnScope ["script", "cells", "cell"] ["script"] (defScope s__law_begin) := ⟨rfl, rfl, rfl, by decide +kernel, rfl, by decide +kernel, by decide +kernel⟩
theorem ok__law_begin (A : ∃ f fd, DefAt K mg "_law_begin" s__law_begin [] f fd) (n_int : mg "int" = none) (n_sum : mg "sum" = none) : FnS ⟨P, w, K, mg, base⟩ 1 "_law_begin" s__law_begin [] ["script"] (spB K) :=
  have sc := sc__law_begin
  begin_mk (N := ["script", "cells", "cell"]) (k := 0) (i := 1) (g := gBegin) (fe := eBegin) A sc__law_begin (by decide) rfl (fun f cdv A outer s H E hr => (vs_setLc (i := 1) (own := [("cell", 2)]) rfl sc.nd rfl rfl (sw_true rfl rfl rfl (by decide +kernel)) (vi_seq rfl (ve_scr (i := 0) rfl rfl (by first | exact Or.inl rfl | exact Or.inr (Or.inl rfl) | exact Or.inr (Or.inr rfl)))) (blkOk_by rfl) (fun _ _ _ _ _ => (vg_name (i := 2) sc.nd rfl (by first | exact Or.inl rfl | exact Or.inr rfl))) (fun _ _ _ _ _ => vts_nil) (fun _ _ _ _ _ => (ve_ifE (vt_cmp ov_ge (vv 2) ve_int (nomark _)) (ve_bin ov_mul (ve_callTy cv_int rfl n_int (by decide +kernel) (va_cons (vv 2) va_nil)) ve_int) (ve_bin ov_sub (ve_bin ov_mul (ve_un uv_neg (ve_callTy cv_int rfl n_int (by decide +kernel) (va_cons (vv 2) va_nil))) ve_int) ve_int)))))
  (fun f cdv A outer s H E hr => begin_ret (L := ⟨K, mg, fun c d _ H => E c d H⟩) (i := 1) rfl (by first | exact Or.inl rfl | exact Or.inr (Or.inl rfl) | exact Or.inr (Or.inr rfl)) (ve_bin ov_mod (ve_callTy cv_int rfl n_int (by decide +kernel) (va_cons (ve_callB (cv_sum (cr_sum rfl)) rfl n_sum (by decide +kernel) (va_cons (vv 1) va_nil)) va_nil)) ve_int)) begin_val
/-! ### _law_draw -/
abbrev s__law_draw : Stmt := topS 18
theorem sc__law_draw : FnScope ["state", "many", "cell", "mixed", "number"] ["state", "many"] (defScope s__law_draw) := ⟨rfl, rfl, rfl, by decide +kernel, rfl, by decide +kernel, by decide +kernel⟩
def c__law_draw : MS Dr := (sSeq (sDrPut 0 .count (vBin gAdd (vDrGet 0 .count) (ret (.val (.int 1)))))
  (sSeq (sIf (toB (vBin gLt (vDrGet 0 .left) (vVar 1)))
  (sSeq (sSet 2 (vBin gAdd (vDrGet 0 .sum) (vDrGet 0 .count)))
  (sSeq (sIf (toB (vBin gLt (vDrGet 0 .at_) (vDrLen 0)))
  (sSeq (sSet 2 (vDrCell 0 (vDrGet 0 .at_)))
  (sDrPut 0 .at_ (vBin gAdd (vDrGet 0 .at_) (ret (.val (.int 1))))))
  sNext)
  (sSeq (sIf (toB (vBin gLt (vVar 2) (vBin gPow (ret (.val (.int 10))) (ret (.val (.int 18))))))
  (sSeq (sSet 3 (vBin gMod (vCB gInt (aCons (vBin gAdd (vBin gAdd (vBin gMul (vVar 2) (ret (.val (.int 48271)))) (vBin gMul (vDrGet 0 .count) (ret (.val (.int 69621))))) (ret (.val (.int 12345)))) aNil)) (ret (.val (.int 2305843009213693951)))))
  (sSeq (sSet 3 (vBin gMod (vCB gInt (aCons (vBin gAdd (vBin gAdd (vBin gMul (vVar 3) (vVar 3)) (vVar 2)) (vBin gMul (vDrGet 0 .count) (ret (.val (.int 7919))))) aNil)) (ret (.val (.int 2305843009213693951)))))
  (sSet 2 (vBin gMod (vCB gInt (aCons (vBin gAdd (vBin gAdd (vBin gMul (vBin gMul (vVar 3) (vVar 3)) (ret (.val (.int 16807)))) (vBin gMul (vVar 2) (ret (.val (.int 40014))))) (ret (.val (.int 1)))) aNil)) (ret (.val (.int 2305843009213693951)))))))
  sNext)
  (sDrPut 0 .left (vVar 2)))))
  sNext)
  (sSeq (sSet 4 (vBin gMod (vCB gInt (aCons (vDrGet 0 .left) aNil)) (vVar 1)))
  (sSeq (sDrPut 0 .left (vBin gDiv (vCB gInt (aCons (vDrGet 0 .left) aNil)) (vVar 1)))
  (sRet (vVar 4))))))
def m__law_draw : List Slot → Dr → ROut Dr := runR 5 c__law_draw
theorem ok__law_draw (A : ∃ f fd, DefAt K mg "_law_draw" s__law_draw [] f fd)  (n_len : mg "len" = none) (n_int : mg "int" = none) : FnR ⟨P, w, K, mg, base⟩ 1 "_law_draw" s__law_draw [] ["state", "many"] m__law_draw :=
  have sc := sc__law_draw
  fnR_mk (N := ["state", "many", "cell", "mixed", "number"]) (k := 0) (g := c__law_draw) A sc__law_draw (by decide) fun f cdv A outer s H E hr =>
  (vs_cons (vs_drPut .count (i := 0) (hu_of hr) rfl (by first | exact Or.inl rfl | exact Or.inr (Or.inl rfl) | exact Or.inr (Or.inr rfl)) (ve_bin ov_add (ve_drGet .count (i := 0) (hu_of hr) rfl (by first | exact Or.inl rfl | exact Or.inr (Or.inl rfl) | exact Or.inr (Or.inr rfl))) ve_int))
  (vs_cons (vs_if (vt_cmp ov_lt (ve_drGet .left (i := 0) (hu_of hr) rfl (by first | exact Or.inl rfl | exact Or.inr (Or.inl rfl) | exact Or.inr (Or.inr rfl))) (vv 1) (nomark _))
  (vs_cons (vs_set (i := 2) sc.nd rfl (by first | exact Or.inl rfl | exact Or.inr rfl) (ve_bin ov_add (ve_drGet .sum (i := 0) (hu_of hr) rfl (by first | exact Or.inl rfl | exact Or.inr (Or.inl rfl) | exact Or.inr (Or.inr rfl))) (ve_drGet .count (i := 0) (hu_of hr) rfl (by first | exact Or.inl rfl | exact Or.inr (Or.inl rfl) | exact Or.inr (Or.inr rfl)))))
  (vs_cons (vs_if (vt_cmp ov_lt (ve_drGet .at_ (i := 0) (hu_of hr) rfl (by first | exact Or.inl rfl | exact Or.inr (Or.inl rfl) | exact Or.inr (Or.inr rfl))) (ve_drLen (i := 0) (hu_of hr) rfl (by first | exact Or.inl rfl | exact Or.inr (Or.inl rfl) | exact Or.inr (Or.inr rfl)) rfl n_len) (nomark _))
  (vs_cons (vs_set (i := 2) sc.nd rfl (by first | exact Or.inl rfl | exact Or.inr rfl) (ve_drCell (i := 0) (hu_of hr) rfl (by first | exact Or.inl rfl | exact Or.inr (Or.inl rfl) | exact Or.inr (Or.inr rfl)) (ve_drGet .at_ (i := 0) (hu_of hr) rfl (by first | exact Or.inl rfl | exact Or.inr (Or.inl rfl) | exact Or.inr (Or.inr rfl))) (fun _ _ => rfl)))
  (vs_one (vs_drPut .at_ (i := 0) (hu_of hr) rfl (by first | exact Or.inl rfl | exact Or.inr (Or.inl rfl) | exact Or.inr (Or.inr rfl)) (ve_bin ov_add (ve_drGet .at_ (i := 0) (hu_of hr) rfl (by first | exact Or.inl rfl | exact Or.inr (Or.inl rfl) | exact Or.inr (Or.inr rfl))) ve_int))))
  vs_nil)
  (vs_cons (vs_if (vt_cmp ov_lt (vv 2) (ve_bin ov_pow ve_int ve_int) (nomark _))
  (vs_cons (vs_set (i := 3) sc.nd rfl (by first | exact Or.inl rfl | exact Or.inr rfl) (ve_bin ov_mod (ve_callTy cv_int rfl n_int (by decide +kernel) (va_cons (ve_bin ov_add (ve_bin ov_add (ve_bin ov_mul (vv 2) ve_int) (ve_bin ov_mul (ve_drGet .count (i := 0) (hu_of hr) rfl (by first | exact Or.inl rfl | exact Or.inr (Or.inl rfl) | exact Or.inr (Or.inr rfl))) ve_int)) ve_int) va_nil)) ve_int))
  (vs_cons (vs_set (i := 3) sc.nd rfl (by first | exact Or.inl rfl | exact Or.inr rfl) (ve_bin ov_mod (ve_callTy cv_int rfl n_int (by decide +kernel) (va_cons (ve_bin ov_add (ve_bin ov_add (ve_bin ov_mul (vv 3) (vv 3)) (vv 2)) (ve_bin ov_mul (ve_drGet .count (i := 0) (hu_of hr) rfl (by first | exact Or.inl rfl | exact Or.inr (Or.inl rfl) | exact Or.inr (Or.inr rfl))) ve_int)) va_nil)) ve_int))
  (vs_one (vs_set (i := 2) sc.nd rfl (by first | exact Or.inl rfl | exact Or.inr rfl) (ve_bin ov_mod (ve_callTy cv_int rfl n_int (by decide +kernel) (va_cons (ve_bin ov_add (ve_bin ov_add (ve_bin ov_mul (ve_bin ov_mul (vv 3) (vv 3)) ve_int) (ve_bin ov_mul (vv 2) ve_int)) ve_int) va_nil)) ve_int)))))
  vs_nil)
  (vs_one (vs_drPut .left (i := 0) (hu_of hr) rfl (by first | exact Or.inl rfl | exact Or.inr (Or.inl rfl) | exact Or.inr (Or.inr rfl)) (vv 2))))))
  vs_nil)
  (vs_cons (vs_set (i := 4) sc.nd rfl (by first | exact Or.inl rfl | exact Or.inr rfl) (ve_bin ov_mod (ve_callTy cv_int rfl n_int (by decide +kernel) (va_cons (ve_drGet .left (i := 0) (hu_of hr) rfl (by first | exact Or.inl rfl | exact Or.inr (Or.inl rfl) | exact Or.inr (Or.inr rfl))) va_nil)) (vv 1)))
  (vs_cons (vs_drPut .left (i := 0) (hu_of hr) rfl (by first | exact Or.inl rfl | exact Or.inr (Or.inl rfl) | exact Or.inr (Or.inr rfl)) (ve_bin ov_div (ve_callTy cv_int rfl n_int (by decide +kernel) (va_cons (ve_drGet .left (i := 0) (hu_of hr) rfl (by first | exact Or.inl rfl | exact Or.inr (Or.inl rfl) | exact Or.inr (Or.inr rfl))) va_nil)) (vv 1)))
  (vs_one (vs_ret (vv 4)))))))
/-! ### is_integer -/
abbrev s_is_integer : Stmt := topS 5
theorem sc_is_integer : FnScope ["value"] ["value"] (defScope s_is_integer) := ⟨rfl, rfl, rfl, by decide +kernel, rfl, by decide +kernel, by decide +kernel⟩
def c_is_integer : MS Unit := (sRet (vAnd (vIsi "int" (vVar 0)) (vNot (vIsi "bool" (vVar 0)))))
def m_is_integer : List D → POut := runP 1 c_is_integer
theorem ok_is_integer (A : ∃ f fd, DefAt K mg "is_integer" s_is_integer [] f fd)  (n_isinstance : mg "isinstance" = none) (n_bool : mg "bool" = none) (n_int : mg "int" = none) : FnP ⟨P, w, K, mg, base⟩ 1 "is_integer" s_is_integer [] ["value"] m_is_integer :=
  have sc := sc_is_integer
  fnP_mk (N := ["value"]) (k := 0) (g := c_is_integer) A sc_is_integer (by decide) fun f cdv A outer s H E hr =>
  (vs_one (vs_ret (ve_and (ve_isi kitInt (vv 0) rfl rfl n_isinstance rfl n_int (by decide +kernel)) (ve_one (ve_not (ve_isi kitBool (vv 0) rfl rfl n_isinstance rfl n_bool (by decide +kernel)))))))
/-! ### is_natural -/
abbrev s_is_natural : Stmt := topS 6
theorem sc_is_natural : FnScope ["value", "least"] ["value", "least"] (defScope s_is_natural) := ⟨rfl, rfl, rfl, by decide +kernel, rfl, by decide +kernel, by decide +kernel⟩
def c_is_natural : MS Unit := (sRet (vAnd (vCallP m_is_integer (aCons (vVar 0) aNil)) (vBin gGe (vVar 0) (vVar 1))))
def m_is_natural : List D → POut := runP 2 c_is_natural
theorem ok_is_natural (A : ∃ f fd, DefAt K mg "is_natural" s_is_natural [V.int 0] f fd) (h_is_integer : FnP ⟨P, w, K, mg, base⟩ 1 "is_integer" s_is_integer [] ["value"] m_is_integer)  : FnP ⟨P, w, K, mg, base⟩ 2 "is_natural" s_is_natural [V.int 0] ["value", "least"] m_is_natural :=
  have sc := sc_is_natural
  fnP_mk (N := ["value", "least"]) (k := 1) (g := c_is_natural) A sc_is_natural (by decide) fun f cdv A outer s H E hr =>
  (vs_one (vs_ret (ve_and (ve_callP h_is_integer (hr.mono (by decide)) rfl rfl rfl (fun σ => passAt (takes_of rfl rfl rfl rfl) σ) (va_cons (vv 0) va_nil) (fun _ _ _ _ _ _ us hl => match us, hl with | [_], _ => rfl) (aCons_len aNil_len)) (ve_one (ve_cmp ov_ge (vv 0) (vv 1) (nomark _))))))
/-! ### are_integers -/
abbrev s_are_integers : Stmt := topS 7
theorem sc_are_integers : FnScope ["value", "size", "part"] ["value", "size"] (defScope s_are_integers) := ⟨rfl, rfl, rfl, by decide +kernel, rfl, by decide +kernel, by decide +kernel⟩
def c_are_integers : MS Unit := (sSeq (sIf (tOrM (tNotM (toB (vIsi "tuple" (vVar 0)))) (toB (vBin gNe (vLenV 0) (vVar 1))))
  (sRet (ret (.val (.bool false))))
  sNext)
  (sRet (vCB gAll (aCons (vLc [2] (iSeq (vVar 0)) (gNm 2) ttYes (vCallP m_is_integer (aCons (vVar 2) aNil))) aNil))))
def m_are_integers : List D → POut := runP 3 c_are_integers
theorem ok_are_integers (A : ∃ f fd, DefAt K mg "are_integers" s_are_integers [] f fd) (h_is_integer : FnP ⟨P, w, K, mg, base⟩ 1 "is_integer" s_is_integer [] ["value"] m_is_integer) (n_len : mg "len" = none) (n_isinstance : mg "isinstance" = none) (n_tuple : mg "tuple" = none) (n_all : mg "all" = none) : FnP ⟨P, w, K, mg, base⟩ 2 "are_integers" s_are_integers [] ["value", "size"] m_are_integers :=
  have sc := sc_are_integers
  fnP_mk (N := ["value", "size", "part"]) (k := 1) (g := c_are_integers) A sc_are_integers (by decide) fun f cdv A outer s H E hr =>
  (vs_cons (vs_if (PW.pt (vw_or (vt_not (vt_val (ve_isi kitTuple (vv 0) rfl rfl n_isinstance rfl n_tuple (by decide +kernel)))) (vw_or1 (vt_cmp (ov_ne hr.units) (ve_lenv (i := 0) rfl rfl (by first | exact Or.inl rfl | exact Or.inr (Or.inl rfl) | exact Or.inr (Or.inr rfl)) rfl n_len) (vv 1) (nomark _)))))
  (vs_one (vs_ret ve_bool))
  vs_nil)
  (vs_one (vs_ret (ve_callB (cv_all (cr_all rfl)) rfl n_all (by decide +kernel) (va_cons (ve_lc (own := [("part", 2)]) rfl sc.nd (vi_seq rfl (vv 0)) (blkOk_by rfl) (fun _ _ _ _ _ => (vg_name (i := 2) sc.nd rfl (by first | exact Or.inl rfl | exact Or.inr rfl))) (fun _ _ _ _ _ => vts_nil) (fun _ _ _ _ _ => (ve_callP h_is_integer (hr.mono (by decide)) rfl rfl rfl (fun σ => passBlk σ) (va_cons (vv 2) va_nil) (fun _ _ _ _ _ _ us hl => match us, hl with | [_], _ => rfl) (aCons_len aNil_len)))) va_nil)))))
/-! ### check_between -/
abbrev s_check_between : Stmt := topS 8
theorem sc_check_between : FnScope ["value", "least", "most"] ["value", "least", "most"] (defScope s_check_between) := ⟨rfl, rfl, rfl, by decide +kernel, rfl, by decide +kernel, by decide +kernel⟩
def c_check_between : MS Unit := (sIf (tOrM (tNotM (toB (vCallP (fun ds => m_is_natural (ds ++ [])) (aCons (vVar 0) (aCons (vVar 1) aNil))))) (toB (vBin gGt (vVar 0) (vVar 2))))
  sNever
  sNext)
def m_check_between : List D → POut := runP 3 c_check_between
theorem ok_check_between (A : ∃ f fd, DefAt K mg "check_between" s_check_between [] f fd) (h_is_natural : FnP ⟨P, w, K, mg, base⟩ 2 "is_natural" s_is_natural [V.int 0] ["value", "least"] m_is_natural)  : FnP ⟨P, w, K, mg, base⟩ 3 "check_between" s_check_between [] ["value", "least", "most"] m_check_between :=
  have sc := sc_check_between
  fnP_mk (N := ["value", "least", "most"]) (k := 2) (g := c_check_between) A sc_check_between (by decide) fun f cdv A outer s H E hr =>
  (vs_one (vs_if (PW.pt (vw_or (vt_not (vt_val (ve_callD 2 1 (dds := []) h_is_natural (fun F => .nil) (hr.mono (by decide)) rfl rfl rfl (fun σ => passAt (takes_of rfl rfl rfl rfl) σ) (va_cons (vv 0) (va_cons (vv 1) va_nil)) (by decide) (by decide) (fun _ _ _ _ _ _ _ us its hl h2 => match us, hl, its, h2 with | [_, _], _, [_], _ => ⟨_, rfl, rfl⟩) (aCons_len (aCons_len aNil_len))))) (vw_or1 (vt_cmp ov_gt (vv 0) (vv 2) (nomark _)))))
  (vs_one vs_never)
  vs_nil))
/-! ### check_word -/
abbrev s_check_word : Stmt := topS 10
theorem sc_check_word : FnScope ["word", "letter"] ["word"] (defScope s_check_word) := ⟨rfl, rfl, rfl, by decide +kernel, rfl, by decide +kernel, by decide +kernel⟩
def c_check_word : MS Unit := (sSeq (sIf (tOrM (tNotM (toB (vIsi "tuple" (vVar 0)))) (tNotM (toB (vCallP m_are_integers (aCons (vVar 0) (aCons (vLenV 0) aNil))))))
  sNever
  sNext)
  (sIf (tNotM (toB (vCB gAll (aCons (vLc [1] (iSeq (vVar 0)) (gNm 1) ttYes (vAnd (vChain gLe gLe (vUn gNeg (ret (.val (.int 3)))) (vVar 1) (ret (.val (.int 3)))) (vBin gNe (vVar 1) (ret (.val (.int 0)))))) aNil))))
  sNever
  sNext))
def m_check_word : List D → POut := runP 2 c_check_word
theorem ok_check_word (A : ∃ f fd, DefAt K mg "check_word" s_check_word [] f fd) (h_are_integers : FnP ⟨P, w, K, mg, base⟩ 2 "are_integers" s_are_integers [] ["value", "size"] m_are_integers) (n_len : mg "len" = none) (n_isinstance : mg "isinstance" = none) (n_tuple : mg "tuple" = none) (n_all : mg "all" = none) : FnP ⟨P, w, K, mg, base⟩ 3 "check_word" s_check_word [] ["word"] m_check_word :=
  have sc := sc_check_word
  fnP_mk (N := ["word", "letter"]) (k := 2) (g := c_check_word) A sc_check_word (by decide) fun f cdv A outer s H E hr =>
  (vs_cons (vs_if (PW.pt (vw_or (vt_not (vt_val (ve_isi kitTuple (vv 0) rfl rfl n_isinstance rfl n_tuple (by decide +kernel)))) (vw_or1 (vt_not (vt_val (ve_callP h_are_integers (hr.mono (by decide)) rfl rfl rfl (fun σ => passAt (takes_of rfl rfl rfl rfl) σ) (va_cons (vv 0) (va_cons (ve_lenv (i := 0) rfl rfl (by first | exact Or.inl rfl | exact Or.inr (Or.inl rfl) | exact Or.inr (Or.inr rfl)) rfl n_len) va_nil)) (fun _ _ _ _ _ _ us hl => match us, hl with | [_, _], _ => rfl) (aCons_len (aCons_len aNil_len))))))))
  (vs_one vs_never)
  vs_nil)
  (vs_one (vs_if (vt_not (vt_val (ve_callB (cv_all (cr_all rfl)) rfl n_all (by decide +kernel) (va_cons (ve_lc (own := [("letter", 1)]) rfl sc.nd (vi_seq rfl (vv 0)) (blkOk_by rfl) (fun _ _ _ _ _ => (vg_name (i := 1) sc.nd rfl (by first | exact Or.inl rfl | exact Or.inr rfl))) (fun _ _ _ _ _ => vts_nil) (fun _ _ _ _ _ => (ve_and (ve_chain ov_le ov_le (ve_un uv_neg ve_int) (vv 1) ve_int) (ve_one (ve_cmp (ov_ne hr.units) (vv 1) ve_int (nomark _)))))) va_nil))))
  (vs_one vs_never)
  vs_nil)))
/-! ### left_out -/
abbrev s_left_out : Stmt := topS 11
theorem sc_left_out : FnScope ["word", "kept", "letter"] ["word"] (defScope s_left_out) := ⟨rfl, rfl, rfl, by decide +kernel, rfl, by decide +kernel, by decide +kernel⟩
def c_left_out : MS Unit := (sSeq (sSet 1 (vLst aNil))
  (sSeq (sFor [2] (iSeq (vVar 0)) (gNm 2)
  (sIf (tAndM (tTruV 1) (toB (vBin gEq (vIxV 1 (vUn gNeg (ret (.val (.int 1))))) (vUn gNeg (vVar 2)))))
  (sExpr (vPop 1))
  (sExpr (vApp 1 (vVar 2)))))
  (sRet (vCB gTuple (aCons (vVar 1) aNil)))))
def m_left_out : List D → POut := runP 3 c_left_out
theorem ok_left_out (A : ∃ f fd, DefAt K mg "left_out" s_left_out [] f fd)  (n_tuple : mg "tuple" = none) : FnP ⟨P, w, K, mg, base⟩ 1 "left_out" s_left_out [] ["word"] m_left_out :=
  have sc := sc_left_out
  fnP_mk (N := ["word", "kept", "letter"]) (k := 0) (g := c_left_out) A sc_left_out (by decide) fun f cdv A outer s H E hr =>
  (vs_cons (vs_set (i := 1) sc.nd rfl (by first | exact Or.inl rfl | exact Or.inr rfl) (ve_lst va_nil))
  (vs_cons (vs_for [2] (passes_of rfl) rfl (vi_seq rfl (vv 0)) (vg_name (i := 2) sc.nd rfl (by first | exact Or.inl rfl | exact Or.inr rfl))
  (vs_one (vs_if (PW.pt (vw_and (vt_truv (i := 1) rfl rfl (by first | exact Or.inl rfl | exact Or.inr (Or.inl rfl) | exact Or.inr (Or.inr rfl))) (vw_and1 (vt_cmp (ov_eq hr.units) (ve_ixv (i := 1) rfl rfl (by first | exact Or.inl rfl | exact Or.inr (Or.inl rfl) | exact Or.inr (Or.inr rfl)) (ve_un uv_neg ve_int) (fun _ _ => rfl)) (ve_un uv_neg (vv 2)) (nomark _)))))
  (vs_one (vs_expr (ve_pop (i := 1) rfl (by first | exact Or.inl rfl | exact Or.inr (Or.inl rfl) | exact Or.inr (Or.inr rfl)))))
  (vs_one (vs_expr (ve_app (i := 1) rfl rfl (by first | exact Or.inl rfl | exact Or.inr (Or.inl rfl) | exact Or.inr (Or.inr rfl)) (vv 2)))))))
  (vs_one (vs_ret (ve_callTy cv_tuple rfl n_tuple (by decide +kernel) (va_cons (vv 1) va_nil))))))
/-! ### leaving_out -/
abbrev s_leaving_out : Stmt := topS 12
theorem sc_leaving_out : FnScope ["word"] ["word"] (defScope s_leaving_out) := ⟨rfl, rfl, rfl, by decide +kernel, rfl, by decide +kernel, by decide +kernel⟩
def c_leaving_out : MS Unit := (sSeq (sExpr (vCallP m_check_word (aCons (vVar 0) aNil)))
  (sRet (vCallP m_left_out (aCons (vVar 0) aNil))))
def m_leaving_out : List D → POut := runP 1 c_leaving_out
theorem ok_leaving_out (A : ∃ f fd, DefAt K mg "leaving_out" s_leaving_out [] f fd) (h_check_word : FnP ⟨P, w, K, mg, base⟩ 3 "check_word" s_check_word [] ["word"] m_check_word) (h_left_out : FnP ⟨P, w, K, mg, base⟩ 1 "left_out" s_left_out [] ["word"] m_left_out)  : FnP ⟨P, w, K, mg, base⟩ 4 "leaving_out" s_leaving_out [] ["word"] m_leaving_out :=
  have sc := sc_leaving_out
  fnP_mk (N := ["word"]) (k := 3) (g := c_leaving_out) A sc_leaving_out (by decide) fun f cdv A outer s H E hr =>
  (vs_cons (vs_expr (ve_callP h_check_word (hr.mono (by decide)) rfl rfl rfl (fun σ => passAt (takes_of rfl rfl rfl rfl) σ) (va_cons (vv 0) va_nil) (fun _ _ _ _ _ _ us hl => match us, hl with | [_], _ => rfl) (aCons_len aNil_len)))
  (vs_one (vs_ret (ve_callP h_left_out (hr.mono (by decide)) rfl rfl rfl (fun σ => passAt (takes_of rfl rfl rfl rfl) σ) (va_cons (vv 0) va_nil) (fun _ _ _ _ _ _ us hl => match us, hl with | [_], _ => rfl) (aCons_len aNil_len)))))
/-! ### expansion_in -/
abbrev s_expansion_in : Stmt := topS 13
theorem sc_expansion_in : FnScope ["word", "most", "numbers", "letter", "found", "pattern", "number", "longest", "many", "longer", "sign"] ["word", "most"] (defScope s_expansion_in) := ⟨rfl, rfl, rfl, by decide +kernel, rfl, by decide +kernel, by decide +kernel⟩
def c_expansion_in : MS Unit := (sSeq (sSet 2 (vDisp1 (vTup aNil) (ret (.val (.int 1)))))
  (sSeq (sFor [3, 4, 5, 6, 7, 8, 9, 10] (iSeq (vVar 0)) (gNm 3)
  (sSeq (sSet 4 vNewT)
  (sSeq (sFor [5, 6, 7, 8, 9, 10] (iItemsT (vTake 2)) (gTp [(gNm 5), (gNm 6)])
  (sSeq (sSet 7 (vIfE (toB (vBin gGt (vVar 3) (ret (.val (.int 0))))) (vBin gAdd (vLenV 5) (ret (.val (.int 1)))) (vVar 1)))
  (sFor [8, 9, 10] (iRg rg1 (aCons (vBin gAdd (vBin gSub (vCB gMin (aCons (vVar 7) (aCons (vVar 1) aNil))) (vLenV 5)) (ret (.val (.int 1)))) aNil)) (gNm 8)
  (sSeq (sSet 9 (vBin gAdd (vVar 5) (vBin gMul (vTup (aCons (vCB gAbs (aCons (vVar 3) aNil)) aNil)) (vVar 8))))
  (sSeq (sSet 10 (vIfE (tAndM (toB (vBin gLt (vVar 3) (ret (.val (.int 0))))) (toB (vBin gEq (vBin gMod (vVar 8) (ret (.val (.int 2)))) (ret (.val (.int 1)))))) (vUn gNeg (ret (.val (.int 1)))) (ret (.val (.int 1)))))
  (sPutT 4 (vVar 9) (vBin gAdd (vGetT 4 (vVar 9) (ret (.val (.int 0)))) (vBin gMul (vVar 10) (vVar 6)))))))))
  (sSet 2 (vDc [5, 6] (iItemsT (vTake 4)) (gTp [(gNm 5), (gNm 6)]) (toB (vBin gNe (vVar 6) (ret (.val (.int 0))))) (vVar 5) (vVar 6))))))
  (sRet (vTake 2))))
def m_expansion_in : List D → POut := runP 11 c_expansion_in
theorem ok_expansion_in (A : ∃ f fd, DefAt K mg "expansion_in" s_expansion_in [] f fd)  (n_len : mg "len" = none) (n_range : mg "range" = none) (n_min : mg "min" = none) (n_abs : mg "abs" = none) : FnP ⟨P, w, K, mg, base⟩ 1 "expansion_in" s_expansion_in [] ["word", "most"] m_expansion_in :=
  have sc := sc_expansion_in
  fnP_mk (N := ["word", "most", "numbers", "letter", "found", "pattern", "number", "longest", "many", "longer", "sign"]) (k := 0) (g := c_expansion_in) A sc_expansion_in (by decide) fun f cdv A outer s H E hr =>
  (vs_cons (vs_set (i := 2) sc.nd rfl (by first | exact Or.inl rfl | exact Or.inr rfl) (ve_disp1 (hu_of hr) (ve_tup va_nil) ve_int))
  (vs_cons (vs_for [3, 4, 5, 6, 7, 8, 9, 10] (passes_of rfl) rfl (vi_seq rfl (vv 0)) (vg_name (i := 3) sc.nd rfl (by first | exact Or.inl rfl | exact Or.inr rfl))
  (vs_cons (vs_set (i := 4) sc.nd rfl (by first | exact Or.inl rfl | exact Or.inr rfl) ve_newT)
  (vs_cons (vs_for [5, 6, 7, 8, 9, 10] (passes_of rfl) rfl (vi_itemsT (ve_take (i := 2) rfl (by first | exact Or.inl rfl | exact Or.inr (Or.inl rfl) | exact Or.inr (Or.inr rfl)))) (vg_tup rfl (vgs_cons (vg_name (i := 5) sc.nd rfl (by first | exact Or.inl rfl | exact Or.inr rfl)) (vgs_cons (vg_name (i := 6) sc.nd rfl (by first | exact Or.inl rfl | exact Or.inr rfl)) vgs_nil)))
  (vs_cons (vs_set (i := 7) sc.nd rfl (by first | exact Or.inl rfl | exact Or.inr rfl) (ve_ifE (vt_cmp ov_gt (vv 3) ve_int (nomark _)) (ve_bin ov_add (ve_lenv (i := 5) rfl rfl (by first | exact Or.inl rfl | exact Or.inr (Or.inl rfl) | exact Or.inr (Or.inr rfl)) rfl n_len) ve_int) (vv 1)))
  (vs_one (vs_for [8, 9, 10] (passes_of rfl) rfl (vi_range1 rfl n_range (va_cons (ve_bin ov_add (ve_bin ov_sub (ve_callB (cv_min rfl) rfl n_min (by decide +kernel) (va_cons (vv 7) (va_cons (vv 1) va_nil))) (ve_lenv (i := 5) rfl rfl (by first | exact Or.inl rfl | exact Or.inr (Or.inl rfl) | exact Or.inr (Or.inr rfl)) rfl n_len)) ve_int) va_nil)) (vg_name (i := 8) sc.nd rfl (by first | exact Or.inl rfl | exact Or.inr rfl))
  (vs_cons (vs_set (i := 9) sc.nd rfl (by first | exact Or.inl rfl | exact Or.inr rfl) (ve_bin ov_add (vv 5) (ve_bin ov_mul (ve_tup (va_cons (ve_callB cv_abs rfl n_abs (by decide +kernel) (va_cons (vv 3) va_nil)) va_nil)) (vv 8))))
  (vs_cons (vs_set (i := 10) sc.nd rfl (by first | exact Or.inl rfl | exact Or.inr rfl) (ve_ifE (PW.pt (vw_and (vt_cmp ov_lt (vv 3) ve_int (nomark _)) (vw_and1 (vt_cmp (ov_eq hr.units) (ve_bin ov_mod (vv 8) ve_int) ve_int (nomark _))))) (ve_un uv_neg ve_int) ve_int))
  (vs_one (vs_putT (i := 4) (hu_of hr) rfl (by first | exact Or.inl rfl | exact Or.inr (Or.inl rfl)) (vv 9) (ve_bin ov_add (ve_getT (i := 4) (hu_of hr) rfl (by first | exact Or.inl rfl | exact Or.inr (Or.inl rfl) | exact Or.inr (Or.inr rfl)) (vv 9) ve_int) (ve_bin ov_mul (vv 10) (vv 6)))))))))))
  (vs_one (vs_setDc (i := 2) (own := [("pattern", 5), ("number", 6)]) (hu_of hr) rfl sc.nd rfl rfl (sw_trueD rfl rfl rfl (by decide +kernel)) (vi_itemsT (ve_take (i := 4) rfl (by first | exact Or.inl rfl | exact Or.inr (Or.inl rfl) | exact Or.inr (Or.inr rfl)))) (blkOk_by rfl) (fun _ _ _ _ _ => (vg_tup rfl (vgs_cons (vg_name (i := 5) sc.nd rfl (by first | exact Or.inl rfl | exact Or.inr rfl)) (vgs_cons (vg_name (i := 6) sc.nd rfl (by first | exact Or.inl rfl | exact Or.inr rfl)) vgs_nil)))) (fun _ _ _ _ _ => (vts_one (vt_cmp (ov_ne hr.units) (vv 6) ve_int (nomark _)))) (fun _ _ _ _ _ => (vv 5)) (fun _ _ _ _ _ => (vv 6)))))))
  (vs_one (vs_ret (ve_take (i := 2) rfl (by first | exact Or.inl rfl | exact Or.inr (Or.inl rfl) | exact Or.inr (Or.inr rfl)))))))
/-! ### expansion -/
abbrev s_expansion : Stmt := topS 14
theorem sc_expansion : FnScope ["word", "most", "pattern", "number"] ["word", "most"] (defScope s_expansion) := ⟨rfl, rfl, rfl, by decide +kernel, rfl, by decide +kernel, by decide +kernel⟩
def c_expansion : MS Unit := (sSeq (sExpr (vCallP m_check_word (aCons (vVar 0) aNil)))
  (sSeq (sExpr (vCallP m_check_between (aCons (vVar 1) (aCons (ret (.val (.int 1))) (aCons (ret (.val (.int 4))) aNil)))))
  (sRet (vCB gTuple (aCons (vCB gSorted (aCons (vLc [2, 3] (iItemsT (vCallP m_expansion_in (aCons (vVar 0) (aCons (vVar 1) aNil)))) (gTp [(gNm 2), (gNm 3)]) (toB (vBin gNe (vVar 2) (vTup aNil))) (vTup (aCons (vVar 2) (aCons (vVar 3) aNil)))) aNil)) aNil)))))
def m_expansion : List D → POut := runP 4 c_expansion
theorem ok_expansion (A : ∃ f fd, DefAt K mg "expansion" s_expansion [] f fd) (h_check_word : FnP ⟨P, w, K, mg, base⟩ 3 "check_word" s_check_word [] ["word"] m_check_word) (h_check_between : FnP ⟨P, w, K, mg, base⟩ 3 "check_between" s_check_between [] ["value", "least", "most"] m_check_between) (h_expansion_in : FnP ⟨P, w, K, mg, base⟩ 1 "expansion_in" s_expansion_in [] ["word", "most"] m_expansion_in) (n_sorted : mg "sorted" = none) (n_tuple : mg "tuple" = none) : FnP ⟨P, w, K, mg, base⟩ 4 "expansion" s_expansion [] ["word", "most"] m_expansion :=
  have sc := sc_expansion
  fnP_mk (N := ["word", "most", "pattern", "number"]) (k := 3) (g := c_expansion) A sc_expansion (by decide) fun f cdv A outer s H E hr =>
  (vs_cons (vs_expr (ve_callP h_check_word (hr.mono (by decide)) rfl rfl rfl (fun σ => passAt (takes_of rfl rfl rfl rfl) σ) (va_cons (vv 0) va_nil) (fun _ _ _ _ _ _ us hl => match us, hl with | [_], _ => rfl) (aCons_len aNil_len)))
  (vs_cons (vs_expr (ve_callP h_check_between (hr.mono (by decide)) rfl rfl rfl (fun σ => passAt (takes_of rfl rfl rfl rfl) σ) (va_cons (vv 1) (va_cons ve_int (va_cons ve_int va_nil))) (fun _ _ _ _ _ _ us hl => match us, hl with | [_, _, _], _ => rfl) (aCons_len (aCons_len (aCons_len aNil_len)))))
  (vs_one (vs_ret (ve_callTy cv_tuple rfl n_tuple (by decide +kernel) (va_cons (ve_callB (cv_sorted (room200 hr)) rfl n_sorted (by decide +kernel) (va_cons (ve_lc (own := [("pattern", 2), ("number", 3)]) rfl sc.nd (vi_itemsT (ve_callP h_expansion_in (hr.mono (by decide)) rfl rfl rfl (fun σ => passAt (takes_of rfl rfl rfl rfl) σ) (va_cons (vv 0) (va_cons (vv 1) va_nil)) (fun _ _ _ _ _ _ us hl => match us, hl with | [_, _], _ => rfl) (aCons_len (aCons_len aNil_len)))) (blkOk_by rfl) (fun _ _ _ _ _ => (vg_tup rfl (vgs_cons (vg_name (i := 2) sc.nd rfl (by first | exact Or.inl rfl | exact Or.inr rfl)) (vgs_cons (vg_name (i := 3) sc.nd rfl (by first | exact Or.inl rfl | exact Or.inr rfl)) vgs_nil)))) (fun _ _ _ _ _ => (vts_one (vt_cmp (ov_ne hr.units) (vv 2) (ve_tup va_nil) (nomark _)))) (fun _ _ _ _ _ => (ve_tup (va_cons (vv 2) (va_cons (vv 3) va_nil))))) va_nil)) va_nil))))))
/-! ### depth_of -/
abbrev s_depth_of : Stmt := topS 15
theorem sc_depth_of : FnScope ["word", "length", "pattern"] ["word"] (defScope s_depth_of) := ⟨rfl, rfl, rfl, by decide +kernel, rfl, by decide +kernel, by decide +kernel⟩
def c_depth_of : MS Unit := (sSeq (sExpr (vCallP m_check_word (aCons (vVar 0) aNil)))
  (sSeq (sSet 0 (vCallP m_left_out (aCons (vVar 0) aNil)))
  (sSeq (sFor [1] (iRg rg2 (aCons (ret (.val (.int 1))) (aCons (vBin gAdd (vLenV 0) (ret (.val (.int 1)))) aNil))) (gNm 1)
  (sIf (toB (vCB gAny (aCons (vLc [2] (iKeysT (vCallP m_expansion_in (aCons (vVar 0) (aCons (vVar 1) aNil)))) (gNm 2) ttYes (vBin gNe (vVar 2) (vTup aNil))) aNil)))
  (sRet (vVar 1))
  sNext))
  (sRet (ret (.val .none))))))
def m_depth_of : List D → POut := runP 3 c_depth_of
theorem ok_depth_of (A : ∃ f fd, DefAt K mg "depth_of" s_depth_of [] f fd) (h_check_word : FnP ⟨P, w, K, mg, base⟩ 3 "check_word" s_check_word [] ["word"] m_check_word) (h_left_out : FnP ⟨P, w, K, mg, base⟩ 1 "left_out" s_left_out [] ["word"] m_left_out) (h_expansion_in : FnP ⟨P, w, K, mg, base⟩ 1 "expansion_in" s_expansion_in [] ["word", "most"] m_expansion_in) (n_range : mg "range" = none) (n_len : mg "len" = none) (n_any : mg "any" = none) : FnP ⟨P, w, K, mg, base⟩ 4 "depth_of" s_depth_of [] ["word"] m_depth_of :=
  have sc := sc_depth_of
  fnP_mk (N := ["word", "length", "pattern"]) (k := 3) (g := c_depth_of) A sc_depth_of (by decide) fun f cdv A outer s H E hr =>
  (vs_cons (vs_expr (ve_callP h_check_word (hr.mono (by decide)) rfl rfl rfl (fun σ => passAt (takes_of rfl rfl rfl rfl) σ) (va_cons (vv 0) va_nil) (fun _ _ _ _ _ _ us hl => match us, hl with | [_], _ => rfl) (aCons_len aNil_len)))
  (vs_cons (vs_set (i := 0) sc.nd rfl (by first | exact Or.inl rfl | exact Or.inr rfl) (ve_callP h_left_out (hr.mono (by decide)) rfl rfl rfl (fun σ => passAt (takes_of rfl rfl rfl rfl) σ) (va_cons (vv 0) va_nil) (fun _ _ _ _ _ _ us hl => match us, hl with | [_], _ => rfl) (aCons_len aNil_len)))
  (vs_cons (vs_for [1] (passes_of rfl) rfl (vi_range2 rfl n_range (va_cons ve_int (va_cons (ve_bin ov_add (ve_lenv (i := 0) rfl rfl (by first | exact Or.inl rfl | exact Or.inr (Or.inl rfl) | exact Or.inr (Or.inr rfl)) rfl n_len) ve_int) va_nil))) (vg_name (i := 1) sc.nd rfl (by first | exact Or.inl rfl | exact Or.inr rfl))
  (vs_one (vs_if (vt_val (ve_callB (cv_any (cr_any rfl)) rfl n_any (by decide +kernel) (va_cons (ve_lc (own := [("pattern", 2)]) rfl sc.nd (vi_keysT (ve_callP h_expansion_in (hr.mono (by decide)) rfl rfl rfl (fun σ => passAt (takes_of rfl rfl rfl rfl) σ) (va_cons (vv 0) (va_cons (vv 1) va_nil)) (fun _ _ _ _ _ _ us hl => match us, hl with | [_, _], _ => rfl) (aCons_len (aCons_len aNil_len)))) (blkOk_by rfl) (fun _ _ _ _ _ => (vg_name (i := 2) sc.nd rfl (by first | exact Or.inl rfl | exact Or.inr rfl))) (fun _ _ _ _ _ => vts_nil) (fun _ _ _ _ _ => (ve_cmp (ov_ne hr.units) (vv 2) (ve_tup va_nil) (nomark _)))) va_nil)))
  (vs_one (vs_ret (vv 1)))
  vs_nil)))
  (vs_one (vs_ret ve_none)))))
/-! ### _law_back -/
abbrev s__law_back : Stmt := topS 20
theorem sc__law_back : FnScope ["word", "letter"] ["word"] (defScope s__law_back) := ⟨rfl, rfl, rfl, by decide +kernel, rfl, by decide +kernel, by decide +kernel⟩
def c__law_back : MS Unit := (sRet (vCB gTuple (aCons (vLc [1] (iSeq (vUn gRev (vVar 0))) (gNm 1) ttYes (vUn gNeg (vVar 1))) aNil)))
def m__law_back : List D → POut := runP 2 c__law_back
theorem ok__law_back (A : ∃ f fd, DefAt K mg "_law_back" s__law_back [] f fd)  (n_tuple : mg "tuple" = none) : FnP ⟨P, w, K, mg, base⟩ 1 "_law_back" s__law_back [] ["word"] m__law_back :=
  have sc := sc__law_back
  fnP_mk (N := ["word", "letter"]) (k := 0) (g := c__law_back) A sc__law_back (by decide) fun f cdv A outer s H E hr =>
  (vs_one (vs_ret (ve_callTy cv_tuple rfl n_tuple (by decide +kernel) (va_cons (ve_lc (own := [("letter", 1)]) rfl sc.nd (vi_seq rfl (ve_rev rfl (vv 0))) (blkOk_by rfl) (fun _ _ _ _ _ => (vg_name (i := 1) sc.nd rfl (by first | exact Or.inl rfl | exact Or.inr rfl))) (fun _ _ _ _ _ => vts_nil) (fun _ _ _ _ _ => (ve_un uv_neg (vv 1)))) va_nil))))
/-! ### _law_commuted -/
abbrev s__law_commuted : Stmt := topS 21
theorem sc__law_commuted : FnScope ["one", "other"] ["one", "other"] (defScope s__law_commuted) := ⟨rfl, rfl, rfl, by decide +kernel, rfl, by decide +kernel, by decide +kernel⟩
def c__law_commuted : MS Unit := (sRet (vBin gAdd (vBin gAdd (vBin gAdd (vCallP m__law_back (aCons (vVar 0) aNil)) (vCallP m__law_back (aCons (vVar 1) aNil))) (vVar 0)) (vVar 1)))
def m__law_commuted : List D → POut := runP 2 c__law_commuted
theorem ok__law_commuted (A : ∃ f fd, DefAt K mg "_law_commuted" s__law_commuted [] f fd) (h__law_back : FnP ⟨P, w, K, mg, base⟩ 1 "_law_back" s__law_back [] ["word"] m__law_back)  : FnP ⟨P, w, K, mg, base⟩ 2 "_law_commuted" s__law_commuted [] ["one", "other"] m__law_commuted :=
  have sc := sc__law_commuted
  fnP_mk (N := ["one", "other"]) (k := 1) (g := c__law_commuted) A sc__law_commuted (by decide) fun f cdv A outer s H E hr =>
  (vs_one (vs_ret (ve_bin ov_add (ve_bin ov_add (ve_bin ov_add (ve_callP h__law_back (hr.mono (by decide)) rfl rfl rfl (fun σ => passAt (takes_of rfl rfl rfl rfl) σ) (va_cons (vv 0) va_nil) (fun _ _ _ _ _ _ us hl => match us, hl with | [_], _ => rfl) (aCons_len aNil_len)) (ve_callP h__law_back (hr.mono (by decide)) rfl rfl rfl (fun σ => passAt (takes_of rfl rfl rfl rfl) σ) (va_cons (vv 1) va_nil) (fun _ _ _ _ _ _ us hl => match us, hl with | [_], _ => rfl) (aCons_len aNil_len))) (vv 0)) (vv 1))))
/-! ### _law_word -/
abbrev s__law_word : Stmt := topS 19
theorem sc__law_word : FnScope ["state", "most", "letters", "at"] ["state", "most"] (defScope s__law_word) := ⟨rfl, rfl, rfl, by decide +kernel, rfl, by decide +kernel, by decide +kernel⟩
def c__law_word : MS Dr := (sSeq (sSet 2 (vLst (aCons (ret (.val (.int 1))) (aCons (vUn gNeg (ret (.val (.int 1)))) (aCons (ret (.val (.int 2))) (aCons (vUn gNeg (ret (.val (.int 2)))) (aCons (ret (.val (.int 3))) (aCons (vUn gNeg (ret (.val (.int 3)))) aNil))))))))
  (sRet (vCB gTuple (aCons (vLc [3] (iRg rg1 (aCons (vCallR m__law_draw (rCons (vVar 0) (rCons (vBin gAdd (vVar 1) (ret (.val (.int 1)))) rNil))) aNil)) (gNm 3) ttYes (vIxV 2 (vCallR m__law_draw (rCons (vVar 0) (rCons (ret (.val (.int 6))) rNil))))) aNil))))
def m__law_word : List Slot → Dr → ROut Dr := runR 4 c__law_word
theorem ok__law_word (A : ∃ f fd, DefAt K mg "_law_word" s__law_word [] f fd) (h__law_draw : FnR ⟨P, w, K, mg, base⟩ 1 "_law_draw" s__law_draw [] ["state", "many"] m__law_draw) (n_range : mg "range" = none) (n_tuple : mg "tuple" = none) : FnR ⟨P, w, K, mg, base⟩ 2 "_law_word" s__law_word [] ["state", "most"] m__law_word :=
  have sc := sc__law_word
  fnR_mk (N := ["state", "most", "letters", "at"]) (k := 1) (g := c__law_word) A sc__law_word (by decide) fun f cdv A outer s H E hr =>
  (vs_cons (vs_set (i := 2) sc.nd rfl (by first | exact Or.inl rfl | exact Or.inr rfl) (ve_lst (va_cons ve_int (va_cons (ve_un uv_neg ve_int) (va_cons ve_int (va_cons (ve_un uv_neg ve_int) (va_cons ve_int (va_cons (ve_un uv_neg ve_int) va_nil))))))))
  (vs_one (vs_ret (ve_callTy cv_tuple rfl n_tuple (by decide +kernel) (va_cons (ve_lc (own := [("at", 3)]) rfl sc.nd (vi_range1 rfl n_range (va_cons (ve_callR h__law_draw (hr.mono (by decide)) rfl rfl rfl (fun σ => passAt (takes_of rfl rfl rfl rfl) σ) (vr_cons (vv 0) (vr_cons (ve_bin ov_add (vv 1) ve_int) vr_nil)) (fun _ _ _ _ _ _ us hl => match us, hl with | [_, _], _ => rfl) (rCons_len (rCons_len rNil_len))) va_nil)) (blkOk_by rfl) (fun _ _ _ _ _ => (vg_name (i := 3) sc.nd rfl (by first | exact Or.inl rfl | exact Or.inr rfl))) (fun _ _ _ _ _ => vts_nil) (fun _ _ _ _ _ => (ve_ixv (i := 2) rfl rfl (by first | exact Or.inl rfl | exact Or.inr (Or.inl rfl) | exact Or.inr (Or.inr rfl)) (ve_callR h__law_draw (hr.mono (by decide)) rfl rfl rfl (fun σ => passBlk σ) (vr_cons (vv 0) (vr_cons ve_int vr_nil)) (fun _ _ _ _ _ _ us hl => match us, hl with | [_, _], _ => rfl) (rCons_len (rCons_len rNil_len))) (fun _ _ => rfl)))) va_nil)))))
/-! ### _law_reduced -/
abbrev s__law_reduced : Stmt := topS 22
theorem sc__law_reduced : FnScope ["word", "step", "at"] ["word"] (defScope s__law_reduced) := ⟨rfl, rfl, rfl, by decide +kernel, rfl, by decide +kernel, by decide +kernel⟩
def c__law_reduced : MS Unit := (sSeq (sFor [1, 2] (iRg rg1 (aCons (vLenV 0) aNil)) (gNm 1)
  (sSeq (sSet 2 (ret (.val (.int 0))))
  (sSeq (sWhile [] 1000000 (tAndM (toB (vBin gLt (vBin gAdd (vVar 2) (ret (.val (.int 1)))) (vLenV 0))) (toB (vBin gNe (vIxV 0 (vVar 2)) (vUn gNeg (vIxV 0 (vBin gAdd (vVar 2) (ret (.val (.int 1)))))))))
  (sSet 2 (vBin gAdd (vVar 2) (ret (.val (.int 1))))))
  (sSeq (sIf (toB (vBin gGe (vBin gAdd (vVar 2) (ret (.val (.int 1)))) (vLenV 0)))
  (sRet (vVar 0))
  sNext)
  (sSet 0 (vBin gAdd (vSlice (vVar 0) oNone (oSome (vVar 2))) (vSlice (vVar 0) (oSome (vBin gAdd (vVar 2) (ret (.val (.int 2))))) oNone)))))))
  (sRet (vVar 0)))
def m__law_reduced : List D → POut := runP 3 c__law_reduced
theorem ok__law_reduced (A : ∃ f fd, DefAt K mg "_law_reduced" s__law_reduced [] f fd)  (n_range : mg "range" = none) (n_len : mg "len" = none) : FnP ⟨P, w, K, mg, base⟩ 1 "_law_reduced" s__law_reduced [] ["word"] m__law_reduced :=
  have sc := sc__law_reduced
  fnP_mk (N := ["word", "step", "at"]) (k := 0) (g := c__law_reduced) A sc__law_reduced (by decide) fun f cdv A outer s H E hr =>
  (vs_cons (vs_for [1, 2] (passes_of rfl) rfl (vi_range1 rfl n_range (va_cons (ve_lenv (i := 0) rfl rfl (by first | exact Or.inl rfl | exact Or.inr (Or.inl rfl) | exact Or.inr (Or.inr rfl)) rfl n_len) va_nil)) (vg_name (i := 1) sc.nd rfl (by first | exact Or.inl rfl | exact Or.inr rfl))
  (vs_cons (vs_set (i := 2) sc.nd rfl (by first | exact Or.inl rfl | exact Or.inr rfl) ve_int)
  (vs_cons (vs_while [] 1000000 (passes_of rfl) (PW.pt (vw_and (vt_cmp ov_lt (ve_bin ov_add (vv 2) ve_int) (ve_lenv (i := 0) rfl rfl (by first | exact Or.inl rfl | exact Or.inr (Or.inl rfl) | exact Or.inr (Or.inr rfl)) rfl n_len) (nomark _)) (vw_and1 (vt_cmp (ov_ne hr.units) (ve_ixv (i := 0) rfl rfl (by first | exact Or.inl rfl | exact Or.inr (Or.inl rfl) | exact Or.inr (Or.inr rfl)) (vv 2) (fun _ _ => rfl)) (ve_un uv_neg (ve_ixv (i := 0) rfl rfl (by first | exact Or.inl rfl | exact Or.inr (Or.inl rfl) | exact Or.inr (Or.inr rfl)) (ve_bin ov_add (vv 2) ve_int) (fun _ _ => rfl))) (nomark _)))))
  (vs_one (vs_set (i := 2) sc.nd rfl (by first | exact Or.inl rfl | exact Or.inr rfl) (ve_bin ov_add (vv 2) ve_int))))
  (vs_cons (vs_if (vt_cmp ov_ge (ve_bin ov_add (vv 2) ve_int) (ve_lenv (i := 0) rfl rfl (by first | exact Or.inl rfl | exact Or.inr (Or.inl rfl) | exact Or.inr (Or.inr rfl)) rfl n_len) (nomark _))
  (vs_one (vs_ret (vv 0)))
  vs_nil)
  (vs_one (vs_set (i := 0) sc.nd rfl (by first | exact Or.inl rfl | exact Or.inr rfl) (ve_bin ov_add (ve_slice rfl (vv 0) vo_none (vo_some (vv 2))) (ve_slice rfl (vv 0) (vo_some (ve_bin ov_add (vv 2) ve_int)) vo_none))))))))
  (vs_one (vs_ret (vv 0))))
/-! ### _law_drawn -/
abbrev s__law_drawn : Stmt := topS 23
theorem sc__law_drawn : FnScope ["state", "kind", "one", "other", "part"] ["state"] (defScope s__law_drawn) := ⟨rfl, rfl, rfl, by decide +kernel, rfl, by decide +kernel, by decide +kernel⟩
def c__law_drawn : MS Dr := (sSeq (sSet 1 (vCallR m__law_draw (rCons (vVar 0) (rCons (ret (.val (.int 5))) rNil))))
  (sSeq (sPar 2 3 (bCons (vCallR m__law_word (rCons (vVar 0) (rCons (ret (.val (.int 1))) rNil))) (bCons (vCallR m__law_word (rCons (vVar 0) (rCons (ret (.val (.int 1))) rNil))) bNil)))
  (sSeq (sIf (toB (vBin gEq (vVar 1) (ret (.val (.int 0)))))
  (sRet (vCallR m__law_word (rCons (vVar 0) (rCons (ret (.val (.int 10))) rNil))))
  sNext)
  (sSeq (sIf (toB (vBin gEq (vVar 1) (ret (.val (.int 1)))))
  (sRet (vBin gAdd (vCallP m__law_commuted (aCons (vVar 2) (aCons (vVar 3) aNil))) (vCallR m__law_word (rCons (vVar 0) (rCons (ret (.val (.int 6))) rNil)))))
  sNext)
  (sSeq (sIf (toB (vBin gEq (vVar 1) (ret (.val (.int 2)))))
  (sRet (vCallP m__law_commuted (aCons (vCallP m__law_commuted (aCons (vVar 2) (aCons (vVar 3) aNil))) (aCons (vCallR m__law_word (rCons (vVar 0) (rCons (ret (.val (.int 1))) rNil))) aNil))))
  sNext)
  (sSeq (sIf (toB (vBin gEq (vVar 1) (ret (.val (.int 3)))))
  (sSeq (sSet 4 (vCallR m__law_word (rCons (vVar 0) (rCons (ret (.val (.int 3))) rNil))))
  (sRet (vBin gAdd (vBin gAdd (vCallP m__law_back (aCons (vVar 4) aNil)) (vCallP m__law_commuted (aCons (vVar 2) (aCons (vVar 3) aNil)))) (vVar 4))))
  sNext)
  (sSeq (sSet 4 (vCallR m__law_word (rCons (vVar 0) (rCons (ret (.val (.int 5))) rNil))))
  (sRet (vBin gAdd (vVar 4) (vCallP m__law_back (aCons (vVar 4) aNil)))))))))))
def m__law_drawn : List Slot → Dr → ROut Dr := runR 5 c__law_drawn
theorem ok__law_drawn (A : ∃ f fd, DefAt K mg "_law_drawn" s__law_drawn [] f fd) (h__law_draw : FnR ⟨P, w, K, mg, base⟩ 1 "_law_draw" s__law_draw [] ["state", "many"] m__law_draw) (h__law_word : FnR ⟨P, w, K, mg, base⟩ 2 "_law_word" s__law_word [] ["state", "most"] m__law_word) (h__law_commuted : FnP ⟨P, w, K, mg, base⟩ 2 "_law_commuted" s__law_commuted [] ["one", "other"] m__law_commuted) (h__law_back : FnP ⟨P, w, K, mg, base⟩ 1 "_law_back" s__law_back [] ["word"] m__law_back)  : FnR ⟨P, w, K, mg, base⟩ 3 "_law_drawn" s__law_drawn [] ["state"] m__law_drawn :=
  have sc := sc__law_drawn
  fnR_mk (N := ["state", "kind", "one", "other", "part"]) (k := 2) (g := c__law_drawn) A sc__law_drawn (by decide) fun f cdv A outer s H E hr =>
  (vs_cons (vs_set (i := 1) sc.nd rfl (by first | exact Or.inl rfl | exact Or.inr rfl) (ve_callR h__law_draw (hr.mono (by decide)) rfl rfl rfl (fun σ => passAt (takes_of rfl rfl rfl rfl) σ) (vr_cons (vv 0) (vr_cons ve_int vr_nil)) (fun _ _ _ _ _ _ us hl => match us, hl with | [_, _], _ => rfl) (rCons_len (rCons_len rNil_len))))
  (vs_cons (vs_par (i := 2) (j := 3) rfl sc.nd rfl rfl (by decide) rfl rfl (vb_cons (ve_callR h__law_word (hr.mono (by decide)) rfl rfl rfl (fun σ => passAt (takes_of rfl rfl rfl rfl) σ) (vr_cons (vv 0) (vr_cons ve_int vr_nil)) (fun _ _ _ _ _ _ us hl => match us, hl with | [_, _], _ => rfl) (rCons_len (rCons_len rNil_len))) (vb_cons (ve_callR h__law_word (hr.mono (by decide)) rfl rfl rfl (fun σ => passAt (takes_of rfl rfl rfl rfl) σ) (vr_cons (vv 0) (vr_cons ve_int vr_nil)) (fun _ _ _ _ _ _ us hl => match us, hl with | [_, _], _ => rfl) (rCons_len (rCons_len rNil_len))) vb_nil)) (by rfl))
  (vs_cons (vs_if (vt_cmp (ov_eq hr.units) (vv 1) ve_int (nomark _))
  (vs_one (vs_ret (ve_callR h__law_word (hr.mono (by decide)) rfl rfl rfl (fun σ => passAt (takes_of rfl rfl rfl rfl) σ) (vr_cons (vv 0) (vr_cons ve_int vr_nil)) (fun _ _ _ _ _ _ us hl => match us, hl with | [_, _], _ => rfl) (rCons_len (rCons_len rNil_len)))))
  vs_nil)
  (vs_cons (vs_if (vt_cmp (ov_eq hr.units) (vv 1) ve_int (nomark _))
  (vs_one (vs_ret (ve_bin ov_add (ve_callP h__law_commuted (hr.mono (by decide)) rfl rfl rfl (fun σ => passAt (takes_of rfl rfl rfl rfl) σ) (va_cons (vv 2) (va_cons (vv 3) va_nil)) (fun _ _ _ _ _ _ us hl => match us, hl with | [_, _], _ => rfl) (aCons_len (aCons_len aNil_len))) (ve_callR h__law_word (hr.mono (by decide)) rfl rfl rfl (fun σ => passAt (takes_of rfl rfl rfl rfl) σ) (vr_cons (vv 0) (vr_cons ve_int vr_nil)) (fun _ _ _ _ _ _ us hl => match us, hl with | [_, _], _ => rfl) (rCons_len (rCons_len rNil_len))))))
  vs_nil)
  (vs_cons (vs_if (vt_cmp (ov_eq hr.units) (vv 1) ve_int (nomark _))
  (vs_one (vs_ret (ve_callP h__law_commuted (hr.mono (by decide)) rfl rfl rfl (fun σ => passAt (takes_of rfl rfl rfl rfl) σ) (va_cons (ve_callP h__law_commuted (hr.mono (by decide)) rfl rfl rfl (fun σ => passAt (takes_of rfl rfl rfl rfl) σ) (va_cons (vv 2) (va_cons (vv 3) va_nil)) (fun _ _ _ _ _ _ us hl => match us, hl with | [_, _], _ => rfl) (aCons_len (aCons_len aNil_len))) (va_cons (ve_callR h__law_word (hr.mono (by decide)) rfl rfl rfl (fun σ => passAt (takes_of rfl rfl rfl rfl) σ) (vr_cons (vv 0) (vr_cons ve_int vr_nil)) (fun _ _ _ _ _ _ us hl => match us, hl with | [_, _], _ => rfl) (rCons_len (rCons_len rNil_len))) va_nil)) (fun _ _ _ _ _ _ us hl => match us, hl with | [_, _], _ => rfl) (aCons_len (aCons_len aNil_len)))))
  vs_nil)
  (vs_cons (vs_if (vt_cmp (ov_eq hr.units) (vv 1) ve_int (nomark _))
  (vs_cons (vs_set (i := 4) sc.nd rfl (by first | exact Or.inl rfl | exact Or.inr rfl) (ve_callR h__law_word (hr.mono (by decide)) rfl rfl rfl (fun σ => passAt (takes_of rfl rfl rfl rfl) σ) (vr_cons (vv 0) (vr_cons ve_int vr_nil)) (fun _ _ _ _ _ _ us hl => match us, hl with | [_, _], _ => rfl) (rCons_len (rCons_len rNil_len))))
  (vs_one (vs_ret (ve_bin ov_add (ve_bin ov_add (ve_callP h__law_back (hr.mono (by decide)) rfl rfl rfl (fun σ => passAt (takes_of rfl rfl rfl rfl) σ) (va_cons (vv 4) va_nil) (fun _ _ _ _ _ _ us hl => match us, hl with | [_], _ => rfl) (aCons_len aNil_len)) (ve_callP h__law_commuted (hr.mono (by decide)) rfl rfl rfl (fun σ => passAt (takes_of rfl rfl rfl rfl) σ) (va_cons (vv 2) (va_cons (vv 3) va_nil)) (fun _ _ _ _ _ _ us hl => match us, hl with | [_, _], _ => rfl) (aCons_len (aCons_len aNil_len)))) (vv 4)))))
  vs_nil)
  (vs_cons (vs_set (i := 4) sc.nd rfl (by first | exact Or.inl rfl | exact Or.inr rfl) (ve_callR h__law_word (hr.mono (by decide)) rfl rfl rfl (fun σ => passAt (takes_of rfl rfl rfl rfl) σ) (vr_cons (vv 0) (vr_cons ve_int vr_nil)) (fun _ _ _ _ _ _ us hl => match us, hl with | [_, _], _ => rfl) (rCons_len (rCons_len rNil_len))))
  (vs_one (vs_ret (ve_bin ov_add (vv 4) (ve_callP h__law_back (hr.mono (by decide)) rfl rfl rfl (fun σ => passAt (takes_of rfl rfl rfl rfl) σ) (va_cons (vv 4) va_nil) (fun _ _ _ _ _ _ us hl => match us, hl with | [_], _ => rfl) (aCons_len aNil_len))))))))))))
/-! ### _law_right -/
abbrev s__law_right : Stmt := topS 24
theorem sc__law_right : FnScope ["word", "depth", "lengths", "pair"] ["word", "depth"] (defScope s__law_right) := ⟨rfl, rfl, rfl, by decide +kernel, rfl, by decide +kernel, by decide +kernel⟩
def c__law_right : MS Unit := (sSeq (sIf (tOrM (toB (vIsi "bool" (vVar 1))) (tOrM (tNotM (toB (vIsi "int" (vVar 1)))) (toB (vBin gLt (vVar 1) (ret (.val (.int 1)))))))
  (sRet (ret (.val (.bool false))))
  sNext)
  (sSeq (sSet 2 (vLc [3] (iSeq (vCallP m_expansion (aCons (vVar 0) (aCons (vCB gMin (aCons (vVar 1) (aCons (ret (.val (.int 4))) aNil))) aNil)))) (gNm 3) ttYes (vCB gLen (aCons (vIxV 3 (ret (.val (.int 0)))) aNil))))
  (sSeq (sIf (toB (vBin gGt (vVar 1) (ret (.val (.int 4)))))
  (sRet (vBin gEq (vVar 2) (vLst aNil)))
  sNext)
  (sRet (vAnd (vBin gGt (vLenV 2) (ret (.val (.int 0)))) (vBin gEq (vCB gMinL (aCons (vVar 2) aNil)) (vVar 1)))))))
def m__law_right : List D → POut := runP 4 c__law_right
theorem ok__law_right (A : ∃ f fd, DefAt K mg "_law_right" s__law_right [] f fd) (h_expansion : FnP ⟨P, w, K, mg, base⟩ 4 "expansion" s_expansion [] ["word", "most"] m_expansion) (n_isinstance : mg "isinstance" = none) (n_int : mg "int" = none) (n_bool : mg "bool" = none) (n_min : mg "min" = none) (n_len : mg "len" = none) : FnP ⟨P, w, K, mg, base⟩ 5 "_law_right" s__law_right [] ["word", "depth"] m__law_right :=
  have sc := sc__law_right
  fnP_mk (N := ["word", "depth", "lengths", "pair"]) (k := 4) (g := c__law_right) A sc__law_right (by decide) fun f cdv A outer s H E hr =>
  (vs_cons (vs_if (PW.pt (vw_or (vt_val (ve_isi kitBool (vv 1) rfl rfl n_isinstance rfl n_bool (by decide +kernel))) (vw_or (vt_not (vt_val (ve_isi kitInt (vv 1) rfl rfl n_isinstance rfl n_int (by decide +kernel)))) (vw_or1 (vt_cmp ov_lt (vv 1) ve_int (nomark _))))))
  (vs_one (vs_ret ve_bool))
  vs_nil)
  (vs_cons (vs_setLc (i := 2) (own := [("pair", 3)]) rfl sc.nd rfl rfl (sw_true rfl rfl rfl (by decide +kernel)) (vi_seq rfl (ve_callP h_expansion (hr.mono (by decide)) rfl rfl rfl (fun σ => passAt (takes_of rfl rfl rfl rfl) σ) (va_cons (vv 0) (va_cons (ve_callB (cv_min rfl) rfl n_min (by decide +kernel) (va_cons (vv 1) (va_cons ve_int va_nil))) va_nil)) (fun _ _ _ _ _ _ us hl => match us, hl with | [_, _], _ => rfl) (aCons_len (aCons_len aNil_len)))) (blkOk_by rfl) (fun _ _ _ _ _ => (vg_name (i := 3) sc.nd rfl (by first | exact Or.inl rfl | exact Or.inr rfl))) (fun _ _ _ _ _ => vts_nil) (fun _ _ _ _ _ => (ve_callB cv_len rfl n_len PySem.boot_len (va_cons (ve_ixv (i := 3) rfl rfl (by first | exact Or.inl rfl | exact Or.inr (Or.inl rfl) | exact Or.inr (Or.inr rfl)) ve_int (fun _ _ => rfl)) va_nil))))
  (vs_cons (vs_if (vt_cmp ov_gt (vv 1) ve_int (nomark _))
  (vs_one (vs_ret (ve_cmp (ov_eq hr.units) (vv 2) (ve_lst va_nil) (nomark _))))
  vs_nil)
  (vs_one (vs_ret (ve_and (ve_cmp ov_gt (ve_lenv (i := 2) rfl rfl (by first | exact Or.inl rfl | exact Or.inr (Or.inl rfl) | exact Or.inr (Or.inr rfl)) rfl n_len) ve_int (nomark _)) (ve_one (ve_cmp (ov_eq hr.units) (ve_callB (cv_minL rfl) rfl n_min (by decide +kernel) (va_cons (vv 2) va_nil)) (vv 1) (nomark _)))))))))
/-! ### law -/
abbrev s_law : Stmt := topS 25
theorem sc_law : FnScope ["script", "state", "turn", "word", "depth", "turned"] ["script"] (defScope s_law) := ⟨rfl, rfl, rfl, by decide +kernel, rfl, by decide +kernel, by decide +kernel⟩
def c_law : MS Dr := (sSeq (sFor [2, 3, 4, 5] (iRg rg1 (aCons (ret (.val (.int 6))) aNil)) (gNm 2)
  (sSeq (sSet 3 (vCallR m__law_drawn (rCons (vVar 1) rNil)))
  (sSeq (sSet 4 (vCallP (fun ds => m_depth_of (permL [0] ds)) (aCons (vVar 3) aNil)))
  (sSeq (sIf (toB (vBin gEq (vCallP m__law_reduced (aCons (vVar 3) aNil)) (vTup aNil)))
  (sIf (tOrM (toB (vBin gNotN (vVar 4) (ret (.val .none)))) (toB (vBin gNe (vCallP m_expansion (aCons (vVar 3) (aCons (ret (.val (.int 4))) aNil))) (vTup aNil))))
  (sRet (ret (.val (.bool false))))
  sNext)
  (sIf (tNotM (toB (vCallP m__law_right (aCons (vVar 3) (aCons (vVar 4) aNil)))))
  (sRet (ret (.val (.bool false))))
  sNext))
  (sSeq (sIf (toB (vBin gNe (vCB gReprA (aCons (vCallP m_depth_of (aCons (vCallP m_leaving_out (aCons (vVar 3) aNil)) aNil)) aNil)) (vCB gReprA (aCons (vVar 4) aNil))))
  (sRet (ret (.val (.bool false))))
  sNext)
  (sSeq (sSet 5 (vBin gAdd (vBin gAdd (vTup (aCons (ret (.val (.int 1))) aNil)) (vVar 3)) (vTup (aCons (vUn gNeg (ret (.val (.int 1)))) aNil))))
  (sIf (tAndM (toB (vBin gLe (vLenV 5) (ret (.val (.int 10))))) (toB (vBin gNe (vCB gReprA (aCons (vCallP m_depth_of (aCons (vVar 5) aNil)) aNil)) (vCB gReprA (aCons (vVar 4) aNil)))))
  (sRet (ret (.val (.bool false))))
  sNext)))))))
  (sRet (ret (.val (.bool true)))))
def n_law : Nat := 6
theorem ok_law {f : Addr} {fd : FuncData} (A : DefAt K mg "law" s_law [] f fd) (h__law_begin : FnS ⟨P, w, K, mg, base⟩ 1 "_law_begin" s__law_begin [] ["script"] (spB K)) (h__law_drawn : FnR ⟨P, w, K, mg, base⟩ 3 "_law_drawn" s__law_drawn [] ["state"] m__law_drawn) (h_depth_of : FnP ⟨P, w, K, mg, base⟩ 4 "depth_of" s_depth_of [] ["word"] m_depth_of) (h__law_reduced : FnP ⟨P, w, K, mg, base⟩ 1 "_law_reduced" s__law_reduced [] ["word"] m__law_reduced) (h_expansion : FnP ⟨P, w, K, mg, base⟩ 4 "expansion" s_expansion [] ["word", "most"] m_expansion) (h__law_right : FnP ⟨P, w, K, mg, base⟩ 5 "_law_right" s__law_right [] ["word", "depth"] m__law_right) (h_leaving_out : FnP ⟨P, w, K, mg, base⟩ 4 "leaving_out" s_leaving_out [] ["word"] m_leaving_out) (n_range : mg "range" = none) (n_repr : mg "repr" = none) (n_len : mg "len" = none)
    (hval : ∀ d : Dr, DrOk d → ∃ r', c_law (Slot.emp :: Slot.root :: List.replicate 4 Slot.emp) d = .rt (.val (.bool true)) r') : FnG P w K mg base (L2.CX P w) 6 f fd ["script"] (spLaw K) :=
  have sc := sc_law
  law_mk (N := ["script", "state", "turn", "word", "depth", "turned"]) (k := 5) (kB := 1) (g := c_law) A sc_law (by decide) rfl rfl h__law_begin (by decide) (fun _ _ _ _ _ _ us hl => match us, hl with | [_], _ => rfl)
  (fun cdv A outer s H E t ht => psImp (ps_set (i := 1) sc.nd rfl (by first | exact Or.inl rfl | exact Or.inr rfl) ht) fun D σ H h => h)
  (fun cdv A outer s H E hr fB fdB aB FB bB => peImp (pe_callS (E := fun σ => WE (fun c d _ H => E c d H) σ) FB hr rfl aB.mg aB.kp bB (fun σ => passAt (takes_of rfl rfl rfl rfl) σ) (pa_cons (pe_var (i := 0) rfl (by first | exact Or.inl rfl | exact Or.inr (Or.inl rfl) | exact Or.inr (Or.inr rfl))) pa_nil rfl)) fun σ H Q h => h)
  (fun cdv A outer s H E hgd hr =>
  (vs_cons (vs_for [2, 3, 4, 5] (passes_of rfl) rfl (vi_range1 rfl n_range (va_cons ve_int va_nil)) (vg_name (i := 2) sc.nd rfl (by first | exact Or.inl rfl | exact Or.inr rfl))
  (vs_cons (vs_set (i := 3) sc.nd rfl (by first | exact Or.inl rfl | exact Or.inr rfl) (ve_callR h__law_drawn (hr.mono (by decide)) rfl rfl rfl (fun σ => passAt (takes_of rfl rfl rfl rfl) σ) (vr_cons (vv 1) vr_nil) (fun _ _ _ _ _ _ us hl => match us, hl with | [_], _ => rfl) (rCons_len rNil_len)))
  (vs_cons (vs_set (i := 4) sc.nd rfl (by first | exact Or.inl rfl | exact Or.inr rfl) (ve_callK0 (ks := ["word"]) [0] h_depth_of (hr.mono (by decide)) rfl rfl rfl (fun σ => passAt (takes_of rfl rfl rfl rfl) σ) (vk_cons (vv 3) vk_nil) (fun _ _ _ _ _ _ ws hl => match ws, hl with | [_], _ => rfl) (aCons_len aNil_len) (fun l hl => match l, hl with | [_], _ => rfl)))
  (vs_cons (vs_if (vt_cmp (ov_eq hr.units) (ve_callP h__law_reduced (hr.mono (by decide)) rfl rfl rfl (fun σ => passAt (takes_of rfl rfl rfl rfl) σ) (va_cons (vv 3) va_nil) (fun _ _ _ _ _ _ us hl => match us, hl with | [_], _ => rfl) (aCons_len aNil_len)) (ve_tup va_nil) (nomark _))
  (vs_one (vs_if (PW.pt (vw_or (vt_cmp ov_notN (vv 4) ve_none (nomark _)) (vw_or1 (vt_cmp (ov_ne hr.units) (ve_callP h_expansion (hr.mono (by decide)) rfl rfl rfl (fun σ => passAt (takes_of rfl rfl rfl rfl) σ) (va_cons (vv 3) (va_cons ve_int va_nil)) (fun _ _ _ _ _ _ us hl => match us, hl with | [_, _], _ => rfl) (aCons_len (aCons_len aNil_len))) (ve_tup va_nil) (nomark _)))))
  (vs_one (vs_ret ve_bool))
  vs_nil))
  (vs_one (vs_if (vt_not (vt_val (ve_callP h__law_right (hr.mono (by decide)) rfl rfl rfl (fun σ => passAt (takes_of rfl rfl rfl rfl) σ) (va_cons (vv 3) (va_cons (vv 4) va_nil)) (fun _ _ _ _ _ _ us hl => match us, hl with | [_, _], _ => rfl) (aCons_len (aCons_len aNil_len)))))
  (vs_one (vs_ret ve_bool))
  vs_nil)))
  (vs_cons (vs_if (vt_cmp (ov_ne hr.units) (ve_callB (cv_reprA hgd (room200 hr)) rfl n_repr (by decide +kernel) (va_cons (ve_callP h_depth_of (hr.mono (by decide)) rfl rfl rfl (fun σ => passAt (takes_of rfl rfl rfl rfl) σ) (va_cons (ve_callP h_leaving_out (hr.mono (by decide)) rfl rfl rfl (fun σ => passAt (takes_of rfl rfl rfl rfl) σ) (va_cons (vv 3) va_nil) (fun _ _ _ _ _ _ us hl => match us, hl with | [_], _ => rfl) (aCons_len aNil_len)) va_nil) (fun _ _ _ _ _ _ us hl => match us, hl with | [_], _ => rfl) (aCons_len aNil_len)) va_nil)) (ve_callB (cv_reprA hgd (room200 hr)) rfl n_repr (by decide +kernel) (va_cons (vv 4) va_nil)) (nomark _))
  (vs_one (vs_ret ve_bool))
  vs_nil)
  (vs_cons (vs_set (i := 5) sc.nd rfl (by first | exact Or.inl rfl | exact Or.inr rfl) (ve_bin ov_add (ve_bin ov_add (ve_tup (va_cons ve_int va_nil)) (vv 3)) (ve_tup (va_cons (ve_un uv_neg ve_int) va_nil))))
  (vs_one (vs_if (PW.pt (vw_and (vt_cmp ov_le (ve_lenv (i := 5) rfl rfl (by first | exact Or.inl rfl | exact Or.inr (Or.inl rfl) | exact Or.inr (Or.inr rfl)) rfl n_len) ve_int (nomark _)) (vw_and1 (vt_cmp (ov_ne hr.units) (ve_callB (cv_reprA hgd (room200 hr)) rfl n_repr (by decide +kernel) (va_cons (ve_callP h_depth_of (hr.mono (by decide)) rfl rfl rfl (fun σ => passAt (takes_of rfl rfl rfl rfl) σ) (va_cons (vv 5) va_nil) (fun _ _ _ _ _ _ us hl => match us, hl with | [_], _ => rfl) (aCons_len aNil_len)) va_nil)) (ve_callB (cv_reprA hgd (room200 hr)) rfl n_repr (by decide +kernel) (va_cons (vv 4) va_nil)) (nomark _)))))
  (vs_one (vs_ret ve_bool))
  vs_nil))))))))
  (vs_one (vs_ret ve_bool)))) hval
end
section
variable {P : Program} {w : World} {K : PySem.W.Frag} {h : Heap} {mg : Str → Option Value} {fa : Addr}
theorem fin (X : K.In h) (G : h.Ns mainGlobals mg) (hfa : mg "law" = some (.ref fa))
    {f__law_begin : Addr} {od__law_begin an__law_begin : Option Addr} {sl__law_begin : Array (Option Value)} {oc__law_begin kV__law_begin dc__law_begin pm__law_begin cd__law_begin ct__law_begin : Value}
    (a__law_begin : PySem.W.nsIn K mainGlobals "_law_begin" = some (some (.ref f__law_begin)))
    (l__law_begin : K.lookup f__law_begin = some ⟨oc__law_begin, od__law_begin, .func (PySem.W.fnOf "_law_begin" "_law_begin" (defArgs s__law_begin) (defBody s__law_begin) (defScope s__law_begin) .none kV__law_begin dc__law_begin pm__law_begin an__law_begin cd__law_begin ct__law_begin), sl__law_begin⟩)
    (c__law_begin' : PySem.W.codeIn K cd__law_begin "_law_begin" = true)
    (k__law_begin : PySem.W.keepIn K (.ref f__law_begin) = true)
    {f__law_draw : Addr} {od__law_draw an__law_draw : Option Addr} {sl__law_draw : Array (Option Value)} {oc__law_draw kV__law_draw dc__law_draw pm__law_draw cd__law_draw ct__law_draw : Value}
    (a__law_draw : PySem.W.nsIn K mainGlobals "_law_draw" = some (some (.ref f__law_draw)))
    (l__law_draw : K.lookup f__law_draw = some ⟨oc__law_draw, od__law_draw, .func (PySem.W.fnOf "_law_draw" "_law_draw" (defArgs s__law_draw) (defBody s__law_draw) (defScope s__law_draw) .none kV__law_draw dc__law_draw pm__law_draw an__law_draw cd__law_draw ct__law_draw), sl__law_draw⟩)
    (c__law_draw' : PySem.W.codeIn K cd__law_draw "_law_draw" = true)
    (k__law_draw : PySem.W.keepIn K (.ref f__law_draw) = true)
    {f_is_integer : Addr} {od_is_integer an_is_integer : Option Addr} {sl_is_integer : Array (Option Value)} {oc_is_integer kV_is_integer dc_is_integer pm_is_integer cd_is_integer ct_is_integer : Value}
    (a_is_integer : PySem.W.nsIn K mainGlobals "is_integer" = some (some (.ref f_is_integer)))
    (l_is_integer : K.lookup f_is_integer = some ⟨oc_is_integer, od_is_integer, .func (PySem.W.fnOf "is_integer" "is_integer" (defArgs s_is_integer) (defBody s_is_integer) (defScope s_is_integer) .none kV_is_integer dc_is_integer pm_is_integer an_is_integer cd_is_integer ct_is_integer), sl_is_integer⟩)
    (c_is_integer' : PySem.W.codeIn K cd_is_integer "is_integer" = true)
    (k_is_integer : PySem.W.keepIn K (.ref f_is_integer) = true)
    {f_is_natural : Addr} {od_is_natural an_is_natural : Option Addr} {sl_is_natural : Array (Option Value)} {oc_is_natural kV_is_natural dc_is_natural pm_is_natural cd_is_natural ct_is_natural : Value} {T_is_natural : Addr} {tc_is_natural : Value} {td_is_natural : Option Addr} {tn_is_natural : Nat} {tl_is_natural : Array (Option Value)} {k_is_natural0 : Tok}
    (a_is_natural : PySem.W.nsIn K mainGlobals "is_natural" = some (some (.ref f_is_natural)))
    (l_is_natural : K.lookup f_is_natural = some ⟨oc_is_natural, od_is_natural, .func (PySem.W.fnOf "is_natural" "is_natural" (defArgs s_is_natural) (defBody s_is_natural) (defScope s_is_natural) (.ref T_is_natural) kV_is_natural dc_is_natural pm_is_natural an_is_natural cd_is_natural ct_is_natural), sl_is_natural⟩)
    (c_is_natural' : PySem.W.codeIn K cd_is_natural "is_natural" = true)
    (k_is_natural : PySem.W.keepIn K (.ref f_is_natural) = true)
    (t_is_natural : K.lookup T_is_natural = some ⟨tc_is_natural, td_is_natural, .seq #[.int 0 k_is_natural0] tn_is_natural, tl_is_natural⟩)
    {f_are_integers : Addr} {od_are_integers an_are_integers : Option Addr} {sl_are_integers : Array (Option Value)} {oc_are_integers kV_are_integers dc_are_integers pm_are_integers cd_are_integers ct_are_integers : Value}
    (a_are_integers : PySem.W.nsIn K mainGlobals "are_integers" = some (some (.ref f_are_integers)))
    (l_are_integers : K.lookup f_are_integers = some ⟨oc_are_integers, od_are_integers, .func (PySem.W.fnOf "are_integers" "are_integers" (defArgs s_are_integers) (defBody s_are_integers) (defScope s_are_integers) .none kV_are_integers dc_are_integers pm_are_integers an_are_integers cd_are_integers ct_are_integers), sl_are_integers⟩)
    (c_are_integers' : PySem.W.codeIn K cd_are_integers "are_integers" = true)
    (k_are_integers : PySem.W.keepIn K (.ref f_are_integers) = true)
    {f_check_between : Addr} {od_check_between an_check_between : Option Addr} {sl_check_between : Array (Option Value)} {oc_check_between kV_check_between dc_check_between pm_check_between cd_check_between ct_check_between : Value}
    (a_check_between : PySem.W.nsIn K mainGlobals "check_between" = some (some (.ref f_check_between)))
    (l_check_between : K.lookup f_check_between = some ⟨oc_check_between, od_check_between, .func (PySem.W.fnOf "check_between" "check_between" (defArgs s_check_between) (defBody s_check_between) (defScope s_check_between) .none kV_check_between dc_check_between pm_check_between an_check_between cd_check_between ct_check_between), sl_check_between⟩)
    (c_check_between' : PySem.W.codeIn K cd_check_between "check_between" = true)
    (k_check_between : PySem.W.keepIn K (.ref f_check_between) = true)
    {f_check_word : Addr} {od_check_word an_check_word : Option Addr} {sl_check_word : Array (Option Value)} {oc_check_word kV_check_word dc_check_word pm_check_word cd_check_word ct_check_word : Value}
    (a_check_word : PySem.W.nsIn K mainGlobals "check_word" = some (some (.ref f_check_word)))
    (l_check_word : K.lookup f_check_word = some ⟨oc_check_word, od_check_word, .func (PySem.W.fnOf "check_word" "check_word" (defArgs s_check_word) (defBody s_check_word) (defScope s_check_word) .none kV_check_word dc_check_word pm_check_word an_check_word cd_check_word ct_check_word), sl_check_word⟩)
    (c_check_word' : PySem.W.codeIn K cd_check_word "check_word" = true)
    (k_check_word : PySem.W.keepIn K (.ref f_check_word) = true)
    {f_left_out : Addr} {od_left_out an_left_out : Option Addr} {sl_left_out : Array (Option Value)} {oc_left_out kV_left_out dc_left_out pm_left_out cd_left_out ct_left_out : Value}
    (a_left_out : PySem.W.nsIn K mainGlobals "left_out" = some (some (.ref f_left_out)))
    (l_left_out : K.lookup f_left_out = some ⟨oc_left_out, od_left_out, .func (PySem.W.fnOf "left_out" "left_out" (defArgs s_left_out) (defBody s_left_out) (defScope s_left_out) .none kV_left_out dc_left_out pm_left_out an_left_out cd_left_out ct_left_out), sl_left_out⟩)
    (c_left_out' : PySem.W.codeIn K cd_left_out "left_out" = true)
    (k_left_out : PySem.W.keepIn K (.ref f_left_out) = true)
    {f_leaving_out : Addr} {od_leaving_out an_leaving_out : Option Addr} {sl_leaving_out : Array (Option Value)} {oc_leaving_out kV_leaving_out dc_leaving_out pm_leaving_out cd_leaving_out ct_leaving_out : Value}
    (a_leaving_out : PySem.W.nsIn K mainGlobals "leaving_out" = some (some (.ref f_leaving_out)))
    (l_leaving_out : K.lookup f_leaving_out = some ⟨oc_leaving_out, od_leaving_out, .func (PySem.W.fnOf "leaving_out" "leaving_out" (defArgs s_leaving_out) (defBody s_leaving_out) (defScope s_leaving_out) .none kV_leaving_out dc_leaving_out pm_leaving_out an_leaving_out cd_leaving_out ct_leaving_out), sl_leaving_out⟩)
    (c_leaving_out' : PySem.W.codeIn K cd_leaving_out "leaving_out" = true)
    (k_leaving_out : PySem.W.keepIn K (.ref f_leaving_out) = true)
    {f_expansion_in : Addr} {od_expansion_in an_expansion_in : Option Addr} {sl_expansion_in : Array (Option Value)} {oc_expansion_in kV_expansion_in dc_expansion_in pm_expansion_in cd_expansion_in ct_expansion_in : Value}
    (a_expansion_in : PySem.W.nsIn K mainGlobals "expansion_in" = some (some (.ref f_expansion_in)))
    (l_expansion_in : K.lookup f_expansion_in = some ⟨oc_expansion_in, od_expansion_in, .func (PySem.W.fnOf "expansion_in" "expansion_in" (defArgs s_expansion_in) (defBody s_expansion_in) (defScope s_expansion_in) .none kV_expansion_in dc_expansion_in pm_expansion_in an_expansion_in cd_expansion_in ct_expansion_in), sl_expansion_in⟩)
    (c_expansion_in' : PySem.W.codeIn K cd_expansion_in "expansion_in" = true)
    (k_expansion_in : PySem.W.keepIn K (.ref f_expansion_in) = true)
    {f_expansion : Addr} {od_expansion an_expansion : Option Addr} {sl_expansion : Array (Option Value)} {oc_expansion kV_expansion dc_expansion pm_expansion cd_expansion ct_expansion : Value}
    (a_expansion : PySem.W.nsIn K mainGlobals "expansion" = some (some (.ref f_expansion)))
    (l_expansion : K.lookup f_expansion = some ⟨oc_expansion, od_expansion, .func (PySem.W.fnOf "expansion" "expansion" (defArgs s_expansion) (defBody s_expansion) (defScope s_expansion) .none kV_expansion dc_expansion pm_expansion an_expansion cd_expansion ct_expansion), sl_expansion⟩)
    (c_expansion' : PySem.W.codeIn K cd_expansion "expansion" = true)
    (k_expansion : PySem.W.keepIn K (.ref f_expansion) = true)
    {f_depth_of : Addr} {od_depth_of an_depth_of : Option Addr} {sl_depth_of : Array (Option Value)} {oc_depth_of kV_depth_of dc_depth_of pm_depth_of cd_depth_of ct_depth_of : Value}
    (a_depth_of : PySem.W.nsIn K mainGlobals "depth_of" = some (some (.ref f_depth_of)))
    (l_depth_of : K.lookup f_depth_of = some ⟨oc_depth_of, od_depth_of, .func (PySem.W.fnOf "depth_of" "depth_of" (defArgs s_depth_of) (defBody s_depth_of) (defScope s_depth_of) .none kV_depth_of dc_depth_of pm_depth_of an_depth_of cd_depth_of ct_depth_of), sl_depth_of⟩)
    (c_depth_of' : PySem.W.codeIn K cd_depth_of "depth_of" = true)
    (k_depth_of : PySem.W.keepIn K (.ref f_depth_of) = true)
    {f__law_back : Addr} {od__law_back an__law_back : Option Addr} {sl__law_back : Array (Option Value)} {oc__law_back kV__law_back dc__law_back pm__law_back cd__law_back ct__law_back : Value}
    (a__law_back : PySem.W.nsIn K mainGlobals "_law_back" = some (some (.ref f__law_back)))
    (l__law_back : K.lookup f__law_back = some ⟨oc__law_back, od__law_back, .func (PySem.W.fnOf "_law_back" "_law_back" (defArgs s__law_back) (defBody s__law_back) (defScope s__law_back) .none kV__law_back dc__law_back pm__law_back an__law_back cd__law_back ct__law_back), sl__law_back⟩)
    (c__law_back' : PySem.W.codeIn K cd__law_back "_law_back" = true)
    (k__law_back : PySem.W.keepIn K (.ref f__law_back) = true)
    {f__law_commuted : Addr} {od__law_commuted an__law_commuted : Option Addr} {sl__law_commuted : Array (Option Value)} {oc__law_commuted kV__law_commuted dc__law_commuted pm__law_commuted cd__law_commuted ct__law_commuted : Value}
    (a__law_commuted : PySem.W.nsIn K mainGlobals "_law_commuted" = some (some (.ref f__law_commuted)))
    (l__law_commuted : K.lookup f__law_commuted = some ⟨oc__law_commuted, od__law_commuted, .func (PySem.W.fnOf "_law_commuted" "_law_commuted" (defArgs s__law_commuted) (defBody s__law_commuted) (defScope s__law_commuted) .none kV__law_commuted dc__law_commuted pm__law_commuted an__law_commuted cd__law_commuted ct__law_commuted), sl__law_commuted⟩)
    (c__law_commuted' : PySem.W.codeIn K cd__law_commuted "_law_commuted" = true)
    (k__law_commuted : PySem.W.keepIn K (.ref f__law_commuted) = true)
    {f__law_word : Addr} {od__law_word an__law_word : Option Addr} {sl__law_word : Array (Option Value)} {oc__law_word kV__law_word dc__law_word pm__law_word cd__law_word ct__law_word : Value}
    (a__law_word : PySem.W.nsIn K mainGlobals "_law_word" = some (some (.ref f__law_word)))
    (l__law_word : K.lookup f__law_word = some ⟨oc__law_word, od__law_word, .func (PySem.W.fnOf "_law_word" "_law_word" (defArgs s__law_word) (defBody s__law_word) (defScope s__law_word) .none kV__law_word dc__law_word pm__law_word an__law_word cd__law_word ct__law_word), sl__law_word⟩)
    (c__law_word' : PySem.W.codeIn K cd__law_word "_law_word" = true)
    (k__law_word : PySem.W.keepIn K (.ref f__law_word) = true)
    {f__law_reduced : Addr} {od__law_reduced an__law_reduced : Option Addr} {sl__law_reduced : Array (Option Value)} {oc__law_reduced kV__law_reduced dc__law_reduced pm__law_reduced cd__law_reduced ct__law_reduced : Value}
    (a__law_reduced : PySem.W.nsIn K mainGlobals "_law_reduced" = some (some (.ref f__law_reduced)))
    (l__law_reduced : K.lookup f__law_reduced = some ⟨oc__law_reduced, od__law_reduced, .func (PySem.W.fnOf "_law_reduced" "_law_reduced" (defArgs s__law_reduced) (defBody s__law_reduced) (defScope s__law_reduced) .none kV__law_reduced dc__law_reduced pm__law_reduced an__law_reduced cd__law_reduced ct__law_reduced), sl__law_reduced⟩)
    (c__law_reduced' : PySem.W.codeIn K cd__law_reduced "_law_reduced" = true)
    (k__law_reduced : PySem.W.keepIn K (.ref f__law_reduced) = true)
    {f__law_drawn : Addr} {od__law_drawn an__law_drawn : Option Addr} {sl__law_drawn : Array (Option Value)} {oc__law_drawn kV__law_drawn dc__law_drawn pm__law_drawn cd__law_drawn ct__law_drawn : Value}
    (a__law_drawn : PySem.W.nsIn K mainGlobals "_law_drawn" = some (some (.ref f__law_drawn)))
    (l__law_drawn : K.lookup f__law_drawn = some ⟨oc__law_drawn, od__law_drawn, .func (PySem.W.fnOf "_law_drawn" "_law_drawn" (defArgs s__law_drawn) (defBody s__law_drawn) (defScope s__law_drawn) .none kV__law_drawn dc__law_drawn pm__law_drawn an__law_drawn cd__law_drawn ct__law_drawn), sl__law_drawn⟩)
    (c__law_drawn' : PySem.W.codeIn K cd__law_drawn "_law_drawn" = true)
    (k__law_drawn : PySem.W.keepIn K (.ref f__law_drawn) = true)
    {f__law_right : Addr} {od__law_right an__law_right : Option Addr} {sl__law_right : Array (Option Value)} {oc__law_right kV__law_right dc__law_right pm__law_right cd__law_right ct__law_right : Value}
    (a__law_right : PySem.W.nsIn K mainGlobals "_law_right" = some (some (.ref f__law_right)))
    (l__law_right : K.lookup f__law_right = some ⟨oc__law_right, od__law_right, .func (PySem.W.fnOf "_law_right" "_law_right" (defArgs s__law_right) (defBody s__law_right) (defScope s__law_right) .none kV__law_right dc__law_right pm__law_right an__law_right cd__law_right ct__law_right), sl__law_right⟩)
    (c__law_right' : PySem.W.codeIn K cd__law_right "_law_right" = true)
    (k__law_right : PySem.W.keepIn K (.ref f__law_right) = true)
    {f_law : Addr} {od_law an_law : Option Addr} {sl_law : Array (Option Value)} {oc_law kV_law dc_law pm_law cd_law ct_law : Value}
    (a_law : PySem.W.nsIn K mainGlobals "law" = some (some (.ref f_law)))
    (l_law : K.lookup f_law = some ⟨oc_law, od_law, .func (PySem.W.fnOf "law" "law" (defArgs s_law) (defBody s_law) (defScope s_law) .none kV_law dc_law pm_law an_law cd_law ct_law), sl_law⟩)
    (c_law' : PySem.W.codeIn K cd_law "law" = true)
    (k_law : PySem.W.keepIn K (.ref f_law) = true)
    (b_int : PySem.W.nsIn K mainGlobals "int" = some none)
    (b_sum : PySem.W.nsIn K mainGlobals "sum" = some none)
    (b_len : PySem.W.nsIn K mainGlobals "len" = some none)
    (b_isinstance : PySem.W.nsIn K mainGlobals "isinstance" = some none)
    (b_bool : PySem.W.nsIn K mainGlobals "bool" = some none)
    (b_tuple : PySem.W.nsIn K mainGlobals "tuple" = some none)
    (b_all : PySem.W.nsIn K mainGlobals "all" = some none)
    (b_range : PySem.W.nsIn K mainGlobals "range" = some none)
    (b_min : PySem.W.nsIn K mainGlobals "min" = some none)
    (b_abs : PySem.W.nsIn K mainGlobals "abs" = some none)
    (b_sorted : PySem.W.nsIn K mainGlobals "sorted" = some none)
    (b_any : PySem.W.nsIn K mainGlobals "any" = some none)
    (b_repr : PySem.W.nsIn K mainGlobals "repr" = some none)
    (hval : ∀ d : Dr, DrOk d → ∃ r', c_law (Slot.emp :: Slot.root :: List.replicate (n_law - 2) Slot.emp) d = .rt (.val (.bool true)) r') :
    ∃ fd : FuncData, (∀ (s : Shared) (u : Value), BindsTo s fd ⟨[u], []⟩ [("script", u)]) ∧ ∀ base : Heap, K.In base → base.Ns mainGlobals mg → FnG P w K mg base (L2.CX P w) 6 fa fd ["script"] (spLaw K) := by
  have e := hfa.symm.trans (PySem.W.mg_of X G a_law)
  cases e
  have A__law_begin : DefAt K mg "_law_begin" s__law_begin [] _ _ := ⟨⟨_, _, _, _, _, _, _, _, _, _, rfl, l__law_begin, c__law_begin', .inl ⟨rfl, rfl⟩⟩, k__law_begin, PySem.W.mg_of X G a__law_begin⟩
  have A__law_draw : DefAt K mg "_law_draw" s__law_draw [] _ _ := ⟨⟨_, _, _, _, _, _, _, _, _, _, rfl, l__law_draw, c__law_draw', .inl ⟨rfl, rfl⟩⟩, k__law_draw, PySem.W.mg_of X G a__law_draw⟩
  have A_is_integer : DefAt K mg "is_integer" s_is_integer [] _ _ := ⟨⟨_, _, _, _, _, _, _, _, _, _, rfl, l_is_integer, c_is_integer', .inl ⟨rfl, rfl⟩⟩, k_is_integer, PySem.W.mg_of X G a_is_integer⟩
  have A_is_natural : DefAt K mg "is_natural" s_is_natural [V.int 0] _ _ := ⟨⟨_, _, _, _, _, _, _, _, _, _, rfl, l_is_natural, c_is_natural', .inr ⟨by simp, T_is_natural, _, [.int 0 k_is_natural0], tn_is_natural, rfl, t_is_natural, rfl, .cons ⟨k_is_natural0, rfl⟩ .nil⟩⟩, k_is_natural, PySem.W.mg_of X G a_is_natural⟩
  have A_are_integers : DefAt K mg "are_integers" s_are_integers [] _ _ := ⟨⟨_, _, _, _, _, _, _, _, _, _, rfl, l_are_integers, c_are_integers', .inl ⟨rfl, rfl⟩⟩, k_are_integers, PySem.W.mg_of X G a_are_integers⟩
  have A_check_between : DefAt K mg "check_between" s_check_between [] _ _ := ⟨⟨_, _, _, _, _, _, _, _, _, _, rfl, l_check_between, c_check_between', .inl ⟨rfl, rfl⟩⟩, k_check_between, PySem.W.mg_of X G a_check_between⟩
  have A_check_word : DefAt K mg "check_word" s_check_word [] _ _ := ⟨⟨_, _, _, _, _, _, _, _, _, _, rfl, l_check_word, c_check_word', .inl ⟨rfl, rfl⟩⟩, k_check_word, PySem.W.mg_of X G a_check_word⟩
  have A_left_out : DefAt K mg "left_out" s_left_out [] _ _ := ⟨⟨_, _, _, _, _, _, _, _, _, _, rfl, l_left_out, c_left_out', .inl ⟨rfl, rfl⟩⟩, k_left_out, PySem.W.mg_of X G a_left_out⟩
  have A_leaving_out : DefAt K mg "leaving_out" s_leaving_out [] _ _ := ⟨⟨_, _, _, _, _, _, _, _, _, _, rfl, l_leaving_out, c_leaving_out', .inl ⟨rfl, rfl⟩⟩, k_leaving_out, PySem.W.mg_of X G a_leaving_out⟩
  have A_expansion_in : DefAt K mg "expansion_in" s_expansion_in [] _ _ := ⟨⟨_, _, _, _, _, _, _, _, _, _, rfl, l_expansion_in, c_expansion_in', .inl ⟨rfl, rfl⟩⟩, k_expansion_in, PySem.W.mg_of X G a_expansion_in⟩
  have A_expansion : DefAt K mg "expansion" s_expansion [] _ _ := ⟨⟨_, _, _, _, _, _, _, _, _, _, rfl, l_expansion, c_expansion', .inl ⟨rfl, rfl⟩⟩, k_expansion, PySem.W.mg_of X G a_expansion⟩
  have A_depth_of : DefAt K mg "depth_of" s_depth_of [] _ _ := ⟨⟨_, _, _, _, _, _, _, _, _, _, rfl, l_depth_of, c_depth_of', .inl ⟨rfl, rfl⟩⟩, k_depth_of, PySem.W.mg_of X G a_depth_of⟩
  have A__law_back : DefAt K mg "_law_back" s__law_back [] _ _ := ⟨⟨_, _, _, _, _, _, _, _, _, _, rfl, l__law_back, c__law_back', .inl ⟨rfl, rfl⟩⟩, k__law_back, PySem.W.mg_of X G a__law_back⟩
  have A__law_commuted : DefAt K mg "_law_commuted" s__law_commuted [] _ _ := ⟨⟨_, _, _, _, _, _, _, _, _, _, rfl, l__law_commuted, c__law_commuted', .inl ⟨rfl, rfl⟩⟩, k__law_commuted, PySem.W.mg_of X G a__law_commuted⟩
  have A__law_word : DefAt K mg "_law_word" s__law_word [] _ _ := ⟨⟨_, _, _, _, _, _, _, _, _, _, rfl, l__law_word, c__law_word', .inl ⟨rfl, rfl⟩⟩, k__law_word, PySem.W.mg_of X G a__law_word⟩
  have A__law_reduced : DefAt K mg "_law_reduced" s__law_reduced [] _ _ := ⟨⟨_, _, _, _, _, _, _, _, _, _, rfl, l__law_reduced, c__law_reduced', .inl ⟨rfl, rfl⟩⟩, k__law_reduced, PySem.W.mg_of X G a__law_reduced⟩
  have A__law_drawn : DefAt K mg "_law_drawn" s__law_drawn [] _ _ := ⟨⟨_, _, _, _, _, _, _, _, _, _, rfl, l__law_drawn, c__law_drawn', .inl ⟨rfl, rfl⟩⟩, k__law_drawn, PySem.W.mg_of X G a__law_drawn⟩
  have A__law_right : DefAt K mg "_law_right" s__law_right [] _ _ := ⟨⟨_, _, _, _, _, _, _, _, _, _, rfl, l__law_right, c__law_right', .inl ⟨rfl, rfl⟩⟩, k__law_right, PySem.W.mg_of X G a__law_right⟩
  have A_law : DefAt K mg "law" s_law [] _ _ := ⟨⟨_, _, _, _, _, _, _, _, _, _, rfl, l_law, c_law', .inl ⟨rfl, rfl⟩⟩, k_law, PySem.W.mg_of X G a_law⟩
  have n_int := PySem.W.mg_none_of X G b_int
  have n_sum := PySem.W.mg_none_of X G b_sum
  have n_len := PySem.W.mg_none_of X G b_len
  have n_isinstance := PySem.W.mg_none_of X G b_isinstance
  have n_bool := PySem.W.mg_none_of X G b_bool
  have n_tuple := PySem.W.mg_none_of X G b_tuple
  have n_all := PySem.W.mg_none_of X G b_all
  have n_range := PySem.W.mg_none_of X G b_range
  have n_min := PySem.W.mg_none_of X G b_min
  have n_abs := PySem.W.mg_none_of X G b_abs
  have n_sorted := PySem.W.mg_none_of X G b_sorted
  have n_any := PySem.W.mg_none_of X G b_any
  have n_repr := PySem.W.mg_none_of X G b_repr
  refine ⟨PySem.W.fnOf "law" "law" (defArgs s_law) (defBody s_law) (defScope s_law) .none kV_law dc_law pm_law an_law cd_law ct_law, fun s u => .of_eq rfl, fun base _ _ => ?_⟩
  have h__law_begin := ok__law_begin (P := P) (w := w) (base := base) ⟨_, _, A__law_begin⟩  n_int n_sum
  have h__law_draw := ok__law_draw (P := P) (w := w) (base := base) ⟨_, _, A__law_draw⟩  n_len n_int
  have h_is_integer := ok_is_integer (P := P) (w := w) (base := base) ⟨_, _, A_is_integer⟩  n_isinstance n_bool n_int
  have h_is_natural := ok_is_natural (P := P) (w := w) (base := base) ⟨_, _, A_is_natural⟩ h_is_integer 
  have h_are_integers := ok_are_integers (P := P) (w := w) (base := base) ⟨_, _, A_are_integers⟩ h_is_integer n_len n_isinstance n_tuple n_all
  have h_check_between := ok_check_between (P := P) (w := w) (base := base) ⟨_, _, A_check_between⟩ h_is_natural 
  have h_check_word := ok_check_word (P := P) (w := w) (base := base) ⟨_, _, A_check_word⟩ h_are_integers n_len n_isinstance n_tuple n_all
  have h_left_out := ok_left_out (P := P) (w := w) (base := base) ⟨_, _, A_left_out⟩  n_tuple
  have h_leaving_out := ok_leaving_out (P := P) (w := w) (base := base) ⟨_, _, A_leaving_out⟩ h_check_word h_left_out 
  have h_expansion_in := ok_expansion_in (P := P) (w := w) (base := base) ⟨_, _, A_expansion_in⟩  n_len n_range n_min n_abs
  have h_expansion := ok_expansion (P := P) (w := w) (base := base) ⟨_, _, A_expansion⟩ h_check_word h_check_between h_expansion_in n_sorted n_tuple
  have h_depth_of := ok_depth_of (P := P) (w := w) (base := base) ⟨_, _, A_depth_of⟩ h_check_word h_left_out h_expansion_in n_range n_len n_any
  have h__law_back := ok__law_back (P := P) (w := w) (base := base) ⟨_, _, A__law_back⟩  n_tuple
  have h__law_commuted := ok__law_commuted (P := P) (w := w) (base := base) ⟨_, _, A__law_commuted⟩ h__law_back 
  have h__law_word := ok__law_word (P := P) (w := w) (base := base) ⟨_, _, A__law_word⟩ h__law_draw n_range n_tuple
  have h__law_reduced := ok__law_reduced (P := P) (w := w) (base := base) ⟨_, _, A__law_reduced⟩  n_range n_len
  have h__law_drawn := ok__law_drawn (P := P) (w := w) (base := base) ⟨_, _, A__law_drawn⟩ h__law_draw h__law_word h__law_commuted h__law_back 
  have h__law_right := ok__law_right (P := P) (w := w) (base := base) ⟨_, _, A__law_right⟩ h_expansion n_isinstance n_int n_bool n_min n_len
  exact ok_law (P := P) (w := w) (base := base) A_law h__law_begin h__law_drawn h_depth_of h__law_reduced h_expansion h__law_right h_leaving_out n_range n_repr n_len hval
end
end L2.VL.K77

namespace L2.VL.K77
open PySem PySem.Spec PyProof.Rows
abbrev dI (w : List Int) : List D := w.map PyData.int
abbrev dW (w : List Int) : D := .tuple (dI w)
theorem is_int (n : Int) : m_is_integer [.int n] = .ret (.val (.bool true)) := rfl
theorem len_dI (w : List Int) : (dI w).length = w.length := List.length_map _
theorem are_ints (w : List Int) (hl : w.length ≤ 1000) : m_are_integers [dW w, .int w.length] = .ret (.val (.bool true)) := by
  have e1 : vLc [2] (iSeq (vVar 0)) (gNm 2) ttYes (vCallP m_is_integer (aCons (vVar 2) aNil)) [Slot.val (dW w), .val (.int w.length), .emp] () = .ok (.own ((dI w).map fun _ => .bool true)) [Slot.val (dW w), .val (.int w.length), .emp] () := by
    refine vLc_map (fun _ => .bool true) ?_ (fun d hd => ?_) (by rw [len_dI]; omega) (fun i hi s hs => ?_)
    · simp only [bnd_eq, bind_ok, ret_eq, ofO_some, toD_eq, frz_val, frz_own, toB_eq, boolOf_b, vVar_eq, varK_val, varK_root, varK_own, vBin_eq, vUn_eq, vAnd_eq, vOr_eq, vNot_eq, tAnd_eq, tOr_eq, tNot_eq, vIfE_eq, aNil_eq, aCons_eq, vTup_eq, vLst_eq, vCB_eq, chain_eq, vIsi_eq, vIsi2_eq, noDict_int, noDict_tuple, noDict_list, noDict_none, noDict_bool, noDict_str, isT_int_int, isT_bool_int, isT_tuple_tuple, isT_tuple_int, isT_int_tuple, gAdd_int, gAdd_tup, gAdd_lst, gSub_int, gMul_int, gMul_tup, gMul_lst, gMod_int, gDiv_int, gPow_int, gLt_int, gLe_int, gGt_int, gGe_int, gEq_int, gNe_int, gNeg_int, gRev_tup, gIx_tup, gIx_lst, gLen_tup, gLen_lst, gAbs_int, gMin_int, gMax_int, gInt_int, gTuple_lst, gTuple_tup, gList_lst, gList_tup, gSum_ints, gAll_bools, gAny_bools, vIxV_eq, ixK_some, ixK2_some, slotD_val, slotD_own, vLenV_eq, lenK_some, tTruV_eq, truK_some, tTru_eq, truD_bool, truD_int, truD_tup, truD_lst, truD_none, vApp_eq, appK_some, appK2_some, ownOf_own, thenK_ok, thenS_eq, sSetIx_eq, setIxK_some, setIxK2_some, setIxK3_some, sSeq_eq, seqK_nx, seqK_rt, seqK_bk, seqK_ct, sNext_eq, sBreak_eq, sCont_eq, sRet_eq, sRetN_eq, sExpr_eq, sSet_eq, sIf_eq, asgK_some, sAsg_eq, gNm_eq, gTp_tup, gAll2_nil, gAll2_cons, bNil_eq, bCons_eq, parK_two, sPar_eq, iSeq_eq, seqOf_tup, seqOf_lst, iRg_eq, vCallP_eq, callK_ret, vCallR_eq, callRK_ret, rNil_eq, rCons_eq, argOf_val, argOf_own, argOf_root, oNone_eq, oSome_eq, intOf_int, vSlice_eq, gSl_tup, gSl_lst, wipe_nil, wipe_cons, outP_val, outP_own, outP_ownT, outP_nx, outR_rt, outR_nx, vNewT_eq, vDisp1_eq, vTake_eq, takeK_some, ownTOf_own, iItemsT_eq, dictOf_own, sPutT_eq, putK1_some, putK2_some, vGetT_eq, getK1_some, getK2_some, keyOf_ints, forK_some, forK2_nx, forK2_ct, forK2_bk, forK2_rt, lcK_ok, dcK_ok, ttYes_eq, lcK3_some, dcK3_some, dcK4_some, vDrGet_eq, drgK_true, isRoot_root, vDrLen_eq, drlK_true, vDrCell_eq, drcK_true, drc2_int, drc3_some, sDrPut_eq, drpK_int, vPop_eq, popK_some, popK2_some, iKeysT_eq, gIsN_of, gNotN_of, isNone_none, isNone_int, isNone_tup, isT_bool_none, isT_int_none, forL_dr, str_ne, List.getElem?_cons_zero, List.getElem?_cons_succ, List.set_cons_zero, List.set_cons_succ, Option.map_some, Option.bind_some, if_true, if_false, ite_true, ite_false, iteM, iteMS, Bool.false_eq_true, small_eq, List.length_cons, List.length_nil, decide_eq_true_eq, eq_self, decide_true, Int.toNat_natCast, Nat.reduceLeDiff, Nat.reduceAdd, Nat.reduceMul, Nat.zero_le, Nat.zero_add]
    · obtain ⟨n, _, rfl⟩ := List.mem_map.mp hd
      refine ⟨_, [Slot.val (dW w), .val (.int w.length), .val (.int n)], rfl, ?_, rfl⟩
      simp only [bnd_eq, bind_ok, ret_eq, ofO_some, toD_eq, frz_val, frz_own, toB_eq, boolOf_b, vVar_eq, varK_val, varK_root, varK_own, vBin_eq, vUn_eq, vAnd_eq, vOr_eq, vNot_eq, tAnd_eq, tOr_eq, tNot_eq, vIfE_eq, aNil_eq, aCons_eq, vTup_eq, vLst_eq, vCB_eq, chain_eq, vIsi_eq, vIsi2_eq, noDict_int, noDict_tuple, noDict_list, noDict_none, noDict_bool, noDict_str, isT_int_int, isT_bool_int, isT_tuple_tuple, isT_tuple_int, isT_int_tuple, gAdd_int, gAdd_tup, gAdd_lst, gSub_int, gMul_int, gMul_tup, gMul_lst, gMod_int, gDiv_int, gPow_int, gLt_int, gLe_int, gGt_int, gGe_int, gEq_int, gNe_int, gNeg_int, gRev_tup, gIx_tup, gIx_lst, gLen_tup, gLen_lst, gAbs_int, gMin_int, gMax_int, gInt_int, gTuple_lst, gTuple_tup, gList_lst, gList_tup, gSum_ints, gAll_bools, gAny_bools, vIxV_eq, ixK_some, ixK2_some, slotD_val, slotD_own, vLenV_eq, lenK_some, tTruV_eq, truK_some, tTru_eq, truD_bool, truD_int, truD_tup, truD_lst, truD_none, vApp_eq, appK_some, appK2_some, ownOf_own, thenK_ok, thenS_eq, sSetIx_eq, setIxK_some, setIxK2_some, setIxK3_some, sSeq_eq, seqK_nx, seqK_rt, seqK_bk, seqK_ct, sNext_eq, sBreak_eq, sCont_eq, sRet_eq, sRetN_eq, sExpr_eq, sSet_eq, sIf_eq, asgK_some, sAsg_eq, gNm_eq, gTp_tup, gAll2_nil, gAll2_cons, bNil_eq, bCons_eq, parK_two, sPar_eq, iSeq_eq, seqOf_tup, seqOf_lst, iRg_eq, vCallP_eq, callK_ret, vCallR_eq, callRK_ret, rNil_eq, rCons_eq, argOf_val, argOf_own, argOf_root, oNone_eq, oSome_eq, intOf_int, vSlice_eq, gSl_tup, gSl_lst, wipe_nil, wipe_cons, outP_val, outP_own, outP_ownT, outP_nx, outR_rt, outR_nx, vNewT_eq, vDisp1_eq, vTake_eq, takeK_some, ownTOf_own, iItemsT_eq, dictOf_own, sPutT_eq, putK1_some, putK2_some, vGetT_eq, getK1_some, getK2_some, keyOf_ints, forK_some, forK2_nx, forK2_ct, forK2_bk, forK2_rt, lcK_ok, dcK_ok, ttYes_eq, lcK3_some, dcK3_some, dcK4_some, vDrGet_eq, drgK_true, isRoot_root, vDrLen_eq, drlK_true, vDrCell_eq, drcK_true, drc2_int, drc3_some, sDrPut_eq, drpK_int, vPop_eq, popK_some, popK2_some, iKeysT_eq, gIsN_of, gNotN_of, isNone_none, isNone_int, isNone_tup, isT_bool_none, isT_int_none, forL_dr, str_ne, List.getElem?_cons_zero, List.getElem?_cons_succ, List.set_cons_zero, List.set_cons_succ, Option.map_some, Option.bind_some, if_true, if_false, ite_true, ite_false, iteM, iteMS, Bool.false_eq_true, small_eq, List.length_cons, List.length_nil, decide_eq_true_eq, eq_self, decide_true, Int.toNat_natCast, Nat.reduceLeDiff, Nat.reduceAdd, Nat.reduceMul, Nat.zero_le, Nat.zero_add, wipe_cons, wipe_nil, is_int]
    · obtain rfl : i = 2 := by simpa using hi
      obtain rfl : Slot.emp = s := by simpa using hs
      rfl
  have e2 : ((dI w).map fun _ => PyData.bool true) = (w.map fun _ => true).map PyData.bool := by simp [dI]
  have e3 : (w.map fun _ => true).all id = true := by simp
  unfold m_are_integers
  show outP (c_are_integers [Slot.val (dW w), .val (.int w.length), .emp] ()) = _
  unfold c_are_integers
  simp only [bnd_eq, bind_ok, ret_eq, ofO_some, toD_eq, frz_val, frz_own, toB_eq, boolOf_b, vVar_eq, varK_val, varK_root, varK_own, vBin_eq, vUn_eq, vAnd_eq, vOr_eq, vNot_eq, tAnd_eq, tOr_eq, tNot_eq, vIfE_eq, aNil_eq, aCons_eq, vTup_eq, vLst_eq, vCB_eq, chain_eq, vIsi_eq, vIsi2_eq, noDict_int, noDict_tuple, noDict_list, noDict_none, noDict_bool, noDict_str, isT_int_int, isT_bool_int, isT_tuple_tuple, isT_tuple_int, isT_int_tuple, gAdd_int, gAdd_tup, gAdd_lst, gSub_int, gMul_int, gMul_tup, gMul_lst, gMod_int, gDiv_int, gPow_int, gLt_int, gLe_int, gGt_int, gGe_int, gEq_int, gNe_int, gNeg_int, gRev_tup, gIx_tup, gIx_lst, gLen_tup, gLen_lst, gAbs_int, gMin_int, gMax_int, gInt_int, gTuple_lst, gTuple_tup, gList_lst, gList_tup, gSum_ints, gAll_bools, gAny_bools, vIxV_eq, ixK_some, ixK2_some, slotD_val, slotD_own, vLenV_eq, lenK_some, tTruV_eq, truK_some, tTru_eq, truD_bool, truD_int, truD_tup, truD_lst, truD_none, vApp_eq, appK_some, appK2_some, ownOf_own, thenK_ok, thenS_eq, sSetIx_eq, setIxK_some, setIxK2_some, setIxK3_some, sSeq_eq, seqK_nx, seqK_rt, seqK_bk, seqK_ct, sNext_eq, sBreak_eq, sCont_eq, sRet_eq, sRetN_eq, sExpr_eq, sSet_eq, sIf_eq, asgK_some, sAsg_eq, gNm_eq, gTp_tup, gAll2_nil, gAll2_cons, bNil_eq, bCons_eq, parK_two, sPar_eq, iSeq_eq, seqOf_tup, seqOf_lst, iRg_eq, vCallP_eq, callK_ret, vCallR_eq, callRK_ret, rNil_eq, rCons_eq, argOf_val, argOf_own, argOf_root, oNone_eq, oSome_eq, intOf_int, vSlice_eq, gSl_tup, gSl_lst, wipe_nil, wipe_cons, outP_val, outP_own, outP_ownT, outP_nx, outR_rt, outR_nx, vNewT_eq, vDisp1_eq, vTake_eq, takeK_some, ownTOf_own, iItemsT_eq, dictOf_own, sPutT_eq, putK1_some, putK2_some, vGetT_eq, getK1_some, getK2_some, keyOf_ints, forK_some, forK2_nx, forK2_ct, forK2_bk, forK2_rt, lcK_ok, dcK_ok, ttYes_eq, lcK3_some, dcK3_some, dcK4_some, vDrGet_eq, drgK_true, isRoot_root, vDrLen_eq, drlK_true, vDrCell_eq, drcK_true, drc2_int, drc3_some, sDrPut_eq, drpK_int, vPop_eq, popK_some, popK2_some, iKeysT_eq, gIsN_of, gNotN_of, isNone_none, isNone_int, isNone_tup, isT_bool_none, isT_int_none, forL_dr, str_ne, List.getElem?_cons_zero, List.getElem?_cons_succ, List.set_cons_zero, List.set_cons_succ, Option.map_some, Option.bind_some, if_true, if_false, ite_true, ite_false, iteM, iteMS, Bool.false_eq_true, small_eq, List.length_cons, List.length_nil, decide_eq_true_eq, eq_self, decide_true, Int.toNat_natCast, Nat.reduceLeDiff, Nat.reduceAdd, Nat.reduceMul, Nat.zero_le, Nat.zero_add, len_dI, decide_true, Bool.not_true, e1]
  rw [e2]
  simp only [bnd_eq, bind_ok, ret_eq, ofO_some, toD_eq, frz_val, frz_own, toB_eq, boolOf_b, vVar_eq, varK_val, varK_root, varK_own, vBin_eq, vUn_eq, vAnd_eq, vOr_eq, vNot_eq, tAnd_eq, tOr_eq, tNot_eq, vIfE_eq, aNil_eq, aCons_eq, vTup_eq, vLst_eq, vCB_eq, chain_eq, vIsi_eq, vIsi2_eq, noDict_int, noDict_tuple, noDict_list, noDict_none, noDict_bool, noDict_str, isT_int_int, isT_bool_int, isT_tuple_tuple, isT_tuple_int, isT_int_tuple, gAdd_int, gAdd_tup, gAdd_lst, gSub_int, gMul_int, gMul_tup, gMul_lst, gMod_int, gDiv_int, gPow_int, gLt_int, gLe_int, gGt_int, gGe_int, gEq_int, gNe_int, gNeg_int, gRev_tup, gIx_tup, gIx_lst, gLen_tup, gLen_lst, gAbs_int, gMin_int, gMax_int, gInt_int, gTuple_lst, gTuple_tup, gList_lst, gList_tup, gSum_ints, gAll_bools, gAny_bools, vIxV_eq, ixK_some, ixK2_some, slotD_val, slotD_own, vLenV_eq, lenK_some, tTruV_eq, truK_some, tTru_eq, truD_bool, truD_int, truD_tup, truD_lst, truD_none, vApp_eq, appK_some, appK2_some, ownOf_own, thenK_ok, thenS_eq, sSetIx_eq, setIxK_some, setIxK2_some, setIxK3_some, sSeq_eq, seqK_nx, seqK_rt, seqK_bk, seqK_ct, sNext_eq, sBreak_eq, sCont_eq, sRet_eq, sRetN_eq, sExpr_eq, sSet_eq, sIf_eq, asgK_some, sAsg_eq, gNm_eq, gTp_tup, gAll2_nil, gAll2_cons, bNil_eq, bCons_eq, parK_two, sPar_eq, iSeq_eq, seqOf_tup, seqOf_lst, iRg_eq, vCallP_eq, callK_ret, vCallR_eq, callRK_ret, rNil_eq, rCons_eq, argOf_val, argOf_own, argOf_root, oNone_eq, oSome_eq, intOf_int, vSlice_eq, gSl_tup, gSl_lst, wipe_nil, wipe_cons, outP_val, outP_own, outP_ownT, outP_nx, outR_rt, outR_nx, vNewT_eq, vDisp1_eq, vTake_eq, takeK_some, ownTOf_own, iItemsT_eq, dictOf_own, sPutT_eq, putK1_some, putK2_some, vGetT_eq, getK1_some, getK2_some, keyOf_ints, forK_some, forK2_nx, forK2_ct, forK2_bk, forK2_rt, lcK_ok, dcK_ok, ttYes_eq, lcK3_some, dcK3_some, dcK4_some, vDrGet_eq, drgK_true, isRoot_root, vDrLen_eq, drlK_true, vDrCell_eq, drcK_true, drc2_int, drc3_some, sDrPut_eq, drpK_int, vPop_eq, popK_some, popK2_some, iKeysT_eq, gIsN_of, gNotN_of, isNone_none, isNone_int, isNone_tup, isT_bool_none, isT_int_none, forL_dr, str_ne, List.getElem?_cons_zero, List.getElem?_cons_succ, List.set_cons_zero, List.set_cons_succ, Option.map_some, Option.bind_some, if_true, if_false, ite_true, ite_false, iteM, iteMS, Bool.false_eq_true, small_eq, List.length_cons, List.length_nil, decide_eq_true_eq, eq_self, decide_true, Int.toNat_natCast, Nat.reduceLeDiff, Nat.reduceAdd, Nat.reduceMul, Nat.zero_le, Nat.zero_add, e3]
theorem check_word_ok {w : List Int} (h : WordOk w) (hl : w.length ≤ 1000) : m_check_word [dW w] = .ret (.val .none) := by
  have e1 : vLc [1] (iSeq (vVar 0)) (gNm 1) ttYes (vAnd (vChain gLe gLe (vUn gNeg (ret (.val (.int 3)))) (vVar 1) (ret (.val (.int 3)))) (vBin gNe (vVar 1) (ret (.val (.int 0))))) [Slot.val (dW w), .emp] () = .ok (.own ((dI w).map fun _ => .bool true)) [Slot.val (dW w), .emp] () := by
    refine vLc_map (fun _ => .bool true) ?_ (fun d hd => ?_) (by rw [len_dI]; omega) (fun i hi s hs => ?_)
    · simp only [bnd_eq, bind_ok, ret_eq, ofO_some, toD_eq, frz_val, frz_own, toB_eq, boolOf_b, vVar_eq, varK_val, varK_root, varK_own, vBin_eq, vUn_eq, vAnd_eq, vOr_eq, vNot_eq, tAnd_eq, tOr_eq, tNot_eq, vIfE_eq, aNil_eq, aCons_eq, vTup_eq, vLst_eq, vCB_eq, chain_eq, vIsi_eq, vIsi2_eq, noDict_int, noDict_tuple, noDict_list, noDict_none, noDict_bool, noDict_str, isT_int_int, isT_bool_int, isT_tuple_tuple, isT_tuple_int, isT_int_tuple, gAdd_int, gAdd_tup, gAdd_lst, gSub_int, gMul_int, gMul_tup, gMul_lst, gMod_int, gDiv_int, gPow_int, gLt_int, gLe_int, gGt_int, gGe_int, gEq_int, gNe_int, gNeg_int, gRev_tup, gIx_tup, gIx_lst, gLen_tup, gLen_lst, gAbs_int, gMin_int, gMax_int, gInt_int, gTuple_lst, gTuple_tup, gList_lst, gList_tup, gSum_ints, gAll_bools, gAny_bools, vIxV_eq, ixK_some, ixK2_some, slotD_val, slotD_own, vLenV_eq, lenK_some, tTruV_eq, truK_some, tTru_eq, truD_bool, truD_int, truD_tup, truD_lst, truD_none, vApp_eq, appK_some, appK2_some, ownOf_own, thenK_ok, thenS_eq, sSetIx_eq, setIxK_some, setIxK2_some, setIxK3_some, sSeq_eq, seqK_nx, seqK_rt, seqK_bk, seqK_ct, sNext_eq, sBreak_eq, sCont_eq, sRet_eq, sRetN_eq, sExpr_eq, sSet_eq, sIf_eq, asgK_some, sAsg_eq, gNm_eq, gTp_tup, gAll2_nil, gAll2_cons, bNil_eq, bCons_eq, parK_two, sPar_eq, iSeq_eq, seqOf_tup, seqOf_lst, iRg_eq, vCallP_eq, callK_ret, vCallR_eq, callRK_ret, rNil_eq, rCons_eq, argOf_val, argOf_own, argOf_root, oNone_eq, oSome_eq, intOf_int, vSlice_eq, gSl_tup, gSl_lst, wipe_nil, wipe_cons, outP_val, outP_own, outP_ownT, outP_nx, outR_rt, outR_nx, vNewT_eq, vDisp1_eq, vTake_eq, takeK_some, ownTOf_own, iItemsT_eq, dictOf_own, sPutT_eq, putK1_some, putK2_some, vGetT_eq, getK1_some, getK2_some, keyOf_ints, forK_some, forK2_nx, forK2_ct, forK2_bk, forK2_rt, lcK_ok, dcK_ok, ttYes_eq, lcK3_some, dcK3_some, dcK4_some, vDrGet_eq, drgK_true, isRoot_root, vDrLen_eq, drlK_true, vDrCell_eq, drcK_true, drc2_int, drc3_some, sDrPut_eq, drpK_int, vPop_eq, popK_some, popK2_some, iKeysT_eq, gIsN_of, gNotN_of, isNone_none, isNone_int, isNone_tup, isT_bool_none, isT_int_none, forL_dr, str_ne, List.getElem?_cons_zero, List.getElem?_cons_succ, List.set_cons_zero, List.set_cons_succ, Option.map_some, Option.bind_some, if_true, if_false, ite_true, ite_false, iteM, iteMS, Bool.false_eq_true, small_eq, List.length_cons, List.length_nil, decide_eq_true_eq, eq_self, decide_true, Int.toNat_natCast, Nat.reduceLeDiff, Nat.reduceAdd, Nat.reduceMul, Nat.zero_le, Nat.zero_add]
    · obtain ⟨n, hn, rfl⟩ := List.mem_map.mp hd
      obtain ⟨h1, h2, h3⟩ := h n hn
      refine ⟨_, [Slot.val (dW w), .val (.int n)], rfl, ?_, rfl⟩
      simp only [bnd_eq, bind_ok, ret_eq, ofO_some, toD_eq, frz_val, frz_own, toB_eq, boolOf_b, vVar_eq, varK_val, varK_root, varK_own, vBin_eq, vUn_eq, vAnd_eq, vOr_eq, vNot_eq, tAnd_eq, tOr_eq, tNot_eq, vIfE_eq, aNil_eq, aCons_eq, vTup_eq, vLst_eq, vCB_eq, chain_eq, vIsi_eq, vIsi2_eq, noDict_int, noDict_tuple, noDict_list, noDict_none, noDict_bool, noDict_str, isT_int_int, isT_bool_int, isT_tuple_tuple, isT_tuple_int, isT_int_tuple, gAdd_int, gAdd_tup, gAdd_lst, gSub_int, gMul_int, gMul_tup, gMul_lst, gMod_int, gDiv_int, gPow_int, gLt_int, gLe_int, gGt_int, gGe_int, gEq_int, gNe_int, gNeg_int, gRev_tup, gIx_tup, gIx_lst, gLen_tup, gLen_lst, gAbs_int, gMin_int, gMax_int, gInt_int, gTuple_lst, gTuple_tup, gList_lst, gList_tup, gSum_ints, gAll_bools, gAny_bools, vIxV_eq, ixK_some, ixK2_some, slotD_val, slotD_own, vLenV_eq, lenK_some, tTruV_eq, truK_some, tTru_eq, truD_bool, truD_int, truD_tup, truD_lst, truD_none, vApp_eq, appK_some, appK2_some, ownOf_own, thenK_ok, thenS_eq, sSetIx_eq, setIxK_some, setIxK2_some, setIxK3_some, sSeq_eq, seqK_nx, seqK_rt, seqK_bk, seqK_ct, sNext_eq, sBreak_eq, sCont_eq, sRet_eq, sRetN_eq, sExpr_eq, sSet_eq, sIf_eq, asgK_some, sAsg_eq, gNm_eq, gTp_tup, gAll2_nil, gAll2_cons, bNil_eq, bCons_eq, parK_two, sPar_eq, iSeq_eq, seqOf_tup, seqOf_lst, iRg_eq, vCallP_eq, callK_ret, vCallR_eq, callRK_ret, rNil_eq, rCons_eq, argOf_val, argOf_own, argOf_root, oNone_eq, oSome_eq, intOf_int, vSlice_eq, gSl_tup, gSl_lst, wipe_nil, wipe_cons, outP_val, outP_own, outP_ownT, outP_nx, outR_rt, outR_nx, vNewT_eq, vDisp1_eq, vTake_eq, takeK_some, ownTOf_own, iItemsT_eq, dictOf_own, sPutT_eq, putK1_some, putK2_some, vGetT_eq, getK1_some, getK2_some, keyOf_ints, forK_some, forK2_nx, forK2_ct, forK2_bk, forK2_rt, lcK_ok, dcK_ok, ttYes_eq, lcK3_some, dcK3_some, dcK4_some, vDrGet_eq, drgK_true, isRoot_root, vDrLen_eq, drlK_true, vDrCell_eq, drcK_true, drc2_int, drc3_some, sDrPut_eq, drpK_int, vPop_eq, popK_some, popK2_some, iKeysT_eq, gIsN_of, gNotN_of, isNone_none, isNone_int, isNone_tup, isT_bool_none, isT_int_none, forL_dr, str_ne, List.getElem?_cons_zero, List.getElem?_cons_succ, List.set_cons_zero, List.set_cons_succ, Option.map_some, Option.bind_some, if_true, if_false, ite_true, ite_false, iteM, iteMS, Bool.false_eq_true, small_eq, List.length_cons, List.length_nil, decide_eq_true_eq, eq_self, decide_true, Int.toNat_natCast, Nat.reduceLeDiff, Nat.reduceAdd, Nat.reduceMul, Nat.zero_le, Nat.zero_add, wipe_cons, wipe_nil, h1, h2, h3, decide_true, decide_false, Bool.not_false]
    · obtain rfl : i = 1 := by simpa using hi
      obtain rfl : Slot.emp = s := by simpa using hs
      rfl
  have e2 : ((dI w).map fun _ => PyData.bool true) = (w.map fun _ => true).map PyData.bool := by simp [dI]
  have e3 : (w.map fun _ => true).all id = true := by simp
  have e4 := are_ints w hl
  unfold m_check_word
  show outP (c_check_word [Slot.val (dW w), .emp] ()) = _
  unfold c_check_word
  simp only [bnd_eq, bind_ok, ret_eq, ofO_some, toD_eq, frz_val, frz_own, toB_eq, boolOf_b, vVar_eq, varK_val, varK_root, varK_own, vBin_eq, vUn_eq, vAnd_eq, vOr_eq, vNot_eq, tAnd_eq, tOr_eq, tNot_eq, vIfE_eq, aNil_eq, aCons_eq, vTup_eq, vLst_eq, vCB_eq, chain_eq, vIsi_eq, vIsi2_eq, noDict_int, noDict_tuple, noDict_list, noDict_none, noDict_bool, noDict_str, isT_int_int, isT_bool_int, isT_tuple_tuple, isT_tuple_int, isT_int_tuple, gAdd_int, gAdd_tup, gAdd_lst, gSub_int, gMul_int, gMul_tup, gMul_lst, gMod_int, gDiv_int, gPow_int, gLt_int, gLe_int, gGt_int, gGe_int, gEq_int, gNe_int, gNeg_int, gRev_tup, gIx_tup, gIx_lst, gLen_tup, gLen_lst, gAbs_int, gMin_int, gMax_int, gInt_int, gTuple_lst, gTuple_tup, gList_lst, gList_tup, gSum_ints, gAll_bools, gAny_bools, vIxV_eq, ixK_some, ixK2_some, slotD_val, slotD_own, vLenV_eq, lenK_some, tTruV_eq, truK_some, tTru_eq, truD_bool, truD_int, truD_tup, truD_lst, truD_none, vApp_eq, appK_some, appK2_some, ownOf_own, thenK_ok, thenS_eq, sSetIx_eq, setIxK_some, setIxK2_some, setIxK3_some, sSeq_eq, seqK_nx, seqK_rt, seqK_bk, seqK_ct, sNext_eq, sBreak_eq, sCont_eq, sRet_eq, sRetN_eq, sExpr_eq, sSet_eq, sIf_eq, asgK_some, sAsg_eq, gNm_eq, gTp_tup, gAll2_nil, gAll2_cons, bNil_eq, bCons_eq, parK_two, sPar_eq, iSeq_eq, seqOf_tup, seqOf_lst, iRg_eq, vCallP_eq, callK_ret, vCallR_eq, callRK_ret, rNil_eq, rCons_eq, argOf_val, argOf_own, argOf_root, oNone_eq, oSome_eq, intOf_int, vSlice_eq, gSl_tup, gSl_lst, wipe_nil, wipe_cons, outP_val, outP_own, outP_ownT, outP_nx, outR_rt, outR_nx, vNewT_eq, vDisp1_eq, vTake_eq, takeK_some, ownTOf_own, iItemsT_eq, dictOf_own, sPutT_eq, putK1_some, putK2_some, vGetT_eq, getK1_some, getK2_some, keyOf_ints, forK_some, forK2_nx, forK2_ct, forK2_bk, forK2_rt, lcK_ok, dcK_ok, ttYes_eq, lcK3_some, dcK3_some, dcK4_some, vDrGet_eq, drgK_true, isRoot_root, vDrLen_eq, drlK_true, vDrCell_eq, drcK_true, drc2_int, drc3_some, sDrPut_eq, drpK_int, vPop_eq, popK_some, popK2_some, iKeysT_eq, gIsN_of, gNotN_of, isNone_none, isNone_int, isNone_tup, isT_bool_none, isT_int_none, forL_dr, str_ne, List.getElem?_cons_zero, List.getElem?_cons_succ, List.set_cons_zero, List.set_cons_succ, Option.map_some, Option.bind_some, if_true, if_false, ite_true, ite_false, iteM, iteMS, Bool.false_eq_true, small_eq, List.length_cons, List.length_nil, decide_eq_true_eq, eq_self, decide_true, Int.toNat_natCast, Nat.reduceLeDiff, Nat.reduceAdd, Nat.reduceMul, Nat.zero_le, Nat.zero_add, len_dI, e4, Bool.not_true, e1]
  rw [e2]
  simp only [bnd_eq, bind_ok, ret_eq, ofO_some, toD_eq, frz_val, frz_own, toB_eq, boolOf_b, vVar_eq, varK_val, varK_root, varK_own, vBin_eq, vUn_eq, vAnd_eq, vOr_eq, vNot_eq, tAnd_eq, tOr_eq, tNot_eq, vIfE_eq, aNil_eq, aCons_eq, vTup_eq, vLst_eq, vCB_eq, chain_eq, vIsi_eq, vIsi2_eq, noDict_int, noDict_tuple, noDict_list, noDict_none, noDict_bool, noDict_str, isT_int_int, isT_bool_int, isT_tuple_tuple, isT_tuple_int, isT_int_tuple, gAdd_int, gAdd_tup, gAdd_lst, gSub_int, gMul_int, gMul_tup, gMul_lst, gMod_int, gDiv_int, gPow_int, gLt_int, gLe_int, gGt_int, gGe_int, gEq_int, gNe_int, gNeg_int, gRev_tup, gIx_tup, gIx_lst, gLen_tup, gLen_lst, gAbs_int, gMin_int, gMax_int, gInt_int, gTuple_lst, gTuple_tup, gList_lst, gList_tup, gSum_ints, gAll_bools, gAny_bools, vIxV_eq, ixK_some, ixK2_some, slotD_val, slotD_own, vLenV_eq, lenK_some, tTruV_eq, truK_some, tTru_eq, truD_bool, truD_int, truD_tup, truD_lst, truD_none, vApp_eq, appK_some, appK2_some, ownOf_own, thenK_ok, thenS_eq, sSetIx_eq, setIxK_some, setIxK2_some, setIxK3_some, sSeq_eq, seqK_nx, seqK_rt, seqK_bk, seqK_ct, sNext_eq, sBreak_eq, sCont_eq, sRet_eq, sRetN_eq, sExpr_eq, sSet_eq, sIf_eq, asgK_some, sAsg_eq, gNm_eq, gTp_tup, gAll2_nil, gAll2_cons, bNil_eq, bCons_eq, parK_two, sPar_eq, iSeq_eq, seqOf_tup, seqOf_lst, iRg_eq, vCallP_eq, callK_ret, vCallR_eq, callRK_ret, rNil_eq, rCons_eq, argOf_val, argOf_own, argOf_root, oNone_eq, oSome_eq, intOf_int, vSlice_eq, gSl_tup, gSl_lst, wipe_nil, wipe_cons, outP_val, outP_own, outP_ownT, outP_nx, outR_rt, outR_nx, vNewT_eq, vDisp1_eq, vTake_eq, takeK_some, ownTOf_own, iItemsT_eq, dictOf_own, sPutT_eq, putK1_some, putK2_some, vGetT_eq, getK1_some, getK2_some, keyOf_ints, forK_some, forK2_nx, forK2_ct, forK2_bk, forK2_rt, lcK_ok, dcK_ok, ttYes_eq, lcK3_some, dcK3_some, dcK4_some, vDrGet_eq, drgK_true, isRoot_root, vDrLen_eq, drlK_true, vDrCell_eq, drcK_true, drc2_int, drc3_some, sDrPut_eq, drpK_int, vPop_eq, popK_some, popK2_some, iKeysT_eq, gIsN_of, gNotN_of, isNone_none, isNone_int, isNone_tup, isT_bool_none, isT_int_none, forL_dr, str_ne, List.getElem?_cons_zero, List.getElem?_cons_succ, List.set_cons_zero, List.set_cons_succ, Option.map_some, Option.bind_some, if_true, if_false, ite_true, ite_false, iteM, iteMS, Bool.false_eq_true, small_eq, List.length_cons, List.length_nil, decide_eq_true_eq, eq_self, decide_true, Int.toNat_natCast, Nat.reduceLeDiff, Nat.reduceAdd, Nat.reduceMul, Nat.zero_le, Nat.zero_add, e3, Bool.not_true]
theorem is_nat (n k : Int) (h : n ≥ k) : m_is_natural [.int n, .int k] = .ret (.val (.bool true)) := by
  unfold m_is_natural
  show outP (c_is_natural [Slot.val (.int n), .val (.int k)] ()) = _
  unfold c_is_natural
  simp only [bnd_eq, bind_ok, ret_eq, ofO_some, toD_eq, frz_val, frz_own, toB_eq, boolOf_b, vVar_eq, varK_val, varK_root, varK_own, vBin_eq, vUn_eq, vAnd_eq, vOr_eq, vNot_eq, tAnd_eq, tOr_eq, tNot_eq, vIfE_eq, aNil_eq, aCons_eq, vTup_eq, vLst_eq, vCB_eq, chain_eq, vIsi_eq, vIsi2_eq, noDict_int, noDict_tuple, noDict_list, noDict_none, noDict_bool, noDict_str, isT_int_int, isT_bool_int, isT_tuple_tuple, isT_tuple_int, isT_int_tuple, gAdd_int, gAdd_tup, gAdd_lst, gSub_int, gMul_int, gMul_tup, gMul_lst, gMod_int, gDiv_int, gPow_int, gLt_int, gLe_int, gGt_int, gGe_int, gEq_int, gNe_int, gNeg_int, gRev_tup, gIx_tup, gIx_lst, gLen_tup, gLen_lst, gAbs_int, gMin_int, gMax_int, gInt_int, gTuple_lst, gTuple_tup, gList_lst, gList_tup, gSum_ints, gAll_bools, gAny_bools, vIxV_eq, ixK_some, ixK2_some, slotD_val, slotD_own, vLenV_eq, lenK_some, tTruV_eq, truK_some, tTru_eq, truD_bool, truD_int, truD_tup, truD_lst, truD_none, vApp_eq, appK_some, appK2_some, ownOf_own, thenK_ok, thenS_eq, sSetIx_eq, setIxK_some, setIxK2_some, setIxK3_some, sSeq_eq, seqK_nx, seqK_rt, seqK_bk, seqK_ct, sNext_eq, sBreak_eq, sCont_eq, sRet_eq, sRetN_eq, sExpr_eq, sSet_eq, sIf_eq, asgK_some, sAsg_eq, gNm_eq, gTp_tup, gAll2_nil, gAll2_cons, bNil_eq, bCons_eq, parK_two, sPar_eq, iSeq_eq, seqOf_tup, seqOf_lst, iRg_eq, vCallP_eq, callK_ret, vCallR_eq, callRK_ret, rNil_eq, rCons_eq, argOf_val, argOf_own, argOf_root, oNone_eq, oSome_eq, intOf_int, vSlice_eq, gSl_tup, gSl_lst, wipe_nil, wipe_cons, outP_val, outP_own, outP_ownT, outP_nx, outR_rt, outR_nx, vNewT_eq, vDisp1_eq, vTake_eq, takeK_some, ownTOf_own, iItemsT_eq, dictOf_own, sPutT_eq, putK1_some, putK2_some, vGetT_eq, getK1_some, getK2_some, keyOf_ints, forK_some, forK2_nx, forK2_ct, forK2_bk, forK2_rt, lcK_ok, dcK_ok, ttYes_eq, lcK3_some, dcK3_some, dcK4_some, vDrGet_eq, drgK_true, isRoot_root, vDrLen_eq, drlK_true, vDrCell_eq, drcK_true, drc2_int, drc3_some, sDrPut_eq, drpK_int, vPop_eq, popK_some, popK2_some, iKeysT_eq, gIsN_of, gNotN_of, isNone_none, isNone_int, isNone_tup, isT_bool_none, isT_int_none, forL_dr, str_ne, List.getElem?_cons_zero, List.getElem?_cons_succ, List.set_cons_zero, List.set_cons_succ, Option.map_some, Option.bind_some, if_true, if_false, ite_true, ite_false, iteM, iteMS, Bool.false_eq_true, small_eq, List.length_cons, List.length_nil, decide_eq_true_eq, eq_self, decide_true, Int.toNat_natCast, Nat.reduceLeDiff, Nat.reduceAdd, Nat.reduceMul, Nat.zero_le, Nat.zero_add, is_int, h, decide_true]
theorem check_between_ok (n a b : Int) (h1 : n ≥ a) (h2 : ¬ n > b) : m_check_between [.int n, .int a, .int b] = .ret (.val .none) := by
  have e := is_nat n a h1
  unfold m_check_between
  show outP (c_check_between [Slot.val (.int n), .val (.int a), .val (.int b)] ()) = _
  unfold c_check_between
  simp only [bnd_eq, bind_ok, ret_eq, ofO_some, toD_eq, frz_val, frz_own, toB_eq, boolOf_b, vVar_eq, varK_val, varK_root, varK_own, vBin_eq, vUn_eq, vAnd_eq, vOr_eq, vNot_eq, tAnd_eq, tOr_eq, tNot_eq, vIfE_eq, aNil_eq, aCons_eq, vTup_eq, vLst_eq, vCB_eq, chain_eq, vIsi_eq, vIsi2_eq, noDict_int, noDict_tuple, noDict_list, noDict_none, noDict_bool, noDict_str, isT_int_int, isT_bool_int, isT_tuple_tuple, isT_tuple_int, isT_int_tuple, gAdd_int, gAdd_tup, gAdd_lst, gSub_int, gMul_int, gMul_tup, gMul_lst, gMod_int, gDiv_int, gPow_int, gLt_int, gLe_int, gGt_int, gGe_int, gEq_int, gNe_int, gNeg_int, gRev_tup, gIx_tup, gIx_lst, gLen_tup, gLen_lst, gAbs_int, gMin_int, gMax_int, gInt_int, gTuple_lst, gTuple_tup, gList_lst, gList_tup, gSum_ints, gAll_bools, gAny_bools, vIxV_eq, ixK_some, ixK2_some, slotD_val, slotD_own, vLenV_eq, lenK_some, tTruV_eq, truK_some, tTru_eq, truD_bool, truD_int, truD_tup, truD_lst, truD_none, vApp_eq, appK_some, appK2_some, ownOf_own, thenK_ok, thenS_eq, sSetIx_eq, setIxK_some, setIxK2_some, setIxK3_some, sSeq_eq, seqK_nx, seqK_rt, seqK_bk, seqK_ct, sNext_eq, sBreak_eq, sCont_eq, sRet_eq, sRetN_eq, sExpr_eq, sSet_eq, sIf_eq, asgK_some, sAsg_eq, gNm_eq, gTp_tup, gAll2_nil, gAll2_cons, bNil_eq, bCons_eq, parK_two, sPar_eq, iSeq_eq, seqOf_tup, seqOf_lst, iRg_eq, vCallP_eq, callK_ret, vCallR_eq, callRK_ret, rNil_eq, rCons_eq, argOf_val, argOf_own, argOf_root, oNone_eq, oSome_eq, intOf_int, vSlice_eq, gSl_tup, gSl_lst, wipe_nil, wipe_cons, outP_val, outP_own, outP_ownT, outP_nx, outR_rt, outR_nx, vNewT_eq, vDisp1_eq, vTake_eq, takeK_some, ownTOf_own, iItemsT_eq, dictOf_own, sPutT_eq, putK1_some, putK2_some, vGetT_eq, getK1_some, getK2_some, keyOf_ints, forK_some, forK2_nx, forK2_ct, forK2_bk, forK2_rt, lcK_ok, dcK_ok, ttYes_eq, lcK3_some, dcK3_some, dcK4_some, vDrGet_eq, drgK_true, isRoot_root, vDrLen_eq, drlK_true, vDrCell_eq, drcK_true, drc2_int, drc3_some, sDrPut_eq, drpK_int, vPop_eq, popK_some, popK2_some, iKeysT_eq, gIsN_of, gNotN_of, isNone_none, isNone_int, isNone_tup, isT_bool_none, isT_int_none, forL_dr, str_ne, List.getElem?_cons_zero, List.getElem?_cons_succ, List.set_cons_zero, List.set_cons_succ, Option.map_some, Option.bind_some, if_true, if_false, ite_true, ite_false, iteM, iteMS, Bool.false_eq_true, small_eq, List.length_cons, List.length_nil, decide_eq_true_eq, eq_self, decide_true, Int.toNat_natCast, Nat.reduceLeDiff, Nat.reduceAdd, Nat.reduceMul, Nat.zero_le, Nat.zero_add, List.append_nil, e, Bool.not_true, h2, decide_false]
/-! ### expansion_in -/
theorem contrib_mem {most : Nat} {l : Int} (hl : ab l = 1 ∨ ab l = 2 ∨ ab l = 3) (h0 : l ≠ 0) {x : List Int × Int} (hx : x.1.length ≤ most ∧ Let3 x.1) {q : List Int} (hq : q ∈ ks (contrib most l x)) : q.length ≤ most ∧ Let3 q := by
  refine allC_mem (T := [x]) hl h0 (fun p hp => ?_) (q := q) ?_
  · obtain rfl : p = x.1 := by simpa [ks] using hp
    exact hx
  · unfold allC
    rw [List.flatMap_cons, List.flatMap_nil, List.append_nil]
    exact hq
def bMany : MS Unit := (sSeq (sSet 9 (vBin gAdd (vVar 5) (vBin gMul (vTup (aCons (vCB gAbs (aCons (vVar 3) aNil)) aNil)) (vVar 8))))
  (sSeq (sSet 10 (vIfE (tAndM (toB (vBin gLt (vVar 3) (ret (.val (.int 0))))) (toB (vBin gEq (vBin gMod (vVar 8) (ret (.val (.int 2)))) (ret (.val (.int 1)))))) (vUn gNeg (ret (.val (.int 1)))) (ret (.val (.int 1)))))
  (sPutT 4 (vVar 9) (vBin gAdd (vGetT 4 (vVar 9) (ret (.val (.int 0)))) (vBin gMul (vVar 10) (vVar 6))))))
def iMany : M Unit (List D) := iRg rg1 (aCons (vBin gAdd (vBin gSub (vCB gMin (aCons (vVar 7) (aCons (vVar 1) aNil))) (vLenV 5)) (ret (.val (.int 1)))) aNil)
def bItem : MS Unit := (sSeq (sSet 7 (vIfE (toB (vBin gGt (vVar 3) (ret (.val (.int 0))))) (vBin gAdd (vLenV 5) (ret (.val (.int 1)))) (vVar 1)))
  (sFor [8, 9, 10] iMany (gNm 8) bMany))
def vNums : M Unit Slot := vDc [5, 6] (iItemsT (vTake 4)) (gTp [(gNm 5), (gNm 6)]) (toB (vBin gNe (vVar 6) (ret (.val (.int 0))))) (vVar 5) (vVar 6)
def bLet : MS Unit := (sSeq (sSet 4 vNewT) (sSeq (sFor [5, 6, 7, 8, 9, 10] (iItemsT (vTake 2)) (gTp [(gNm 5), (gNm 6)]) bItem) (sSet 2 vNums)))
theorem exp_eq : c_expansion_in = (sSeq (sSet 2 (vDisp1 (vTup aNil) (ret (.val (.int 1))))) (sSeq (sFor [3, 4, 5, 6, 7, 8, 9, 10] (iSeq (vVar 0)) (gNm 3) bLet) (sRet (vTake 2)))) := rfl
theorem rep_dI (k : Nat) (a : Int) : (List.replicate k [PyData.int a]).flatten = dI (List.replicate k a) := by
  induction k with
  | zero => rfl
  | succ k ih => rw [List.replicate_succ, List.flatten_cons, ih]; rfl
theorem dI_app (p q : List Int) : dI p ++ dI q = dI (p ++ q) := (List.map_append ..).symm
theorem len_encT (T : Tb) : (encT T).length = T.length := List.length_map _
section
variable (W : D) (most l n : Int) (p : List Int)
theorem many_turn {T : Tb} {lg : Int} {k : Nat} (hk : k ≤ 1000) (hp : p.length ≤ 1000) (hT : T.length < 1000000) :
    bMany [.val W, .val (.int most), .emp, .val (.int l), .ownT (encT T), .val (dW p), .val (.int n), .val (.int lg), .val (.int k), .emp, .emp] () =
      .nx [.val W, .val (.int most), .emp, .val (.int l), .ownT (encT (addP T (p ++ List.replicate k (ab l), sg l k * n))), .val (dW p), .val (.int n), .val (.int lg), .val (.int k), .val (dW (p ++ List.replicate k (ab l))), .val (.int (sg l k))] () := by
  have g1 : (k : Int).natAbs ≤ 1000000 := by omega
  have g1'' : 1 * k ≤ 1000000 := by omega
  have g2 : (dI p).length + (dI (List.replicate k (ab l))).length ≤ 1000000 := by
    rw [len_dI, len_dI, List.length_replicate]; omega
  have a1 : (if l < 0 then -l else l) = ab l := rfl
  have s1 : ∃ s, vIfE (tAndM (toB (vBin gLt (vVar 3) (ret (.val (.int 0))))) (toB (vBin gEq (vBin gMod (vVar 8) (ret (.val (.int 2)))) (ret (.val (.int 1)))))) (vUn gNeg (ret (.val (.int 1)))) (ret (.val (.int 1)))
      [.val W, .val (.int most), .emp, .val (.int l), .ownT (encT T), .val (dW p), .val (.int n), .val (.int lg), .val (.int k), .val (dW (p ++ List.replicate k (ab l))), .emp] () = .ok (.val (.int s)) [.val W, .val (.int most), .emp, .val (.int l), .ownT (encT T), .val (dW p), .val (.int n), .val (.int lg), .val (.int k), .val (dW (p ++ List.replicate k (ab l))), .emp] () ∧ s = sg l k ∧ (s = 1 ∨ s = -1) := by
    have z2 : (2 : Int) ≠ 0 := by decide
    by_cases h1 : l < 0
    · by_cases h2 : (k : Int).fmod 2 = 1
      · refine ⟨-1, ?_, by unfold sg; rw [if_pos ⟨h1, h2⟩], .inr rfl⟩
        simp only [bnd_eq, bind_ok, ret_eq, ofO_some, toD_eq, frz_val, frz_own, toB_eq, boolOf_b, vVar_eq, varK_val, varK_root, varK_own, vBin_eq, vUn_eq, vAnd_eq, vOr_eq, vNot_eq, tAnd_eq, tOr_eq, tNot_eq, vIfE_eq, aNil_eq, aCons_eq, vTup_eq, vLst_eq, vCB_eq, chain_eq, vIsi_eq, vIsi2_eq, noDict_int, noDict_tuple, noDict_list, noDict_none, noDict_bool, noDict_str, isT_int_int, isT_bool_int, isT_tuple_tuple, isT_tuple_int, isT_int_tuple, gAdd_int, gAdd_tup, gAdd_lst, gSub_int, gMul_int, gMul_tup, gMul_lst, gMod_int, gDiv_int, gPow_int, gLt_int, gLe_int, gGt_int, gGe_int, gEq_int, gNe_int, gNeg_int, gRev_tup, gIx_tup, gIx_lst, gLen_tup, gLen_lst, gAbs_int, gMin_int, gMax_int, gInt_int, gTuple_lst, gTuple_tup, gList_lst, gList_tup, gSum_ints, gAll_bools, gAny_bools, vIxV_eq, ixK_some, ixK2_some, slotD_val, slotD_own, vLenV_eq, lenK_some, tTruV_eq, truK_some, tTru_eq, truD_bool, truD_int, truD_tup, truD_lst, truD_none, vApp_eq, appK_some, appK2_some, ownOf_own, thenK_ok, thenS_eq, sSetIx_eq, setIxK_some, setIxK2_some, setIxK3_some, sSeq_eq, seqK_nx, seqK_rt, seqK_bk, seqK_ct, sNext_eq, sBreak_eq, sCont_eq, sRet_eq, sRetN_eq, sExpr_eq, sSet_eq, sIf_eq, asgK_some, sAsg_eq, gNm_eq, gTp_tup, gAll2_nil, gAll2_cons, bNil_eq, bCons_eq, parK_two, sPar_eq, iSeq_eq, seqOf_tup, seqOf_lst, iRg_eq, vCallP_eq, callK_ret, vCallR_eq, callRK_ret, rNil_eq, rCons_eq, argOf_val, argOf_own, argOf_root, oNone_eq, oSome_eq, intOf_int, vSlice_eq, gSl_tup, gSl_lst, wipe_nil, wipe_cons, outP_val, outP_own, outP_ownT, outP_nx, outR_rt, outR_nx, vNewT_eq, vDisp1_eq, vTake_eq, takeK_some, ownTOf_own, iItemsT_eq, dictOf_own, sPutT_eq, putK1_some, putK2_some, vGetT_eq, getK1_some, getK2_some, keyOf_ints, forK_some, forK2_nx, forK2_ct, forK2_bk, forK2_rt, lcK_ok, dcK_ok, ttYes_eq, lcK3_some, dcK3_some, dcK4_some, vDrGet_eq, drgK_true, isRoot_root, vDrLen_eq, drlK_true, vDrCell_eq, drcK_true, drc2_int, drc3_some, sDrPut_eq, drpK_int, vPop_eq, popK_some, popK2_some, iKeysT_eq, gIsN_of, gNotN_of, isNone_none, isNone_int, isNone_tup, isT_bool_none, isT_int_none, forL_dr, str_ne, List.getElem?_cons_zero, List.getElem?_cons_succ, List.set_cons_zero, List.set_cons_succ, Option.map_some, Option.bind_some, if_true, if_false, ite_true, ite_false, iteM, iteMS, Bool.false_eq_true, small_eq, List.length_cons, List.length_nil, decide_eq_true_eq, eq_self, decide_true, Int.toNat_natCast, Nat.reduceLeDiff, Nat.reduceAdd, Nat.reduceMul, Nat.zero_le, Nat.zero_add, h1, h2, decide_true, if_pos z2]
      · refine ⟨1, ?_, by unfold sg; rw [if_neg (fun z => h2 z.2)], .inl rfl⟩
        simp only [bnd_eq, bind_ok, ret_eq, ofO_some, toD_eq, frz_val, frz_own, toB_eq, boolOf_b, vVar_eq, varK_val, varK_root, varK_own, vBin_eq, vUn_eq, vAnd_eq, vOr_eq, vNot_eq, tAnd_eq, tOr_eq, tNot_eq, vIfE_eq, aNil_eq, aCons_eq, vTup_eq, vLst_eq, vCB_eq, chain_eq, vIsi_eq, vIsi2_eq, noDict_int, noDict_tuple, noDict_list, noDict_none, noDict_bool, noDict_str, isT_int_int, isT_bool_int, isT_tuple_tuple, isT_tuple_int, isT_int_tuple, gAdd_int, gAdd_tup, gAdd_lst, gSub_int, gMul_int, gMul_tup, gMul_lst, gMod_int, gDiv_int, gPow_int, gLt_int, gLe_int, gGt_int, gGe_int, gEq_int, gNe_int, gNeg_int, gRev_tup, gIx_tup, gIx_lst, gLen_tup, gLen_lst, gAbs_int, gMin_int, gMax_int, gInt_int, gTuple_lst, gTuple_tup, gList_lst, gList_tup, gSum_ints, gAll_bools, gAny_bools, vIxV_eq, ixK_some, ixK2_some, slotD_val, slotD_own, vLenV_eq, lenK_some, tTruV_eq, truK_some, tTru_eq, truD_bool, truD_int, truD_tup, truD_lst, truD_none, vApp_eq, appK_some, appK2_some, ownOf_own, thenK_ok, thenS_eq, sSetIx_eq, setIxK_some, setIxK2_some, setIxK3_some, sSeq_eq, seqK_nx, seqK_rt, seqK_bk, seqK_ct, sNext_eq, sBreak_eq, sCont_eq, sRet_eq, sRetN_eq, sExpr_eq, sSet_eq, sIf_eq, asgK_some, sAsg_eq, gNm_eq, gTp_tup, gAll2_nil, gAll2_cons, bNil_eq, bCons_eq, parK_two, sPar_eq, iSeq_eq, seqOf_tup, seqOf_lst, iRg_eq, vCallP_eq, callK_ret, vCallR_eq, callRK_ret, rNil_eq, rCons_eq, argOf_val, argOf_own, argOf_root, oNone_eq, oSome_eq, intOf_int, vSlice_eq, gSl_tup, gSl_lst, wipe_nil, wipe_cons, outP_val, outP_own, outP_ownT, outP_nx, outR_rt, outR_nx, vNewT_eq, vDisp1_eq, vTake_eq, takeK_some, ownTOf_own, iItemsT_eq, dictOf_own, sPutT_eq, putK1_some, putK2_some, vGetT_eq, getK1_some, getK2_some, keyOf_ints, forK_some, forK2_nx, forK2_ct, forK2_bk, forK2_rt, lcK_ok, dcK_ok, ttYes_eq, lcK3_some, dcK3_some, dcK4_some, vDrGet_eq, drgK_true, isRoot_root, vDrLen_eq, drlK_true, vDrCell_eq, drcK_true, drc2_int, drc3_some, sDrPut_eq, drpK_int, vPop_eq, popK_some, popK2_some, iKeysT_eq, gIsN_of, gNotN_of, isNone_none, isNone_int, isNone_tup, isT_bool_none, isT_int_none, forL_dr, str_ne, List.getElem?_cons_zero, List.getElem?_cons_succ, List.set_cons_zero, List.set_cons_succ, Option.map_some, Option.bind_some, if_true, if_false, ite_true, ite_false, iteM, iteMS, Bool.false_eq_true, small_eq, List.length_cons, List.length_nil, decide_eq_true_eq, eq_self, decide_true, Int.toNat_natCast, Nat.reduceLeDiff, Nat.reduceAdd, Nat.reduceMul, Nat.zero_le, Nat.zero_add, h1, h2, decide_true, decide_false, if_pos z2]
    · refine ⟨1, ?_, by unfold sg; rw [if_neg (fun z => h1 z.1)], .inl rfl⟩
      simp only [bnd_eq, bind_ok, ret_eq, ofO_some, toD_eq, frz_val, frz_own, toB_eq, boolOf_b, vVar_eq, varK_val, varK_root, varK_own, vBin_eq, vUn_eq, vAnd_eq, vOr_eq, vNot_eq, tAnd_eq, tOr_eq, tNot_eq, vIfE_eq, aNil_eq, aCons_eq, vTup_eq, vLst_eq, vCB_eq, chain_eq, vIsi_eq, vIsi2_eq, noDict_int, noDict_tuple, noDict_list, noDict_none, noDict_bool, noDict_str, isT_int_int, isT_bool_int, isT_tuple_tuple, isT_tuple_int, isT_int_tuple, gAdd_int, gAdd_tup, gAdd_lst, gSub_int, gMul_int, gMul_tup, gMul_lst, gMod_int, gDiv_int, gPow_int, gLt_int, gLe_int, gGt_int, gGe_int, gEq_int, gNe_int, gNeg_int, gRev_tup, gIx_tup, gIx_lst, gLen_tup, gLen_lst, gAbs_int, gMin_int, gMax_int, gInt_int, gTuple_lst, gTuple_tup, gList_lst, gList_tup, gSum_ints, gAll_bools, gAny_bools, vIxV_eq, ixK_some, ixK2_some, slotD_val, slotD_own, vLenV_eq, lenK_some, tTruV_eq, truK_some, tTru_eq, truD_bool, truD_int, truD_tup, truD_lst, truD_none, vApp_eq, appK_some, appK2_some, ownOf_own, thenK_ok, thenS_eq, sSetIx_eq, setIxK_some, setIxK2_some, setIxK3_some, sSeq_eq, seqK_nx, seqK_rt, seqK_bk, seqK_ct, sNext_eq, sBreak_eq, sCont_eq, sRet_eq, sRetN_eq, sExpr_eq, sSet_eq, sIf_eq, asgK_some, sAsg_eq, gNm_eq, gTp_tup, gAll2_nil, gAll2_cons, bNil_eq, bCons_eq, parK_two, sPar_eq, iSeq_eq, seqOf_tup, seqOf_lst, iRg_eq, vCallP_eq, callK_ret, vCallR_eq, callRK_ret, rNil_eq, rCons_eq, argOf_val, argOf_own, argOf_root, oNone_eq, oSome_eq, intOf_int, vSlice_eq, gSl_tup, gSl_lst, wipe_nil, wipe_cons, outP_val, outP_own, outP_ownT, outP_nx, outR_rt, outR_nx, vNewT_eq, vDisp1_eq, vTake_eq, takeK_some, ownTOf_own, iItemsT_eq, dictOf_own, sPutT_eq, putK1_some, putK2_some, vGetT_eq, getK1_some, getK2_some, keyOf_ints, forK_some, forK2_nx, forK2_ct, forK2_bk, forK2_rt, lcK_ok, dcK_ok, ttYes_eq, lcK3_some, dcK3_some, dcK4_some, vDrGet_eq, drgK_true, isRoot_root, vDrLen_eq, drlK_true, vDrCell_eq, drcK_true, drc2_int, drc3_some, sDrPut_eq, drpK_int, vPop_eq, popK_some, popK2_some, iKeysT_eq, gIsN_of, gNotN_of, isNone_none, isNone_int, isNone_tup, isT_bool_none, isT_int_none, forL_dr, str_ne, List.getElem?_cons_zero, List.getElem?_cons_succ, List.set_cons_zero, List.set_cons_succ, Option.map_some, Option.bind_some, if_true, if_false, ite_true, ite_false, iteM, iteMS, Bool.false_eq_true, small_eq, List.length_cons, List.length_nil, decide_eq_true_eq, eq_self, decide_true, Int.toNat_natCast, Nat.reduceLeDiff, Nat.reduceAdd, Nat.reduceMul, Nat.zero_le, Nat.zero_add, h1, decide_false]
  obtain ⟨s, s1, rfl, s2⟩ := s1
  have m1 : mulOk (sg l k) n := mulOk_l _ _ (by rcases s2 with z | z <;> rw [z] <;> decide)
  have hT' : (encT T).length < 1000000 := by rw [len_encT]; exact hT
  unfold bMany
  generalize vIfE (tAndM (toB (vBin gLt (vVar 3) (ret (.val (.int 0))))) (toB (vBin gEq (vBin gMod (vVar 8) (ret (.val (.int 2)))) (ret (.val (.int 1)))))) (vUn gNeg (ret (.val (.int 1)))) (ret (.val (.int 1))) = G at s1 ⊢
  simp only [bnd_eq, bind_ok, ret_eq, ofO_some, toD_eq, frz_val, frz_own, toB_eq, boolOf_b, vVar_eq, varK_val, varK_root, varK_own, vBin_eq, vUn_eq, vAnd_eq, vOr_eq, vNot_eq, tAnd_eq, tOr_eq, tNot_eq, vIfE_eq, aNil_eq, aCons_eq, vTup_eq, vLst_eq, vCB_eq, chain_eq, vIsi_eq, vIsi2_eq, noDict_int, noDict_tuple, noDict_list, noDict_none, noDict_bool, noDict_str, isT_int_int, isT_bool_int, isT_tuple_tuple, isT_tuple_int, isT_int_tuple, gAdd_int, gAdd_tup, gAdd_lst, gSub_int, gMul_int, gMul_tup, gMul_lst, gMod_int, gDiv_int, gPow_int, gLt_int, gLe_int, gGt_int, gGe_int, gEq_int, gNe_int, gNeg_int, gRev_tup, gIx_tup, gIx_lst, gLen_tup, gLen_lst, gAbs_int, gMin_int, gMax_int, gInt_int, gTuple_lst, gTuple_tup, gList_lst, gList_tup, gSum_ints, gAll_bools, gAny_bools, vIxV_eq, ixK_some, ixK2_some, slotD_val, slotD_own, vLenV_eq, lenK_some, tTruV_eq, truK_some, tTru_eq, truD_bool, truD_int, truD_tup, truD_lst, truD_none, vApp_eq, appK_some, appK2_some, ownOf_own, thenK_ok, thenS_eq, sSetIx_eq, setIxK_some, setIxK2_some, setIxK3_some, sSeq_eq, seqK_nx, seqK_rt, seqK_bk, seqK_ct, sNext_eq, sBreak_eq, sCont_eq, sRet_eq, sRetN_eq, sExpr_eq, sSet_eq, sIf_eq, asgK_some, sAsg_eq, gNm_eq, gTp_tup, gAll2_nil, gAll2_cons, bNil_eq, bCons_eq, parK_two, sPar_eq, iSeq_eq, seqOf_tup, seqOf_lst, iRg_eq, vCallP_eq, callK_ret, vCallR_eq, callRK_ret, rNil_eq, rCons_eq, argOf_val, argOf_own, argOf_root, oNone_eq, oSome_eq, intOf_int, vSlice_eq, gSl_tup, gSl_lst, wipe_nil, wipe_cons, outP_val, outP_own, outP_ownT, outP_nx, outR_rt, outR_nx, vNewT_eq, vDisp1_eq, vTake_eq, takeK_some, ownTOf_own, iItemsT_eq, dictOf_own, sPutT_eq, putK1_some, putK2_some, vGetT_eq, getK1_some, getK2_some, keyOf_ints, forK_some, forK2_nx, forK2_ct, forK2_bk, forK2_rt, lcK_ok, dcK_ok, ttYes_eq, lcK3_some, dcK3_some, dcK4_some, vDrGet_eq, drgK_true, isRoot_root, vDrLen_eq, drlK_true, vDrCell_eq, drcK_true, drc2_int, drc3_some, sDrPut_eq, drpK_int, vPop_eq, popK_some, popK2_some, iKeysT_eq, gIsN_of, gNotN_of, isNone_none, isNone_int, isNone_tup, isT_bool_none, isT_int_none, forL_dr, str_ne, List.getElem?_cons_zero, List.getElem?_cons_succ, List.set_cons_zero, List.set_cons_succ, Option.map_some, Option.bind_some, if_true, if_false, ite_true, ite_false, iteM, iteMS, Bool.false_eq_true, small_eq, List.length_cons, List.length_nil, decide_eq_true_eq, eq_self, decide_true, Int.toNat_natCast, Nat.reduceLeDiff, Nat.reduceAdd, Nat.reduceMul, Nat.zero_le, Nat.zero_add, a1, g1, g1'', and_self, rep_dI, g2, dI_app, s1, valT_enc, if_pos m1, hT', putT_enc]
  rfl
end
def encI (x : List Int × Int) : D := .tuple [dW x.1, .int x.2]
theorem items_enc (T : Tb) : itemsT (encT T) = T.map encI := by
  unfold itemsT encT
  rw [List.map_map]
  apply List.map_congr_left
  intro x _
  simp only [Function.comp, keyD_kI]
  rfl
theorem longest_val (W : D) (most l n : Int) (p : List Int) (s2 s4 s7 s8 s9 s10 : Slot) : vIfE (toB (vBin gGt (vVar 3) (ret (.val (.int 0))))) (vBin gAdd (vLenV 5) (ret (.val (.int 1)))) (vVar 1)
      [.val W, .val (.int most), s2, .val (.int l), s4, .val (dW p), .val (.int n), s7, s8, s9, s10] () = .ok (.val (.int (longest most l p))) [.val W, .val (.int most), s2, .val (.int l), s4, .val (dW p), .val (.int n), s7, s8, s9, s10] () := by
  unfold longest
  by_cases h : l > 0
  · simp only [bnd_eq, bind_ok, ret_eq, ofO_some, toD_eq, frz_val, frz_own, toB_eq, boolOf_b, vVar_eq, varK_val, varK_root, varK_own, vBin_eq, vUn_eq, vAnd_eq, vOr_eq, vNot_eq, tAnd_eq, tOr_eq, tNot_eq, vIfE_eq, aNil_eq, aCons_eq, vTup_eq, vLst_eq, vCB_eq, chain_eq, vIsi_eq, vIsi2_eq, noDict_int, noDict_tuple, noDict_list, noDict_none, noDict_bool, noDict_str, isT_int_int, isT_bool_int, isT_tuple_tuple, isT_tuple_int, isT_int_tuple, gAdd_int, gAdd_tup, gAdd_lst, gSub_int, gMul_int, gMul_tup, gMul_lst, gMod_int, gDiv_int, gPow_int, gLt_int, gLe_int, gGt_int, gGe_int, gEq_int, gNe_int, gNeg_int, gRev_tup, gIx_tup, gIx_lst, gLen_tup, gLen_lst, gAbs_int, gMin_int, gMax_int, gInt_int, gTuple_lst, gTuple_tup, gList_lst, gList_tup, gSum_ints, gAll_bools, gAny_bools, vIxV_eq, ixK_some, ixK2_some, slotD_val, slotD_own, vLenV_eq, lenK_some, tTruV_eq, truK_some, tTru_eq, truD_bool, truD_int, truD_tup, truD_lst, truD_none, vApp_eq, appK_some, appK2_some, ownOf_own, thenK_ok, thenS_eq, sSetIx_eq, setIxK_some, setIxK2_some, setIxK3_some, sSeq_eq, seqK_nx, seqK_rt, seqK_bk, seqK_ct, sNext_eq, sBreak_eq, sCont_eq, sRet_eq, sRetN_eq, sExpr_eq, sSet_eq, sIf_eq, asgK_some, sAsg_eq, gNm_eq, gTp_tup, gAll2_nil, gAll2_cons, bNil_eq, bCons_eq, parK_two, sPar_eq, iSeq_eq, seqOf_tup, seqOf_lst, iRg_eq, vCallP_eq, callK_ret, vCallR_eq, callRK_ret, rNil_eq, rCons_eq, argOf_val, argOf_own, argOf_root, oNone_eq, oSome_eq, intOf_int, vSlice_eq, gSl_tup, gSl_lst, wipe_nil, wipe_cons, outP_val, outP_own, outP_ownT, outP_nx, outR_rt, outR_nx, vNewT_eq, vDisp1_eq, vTake_eq, takeK_some, ownTOf_own, iItemsT_eq, dictOf_own, sPutT_eq, putK1_some, putK2_some, vGetT_eq, getK1_some, getK2_some, keyOf_ints, forK_some, forK2_nx, forK2_ct, forK2_bk, forK2_rt, lcK_ok, dcK_ok, ttYes_eq, lcK3_some, dcK3_some, dcK4_some, vDrGet_eq, drgK_true, isRoot_root, vDrLen_eq, drlK_true, vDrCell_eq, drcK_true, drc2_int, drc3_some, sDrPut_eq, drpK_int, vPop_eq, popK_some, popK2_some, iKeysT_eq, gIsN_of, gNotN_of, isNone_none, isNone_int, isNone_tup, isT_bool_none, isT_int_none, forL_dr, str_ne, List.getElem?_cons_zero, List.getElem?_cons_succ, List.set_cons_zero, List.set_cons_succ, Option.map_some, Option.bind_some, if_true, if_false, ite_true, ite_false, iteM, iteMS, Bool.false_eq_true, small_eq, List.length_cons, List.length_nil, decide_eq_true_eq, eq_self, decide_true, Int.toNat_natCast, Nat.reduceLeDiff, Nat.reduceAdd, Nat.reduceMul, Nat.zero_le, Nat.zero_add, h, decide_true, len_dI]
  · simp only [bnd_eq, bind_ok, ret_eq, ofO_some, toD_eq, frz_val, frz_own, toB_eq, boolOf_b, vVar_eq, varK_val, varK_root, varK_own, vBin_eq, vUn_eq, vAnd_eq, vOr_eq, vNot_eq, tAnd_eq, tOr_eq, tNot_eq, vIfE_eq, aNil_eq, aCons_eq, vTup_eq, vLst_eq, vCB_eq, chain_eq, vIsi_eq, vIsi2_eq, noDict_int, noDict_tuple, noDict_list, noDict_none, noDict_bool, noDict_str, isT_int_int, isT_bool_int, isT_tuple_tuple, isT_tuple_int, isT_int_tuple, gAdd_int, gAdd_tup, gAdd_lst, gSub_int, gMul_int, gMul_tup, gMul_lst, gMod_int, gDiv_int, gPow_int, gLt_int, gLe_int, gGt_int, gGe_int, gEq_int, gNe_int, gNeg_int, gRev_tup, gIx_tup, gIx_lst, gLen_tup, gLen_lst, gAbs_int, gMin_int, gMax_int, gInt_int, gTuple_lst, gTuple_tup, gList_lst, gList_tup, gSum_ints, gAll_bools, gAny_bools, vIxV_eq, ixK_some, ixK2_some, slotD_val, slotD_own, vLenV_eq, lenK_some, tTruV_eq, truK_some, tTru_eq, truD_bool, truD_int, truD_tup, truD_lst, truD_none, vApp_eq, appK_some, appK2_some, ownOf_own, thenK_ok, thenS_eq, sSetIx_eq, setIxK_some, setIxK2_some, setIxK3_some, sSeq_eq, seqK_nx, seqK_rt, seqK_bk, seqK_ct, sNext_eq, sBreak_eq, sCont_eq, sRet_eq, sRetN_eq, sExpr_eq, sSet_eq, sIf_eq, asgK_some, sAsg_eq, gNm_eq, gTp_tup, gAll2_nil, gAll2_cons, bNil_eq, bCons_eq, parK_two, sPar_eq, iSeq_eq, seqOf_tup, seqOf_lst, iRg_eq, vCallP_eq, callK_ret, vCallR_eq, callRK_ret, rNil_eq, rCons_eq, argOf_val, argOf_own, argOf_root, oNone_eq, oSome_eq, intOf_int, vSlice_eq, gSl_tup, gSl_lst, wipe_nil, wipe_cons, outP_val, outP_own, outP_ownT, outP_nx, outR_rt, outR_nx, vNewT_eq, vDisp1_eq, vTake_eq, takeK_some, ownTOf_own, iItemsT_eq, dictOf_own, sPutT_eq, putK1_some, putK2_some, vGetT_eq, getK1_some, getK2_some, keyOf_ints, forK_some, forK2_nx, forK2_ct, forK2_bk, forK2_rt, lcK_ok, dcK_ok, ttYes_eq, lcK3_some, dcK3_some, dcK4_some, vDrGet_eq, drgK_true, isRoot_root, vDrLen_eq, drlK_true, vDrCell_eq, drcK_true, drc2_int, drc3_some, sDrPut_eq, drpK_int, vPop_eq, popK_some, popK2_some, iKeysT_eq, gIsN_of, gNotN_of, isNone_none, isNone_int, isNone_tup, isT_bool_none, isT_int_none, forL_dr, str_ne, List.getElem?_cons_zero, List.getElem?_cons_succ, List.set_cons_zero, List.set_cons_succ, Option.map_some, Option.bind_some, if_true, if_false, ite_true, ite_false, iteM, iteMS, Bool.false_eq_true, small_eq, List.length_cons, List.length_nil, decide_eq_true_eq, eq_self, decide_true, Int.toNat_natCast, Nat.reduceLeDiff, Nat.reduceAdd, Nat.reduceMul, Nat.zero_le, Nat.zero_add, h, decide_false]
theorem item_turn (W : D) (most : Nat) (l n : Int) (p : List Int) (hm : most ≤ 10) (hl : ab l = 1 ∨ ab l = 2 ∨ ab l = 3) (h0 : l ≠ 0) (hp3 : p.length ≤ most ∧ Let3 p) {T : Tb} (hT : KOk most T) :
    ∃ lg, bItem [.val W, .val (.int most), .emp, .val (.int l), .ownT (encT T), .val (dW p), .val (.int n), .emp, .emp, .emp, .emp] () =
      .nx [.val W, .val (.int most), .emp, .val (.int l), .ownT (encT (adds (contrib most l (p, n)) T)), .val (dW p), .val (.int n), .val (.int lg), .emp, .emp, .emp] () := by
  have lv := longest_val W most l n p .emp (.ownT (encT T)) .emp .emp .emp .emp
  have hp := hp3.1
  have hlm : many most l p ≤ 200 := by
    unfold many longest
    split <;> split <;> omega
  refine ⟨longest most l p, ?_⟩
  generalize hlg : longest most l p = lg at lv
  have h1 : ((if (most : Int) < lg then (most : Int) else lg) - (p.length : Int) + 1).natAbs ≤ 1000000 := by
    rw [← hlg]; unfold longest; split <;> split <;> omega
  have it : iMany [.val W, .val (.int most), .emp, .val (.int l), .ownT (encT T), .val (dW p), .val (.int n), .val (.int lg), .emp, .emp, .emp] () = .ok (rangeD 0 (many most l p)) [.val W, .val (.int most), .emp, .val (.int l), .ownT (encT T), .val (dW p), .val (.int n), .val (.int lg), .emp, .emp, .emp] () := by
    unfold iMany many
    rw [hlg]
    simp only [bnd_eq, bind_ok, ret_eq, ofO_some, toD_eq, frz_val, frz_own, toB_eq, boolOf_b, vVar_eq, varK_val, varK_root, varK_own, vBin_eq, vUn_eq, vAnd_eq, vOr_eq, vNot_eq, tAnd_eq, tOr_eq, tNot_eq, vIfE_eq, aNil_eq, aCons_eq, vTup_eq, vLst_eq, vCB_eq, chain_eq, vIsi_eq, vIsi2_eq, noDict_int, noDict_tuple, noDict_list, noDict_none, noDict_bool, noDict_str, isT_int_int, isT_bool_int, isT_tuple_tuple, isT_tuple_int, isT_int_tuple, gAdd_int, gAdd_tup, gAdd_lst, gSub_int, gMul_int, gMul_tup, gMul_lst, gMod_int, gDiv_int, gPow_int, gLt_int, gLe_int, gGt_int, gGe_int, gEq_int, gNe_int, gNeg_int, gRev_tup, gIx_tup, gIx_lst, gLen_tup, gLen_lst, gAbs_int, gMin_int, gMax_int, gInt_int, gTuple_lst, gTuple_tup, gList_lst, gList_tup, gSum_ints, gAll_bools, gAny_bools, vIxV_eq, ixK_some, ixK2_some, slotD_val, slotD_own, vLenV_eq, lenK_some, tTruV_eq, truK_some, tTru_eq, truD_bool, truD_int, truD_tup, truD_lst, truD_none, vApp_eq, appK_some, appK2_some, ownOf_own, thenK_ok, thenS_eq, sSetIx_eq, setIxK_some, setIxK2_some, setIxK3_some, sSeq_eq, seqK_nx, seqK_rt, seqK_bk, seqK_ct, sNext_eq, sBreak_eq, sCont_eq, sRet_eq, sRetN_eq, sExpr_eq, sSet_eq, sIf_eq, asgK_some, sAsg_eq, gNm_eq, gTp_tup, gAll2_nil, gAll2_cons, bNil_eq, bCons_eq, parK_two, sPar_eq, iSeq_eq, seqOf_tup, seqOf_lst, iRg_eq, vCallP_eq, callK_ret, vCallR_eq, callRK_ret, rNil_eq, rCons_eq, argOf_val, argOf_own, argOf_root, oNone_eq, oSome_eq, intOf_int, vSlice_eq, gSl_tup, gSl_lst, wipe_nil, wipe_cons, outP_val, outP_own, outP_ownT, outP_nx, outR_rt, outR_nx, vNewT_eq, vDisp1_eq, vTake_eq, takeK_some, ownTOf_own, iItemsT_eq, dictOf_own, sPutT_eq, putK1_some, putK2_some, vGetT_eq, getK1_some, getK2_some, keyOf_ints, forK_some, forK2_nx, forK2_ct, forK2_bk, forK2_rt, lcK_ok, dcK_ok, ttYes_eq, lcK3_some, dcK3_some, dcK4_some, vDrGet_eq, drgK_true, isRoot_root, vDrLen_eq, drlK_true, vDrCell_eq, drcK_true, drc2_int, drc3_some, sDrPut_eq, drpK_int, vPop_eq, popK_some, popK2_some, iKeysT_eq, gIsN_of, gNotN_of, isNone_none, isNone_int, isNone_tup, isT_bool_none, isT_int_none, forL_dr, str_ne, List.getElem?_cons_zero, List.getElem?_cons_succ, List.set_cons_zero, List.set_cons_succ, Option.map_some, Option.bind_some, if_true, if_false, ite_true, ite_false, iteM, iteMS, Bool.false_eq_true, small_eq, List.length_cons, List.length_nil, decide_eq_true_eq, eq_self, decide_true, Int.toNat_natCast, Nat.reduceLeDiff, Nat.reduceAdd, Nat.reduceMul, Nat.zero_le, Nat.zero_add, rg1_int, len_dI, h1]
  have fr := forL_idx (R := Unit) (js := [8, 9, 10]) (t := gNm 8) (body := bMany) (ds := rangeD 0 (many most l p)) (ρ := [.val W, .val (.int most), .emp, .val (.int l), .ownT (encT T), .val (dW p), .val (.int n), .val (.int lg), .emp, .emp, .emp])
    (fun k => [.val W, .val (.int most), .emp, .val (.int l), .ownT (encT (adds ((List.range k).map fun k => (p ++ List.replicate k (ab l), sg l k * n)) T)), .val (dW p), .val (.int n), .val (.int lg), .emp, .emp, .emp]) (fun _ => ()) (fun k hk => by
      rw [rangeD_len] at hk
      refine ⟨_, rfl, ?_⟩
      rw [rangeD_at]
      have hle := kok_len hm (kok_adds (L := (List.range k).map fun k => (p ++ List.replicate k (ab l), sg l k * n)) hT fun q hq => by
        refine contrib_mem (x := (p, n)) hl h0 hp3 (q := q) ?_
        unfold ks at hq ⊢
        obtain ⟨y, hy, rfl⟩ := List.mem_map.mp hq
        obtain ⟨i, hi, rfl⟩ := List.mem_map.mp hy
        refine List.mem_map.mpr ⟨_, List.mem_map.mpr ⟨i, List.mem_range.mpr ?_, rfl⟩, rfl⟩
        have := List.mem_range.mp hi
        show i < many most l p
        omega)
      have e := many_turn W most l n p (T := adds ((List.range k).map fun k => (p ++ List.replicate k (ab l), sg l k * n)) T) (lg := lg) (k := k) (by omega) (by omega) (by omega)
      rw [Int.zero_add]
      refine ⟨_, .inl e, ?_⟩
      rw [List.range_succ, List.map_append, adds_app]
      rfl) rfl
  rw [rangeD_len] at fr
  unfold bItem
  generalize vIfE (toB (vBin gGt (vVar 3) (ret (.val (.int 0))))) (vBin gAdd (vLenV 5) (ret (.val (.int 1)))) (vVar 1) = G at lv ⊢
  simp only [bnd_eq, bind_ok, ret_eq, ofO_some, toD_eq, frz_val, frz_own, toB_eq, boolOf_b, vVar_eq, varK_val, varK_root, varK_own, vBin_eq, vUn_eq, vAnd_eq, vOr_eq, vNot_eq, tAnd_eq, tOr_eq, tNot_eq, vIfE_eq, aNil_eq, aCons_eq, vTup_eq, vLst_eq, vCB_eq, chain_eq, vIsi_eq, vIsi2_eq, noDict_int, noDict_tuple, noDict_list, noDict_none, noDict_bool, noDict_str, isT_int_int, isT_bool_int, isT_tuple_tuple, isT_tuple_int, isT_int_tuple, gAdd_int, gAdd_tup, gAdd_lst, gSub_int, gMul_int, gMul_tup, gMul_lst, gMod_int, gDiv_int, gPow_int, gLt_int, gLe_int, gGt_int, gGe_int, gEq_int, gNe_int, gNeg_int, gRev_tup, gIx_tup, gIx_lst, gLen_tup, gLen_lst, gAbs_int, gMin_int, gMax_int, gInt_int, gTuple_lst, gTuple_tup, gList_lst, gList_tup, gSum_ints, gAll_bools, gAny_bools, vIxV_eq, ixK_some, ixK2_some, slotD_val, slotD_own, vLenV_eq, lenK_some, tTruV_eq, truK_some, tTru_eq, truD_bool, truD_int, truD_tup, truD_lst, truD_none, vApp_eq, appK_some, appK2_some, ownOf_own, thenK_ok, thenS_eq, sSetIx_eq, setIxK_some, setIxK2_some, setIxK3_some, sSeq_eq, seqK_nx, seqK_rt, seqK_bk, seqK_ct, sNext_eq, sBreak_eq, sCont_eq, sRet_eq, sRetN_eq, sExpr_eq, sSet_eq, sIf_eq, asgK_some, sAsg_eq, gNm_eq, gTp_tup, gAll2_nil, gAll2_cons, bNil_eq, bCons_eq, parK_two, sPar_eq, iSeq_eq, seqOf_tup, seqOf_lst, iRg_eq, vCallP_eq, callK_ret, vCallR_eq, callRK_ret, rNil_eq, rCons_eq, argOf_val, argOf_own, argOf_root, oNone_eq, oSome_eq, intOf_int, vSlice_eq, gSl_tup, gSl_lst, wipe_nil, wipe_cons, outP_val, outP_own, outP_ownT, outP_nx, outR_rt, outR_nx, vNewT_eq, vDisp1_eq, vTake_eq, takeK_some, ownTOf_own, iItemsT_eq, dictOf_own, sPutT_eq, putK1_some, putK2_some, vGetT_eq, getK1_some, getK2_some, keyOf_ints, forK_some, forK2_nx, forK2_ct, forK2_bk, forK2_rt, lcK_ok, dcK_ok, ttYes_eq, lcK3_some, dcK3_some, dcK4_some, vDrGet_eq, drgK_true, isRoot_root, vDrLen_eq, drlK_true, vDrCell_eq, drcK_true, drc2_int, drc3_some, sDrPut_eq, drpK_int, vPop_eq, popK_some, popK2_some, iKeysT_eq, gIsN_of, gNotN_of, isNone_none, isNone_int, isNone_tup, isT_bool_none, isT_int_none, forL_dr, str_ne, List.getElem?_cons_zero, List.getElem?_cons_succ, List.set_cons_zero, List.set_cons_succ, Option.map_some, Option.bind_some, if_true, if_false, ite_true, ite_false, iteM, iteMS, Bool.false_eq_true, small_eq, List.length_cons, List.length_nil, decide_eq_true_eq, eq_self, decide_true, Int.toNat_natCast, Nat.reduceLeDiff, Nat.reduceAdd, Nat.reduceMul, Nat.zero_le, Nat.zero_add, sFor_eq, lv, hlg, it, fr]
  rfl
theorem items_loop (W : D) (most : Nat) (l : Int) (hm : most ≤ 10) (hl : ab l = 1 ∨ ab l = 2 ∨ ab l = 3) (h0 : l ≠ 0) {T : Tb} (hp : ∀ p ∈ ks T, p.length ≤ most ∧ Let3 p) :
    forL [5, 6, 7, 8, 9, 10] (gTp [(gNm 5), (gNm 6)]) bItem (T.map encI) [.val W, .val (.int most), .emp, .val (.int l), .ownT [], .emp, .emp, .emp, .emp, .emp, .emp] () =
      .nx [.val W, .val (.int most), .emp, .val (.int l), .ownT (encT (adds (allC most l T) [])), .emp, .emp, .emp, .emp, .emp, .emp] () := by
  have fr := forL_idx (R := Unit) (js := [5, 6, 7, 8, 9, 10]) (t := gTp [(gNm 5), (gNm 6)]) (body := bItem) (ds := T.map encI) (ρ := [.val W, .val (.int most), .emp, .val (.int l), .ownT [], .emp, .emp, .emp, .emp, .emp, .emp])
    (fun k => [.val W, .val (.int most), .emp, .val (.int l), .ownT (encT (adds (allC most l (T.take k)) [])), .emp, .emp, .emp, .emp, .emp, .emp]) (fun _ => ()) (fun k hk => by
      rw [List.length_map] at hk
      rw [List.getElem_map]
      have hx : T[k] ∈ T := List.getElem_mem hk
      have kk : KOk most (adds (allC most l (T.take k)) []) := kok_adds ⟨by simp [ks], fun p hp' => by simp [ks] at hp'⟩ fun q hq => allC_mem hl h0 (fun p hp' => hp p (by
        unfold ks at hp' ⊢
        rw [List.map_take] at hp'
        exact List.mem_of_mem_take hp')) hq
      obtain ⟨lg, e⟩ := item_turn W most l (T[k]).2 (T[k]).1 (by omega) hl h0 (hp _ (List.mem_map.mpr ⟨_, hx, rfl⟩)) (T := adds (allC most l (T.take k)) []) kk
      refine ⟨_, rfl, _, .inl e, ?_⟩
      have e2 : T.take (k + 1) = T.take k ++ [T[k]] := by rw [List.take_add_one, List.getElem?_eq_getElem hk]; rfl
      have e3 : allC most l (T.take (k + 1)) = allC most l (T.take k) ++ contrib most l T[k] := by
        rw [e2]; unfold allC; rw [List.flatMap_append]; simp
      rw [e3, adds_app]
      rfl) rfl
  rw [List.length_map, List.take_length] at fr
  exact fr
theorem dc_run (W : D) (most l : Int) (s2 s4 : Slot) (s7 s8 s9 s10 : Slot) : ∀ (T A : Tb) (s5 s6 : Slot), (ks (A ++ T)).Nodup → A.length + T.length ≤ 900000 →
    ∃ t5 t6, dcL [5, 6] (gTp [(gNm 5), (gNm 6)]) (toB (vBin gNe (vVar 6) (ret (.val (.int 0))))) (vVar 5) (vVar 6) (T.map encI) (encT A) [.val W, .val (.int most), s2, .val (.int l), s4, s5, s6, s7, s8, s9, s10] () =
      .ok (encT (A ++ keepN T)) [.val W, .val (.int most), s2, .val (.int l), s4, t5, t6, s7, s8, s9, s10] ()
  | [], A, s5, s6, _, _ => ⟨s5, s6, by rw [List.map_nil, dcL_nil]; simp [keepN]⟩
  | x :: T, A, s5, s6, hn, hl => by
    have hx : x.1 ∉ ks A := by
      unfold ks at hn ⊢
      rw [List.map_append, List.nodup_append] at hn
      intro z
      exact hn.2.2 _ z x.1 (by simp) rfl
    by_cases hz : x.2 = 0
    · have hn' : (ks (A ++ T)).Nodup := hn.sublist (by unfold ks; exact ((List.Sublist.refl A).append (List.sublist_cons_self x T)).map _)
      obtain ⟨t5, t6, e⟩ := dc_run W most l s2 s4 s7 s8 s9 s10 T A (.val (dW x.1)) (.val (.int x.2)) hn' (by rw [List.length_cons] at hl; omega)
      refine ⟨t5, t6, ?_⟩
      have ek : keepN (x :: T) = keepN T := by unfold keepN; rw [List.filter_cons, if_neg (by simp [hz])]
      rw [ek, ← e, List.map_cons, dcL_cons]
      show dcK3 (gTp [gNm 5, gNm 6] (encI x) [.val W, .val (.int most), s2, .val (.int l), s4, .emp, .emp, s7, s8, s9, s10]) _ _ _ _ _ _ _ _ = _
      unfold encI
      simp only [bnd_eq, bind_ok, ret_eq, ofO_some, toD_eq, frz_val, frz_own, toB_eq, boolOf_b, vVar_eq, varK_val, varK_root, varK_own, vBin_eq, vUn_eq, vAnd_eq, vOr_eq, vNot_eq, tAnd_eq, tOr_eq, tNot_eq, vIfE_eq, aNil_eq, aCons_eq, vTup_eq, vLst_eq, vCB_eq, chain_eq, vIsi_eq, vIsi2_eq, noDict_int, noDict_tuple, noDict_list, noDict_none, noDict_bool, noDict_str, isT_int_int, isT_bool_int, isT_tuple_tuple, isT_tuple_int, isT_int_tuple, gAdd_int, gAdd_tup, gAdd_lst, gSub_int, gMul_int, gMul_tup, gMul_lst, gMod_int, gDiv_int, gPow_int, gLt_int, gLe_int, gGt_int, gGe_int, gEq_int, gNe_int, gNeg_int, gRev_tup, gIx_tup, gIx_lst, gLen_tup, gLen_lst, gAbs_int, gMin_int, gMax_int, gInt_int, gTuple_lst, gTuple_tup, gList_lst, gList_tup, gSum_ints, gAll_bools, gAny_bools, vIxV_eq, ixK_some, ixK2_some, slotD_val, slotD_own, vLenV_eq, lenK_some, tTruV_eq, truK_some, tTru_eq, truD_bool, truD_int, truD_tup, truD_lst, truD_none, vApp_eq, appK_some, appK2_some, ownOf_own, thenK_ok, thenS_eq, sSetIx_eq, setIxK_some, setIxK2_some, setIxK3_some, sSeq_eq, seqK_nx, seqK_rt, seqK_bk, seqK_ct, sNext_eq, sBreak_eq, sCont_eq, sRet_eq, sRetN_eq, sExpr_eq, sSet_eq, sIf_eq, asgK_some, sAsg_eq, gNm_eq, gTp_tup, gAll2_nil, gAll2_cons, bNil_eq, bCons_eq, parK_two, sPar_eq, iSeq_eq, seqOf_tup, seqOf_lst, iRg_eq, vCallP_eq, callK_ret, vCallR_eq, callRK_ret, rNil_eq, rCons_eq, argOf_val, argOf_own, argOf_root, oNone_eq, oSome_eq, intOf_int, vSlice_eq, gSl_tup, gSl_lst, wipe_nil, wipe_cons, outP_val, outP_own, outP_ownT, outP_nx, outR_rt, outR_nx, vNewT_eq, vDisp1_eq, vTake_eq, takeK_some, ownTOf_own, iItemsT_eq, dictOf_own, sPutT_eq, putK1_some, putK2_some, vGetT_eq, getK1_some, getK2_some, keyOf_ints, forK_some, forK2_nx, forK2_ct, forK2_bk, forK2_rt, lcK_ok, dcK_ok, ttYes_eq, lcK3_some, dcK3_some, dcK4_some, vDrGet_eq, drgK_true, isRoot_root, vDrLen_eq, drlK_true, vDrCell_eq, drcK_true, drc2_int, drc3_some, sDrPut_eq, drpK_int, vPop_eq, popK_some, popK2_some, iKeysT_eq, gIsN_of, gNotN_of, isNone_none, isNone_int, isNone_tup, isT_bool_none, isT_int_none, forL_dr, str_ne, List.getElem?_cons_zero, List.getElem?_cons_succ, List.set_cons_zero, List.set_cons_succ, Option.map_some, Option.bind_some, if_true, if_false, ite_true, ite_false, iteM, iteMS, Bool.false_eq_true, small_eq, List.length_cons, List.length_nil, decide_eq_true_eq, eq_self, decide_true, Int.toNat_natCast, Nat.reduceLeDiff, Nat.reduceAdd, Nat.reduceMul, Nat.zero_le, Nat.zero_add, hz, decide_true, Bool.not_true]
    · have hp : putP A x.1 x.2 = A ++ [x] := by
        unfold putP
        rw [if_neg]
        intro z
        obtain ⟨y, hy, h2⟩ := List.any_eq_true.mp z
        exact hx (List.mem_map.mpr ⟨y, hy, of_decide_eq_true h2⟩)
      have ea : A ++ x :: T = (A ++ [x]) ++ T := by simp
      rw [ea] at hn
      obtain ⟨t5, t6, e⟩ := dc_run W most l s2 s4 s7 s8 s9 s10 T (A ++ [x]) (.val (dW x.1)) (.val (.int x.2)) hn (by rw [List.length_cons] at hl; rw [List.length_append, List.length_singleton]; omega)
      refine ⟨t5, t6, ?_⟩
      have ek : A ++ keepN (x :: T) = (A ++ [x]) ++ keepN T := by unfold keepN; rw [List.filter_cons, if_pos (by simp [hz])]; simp
      have hA : (encT A).length < 1000000 := by rw [len_encT]; omega
      rw [ek, ← e, List.map_cons, dcL_cons]
      show dcK3 (gTp [gNm 5, gNm 6] (encI x) [.val W, .val (.int most), s2, .val (.int l), s4, .emp, .emp, s7, s8, s9, s10]) _ _ _ _ _ _ _ _ = _
      unfold encI
      simp only [bnd_eq, bind_ok, ret_eq, ofO_some, toD_eq, frz_val, frz_own, toB_eq, boolOf_b, vVar_eq, varK_val, varK_root, varK_own, vBin_eq, vUn_eq, vAnd_eq, vOr_eq, vNot_eq, tAnd_eq, tOr_eq, tNot_eq, vIfE_eq, aNil_eq, aCons_eq, vTup_eq, vLst_eq, vCB_eq, chain_eq, vIsi_eq, vIsi2_eq, noDict_int, noDict_tuple, noDict_list, noDict_none, noDict_bool, noDict_str, isT_int_int, isT_bool_int, isT_tuple_tuple, isT_tuple_int, isT_int_tuple, gAdd_int, gAdd_tup, gAdd_lst, gSub_int, gMul_int, gMul_tup, gMul_lst, gMod_int, gDiv_int, gPow_int, gLt_int, gLe_int, gGt_int, gGe_int, gEq_int, gNe_int, gNeg_int, gRev_tup, gIx_tup, gIx_lst, gLen_tup, gLen_lst, gAbs_int, gMin_int, gMax_int, gInt_int, gTuple_lst, gTuple_tup, gList_lst, gList_tup, gSum_ints, gAll_bools, gAny_bools, vIxV_eq, ixK_some, ixK2_some, slotD_val, slotD_own, vLenV_eq, lenK_some, tTruV_eq, truK_some, tTru_eq, truD_bool, truD_int, truD_tup, truD_lst, truD_none, vApp_eq, appK_some, appK2_some, ownOf_own, thenK_ok, thenS_eq, sSetIx_eq, setIxK_some, setIxK2_some, setIxK3_some, sSeq_eq, seqK_nx, seqK_rt, seqK_bk, seqK_ct, sNext_eq, sBreak_eq, sCont_eq, sRet_eq, sRetN_eq, sExpr_eq, sSet_eq, sIf_eq, asgK_some, sAsg_eq, gNm_eq, gTp_tup, gAll2_nil, gAll2_cons, bNil_eq, bCons_eq, parK_two, sPar_eq, iSeq_eq, seqOf_tup, seqOf_lst, iRg_eq, vCallP_eq, callK_ret, vCallR_eq, callRK_ret, rNil_eq, rCons_eq, argOf_val, argOf_own, argOf_root, oNone_eq, oSome_eq, intOf_int, vSlice_eq, gSl_tup, gSl_lst, wipe_nil, wipe_cons, outP_val, outP_own, outP_ownT, outP_nx, outR_rt, outR_nx, vNewT_eq, vDisp1_eq, vTake_eq, takeK_some, ownTOf_own, iItemsT_eq, dictOf_own, sPutT_eq, putK1_some, putK2_some, vGetT_eq, getK1_some, getK2_some, keyOf_ints, forK_some, forK2_nx, forK2_ct, forK2_bk, forK2_rt, lcK_ok, dcK_ok, ttYes_eq, lcK3_some, dcK3_some, dcK4_some, vDrGet_eq, drgK_true, isRoot_root, vDrLen_eq, drlK_true, vDrCell_eq, drcK_true, drc2_int, drc3_some, sDrPut_eq, drpK_int, vPop_eq, popK_some, popK2_some, iKeysT_eq, gIsN_of, gNotN_of, isNone_none, isNone_int, isNone_tup, isT_bool_none, isT_int_none, forL_dr, str_ne, List.getElem?_cons_zero, List.getElem?_cons_succ, List.set_cons_zero, List.set_cons_succ, Option.map_some, Option.bind_some, if_true, if_false, ite_true, ite_false, iteM, iteMS, Bool.false_eq_true, small_eq, List.length_cons, List.length_nil, decide_eq_true_eq, eq_self, decide_true, Int.toNat_natCast, Nat.reduceLeDiff, Nat.reduceAdd, Nat.reduceMul, Nat.zero_le, Nat.zero_add, hz, decide_false, Bool.not_false, hA, putT_enc, hp]
theorem nums_val (W : D) (most l : Int) (T : Tb) (hn : (ks T).Nodup) (hl : T.length ≤ 900000) : vNums [.val W, .val (.int most), .emp, .val (.int l), .ownT (encT T), .emp, .emp, .emp, .emp, .emp, .emp] () =
      .ok (.ownT (encT (keepN T))) [.val W, .val (.int most), .emp, .val (.int l), .emp, .emp, .emp, .emp, .emp, .emp, .emp] () := by
  obtain ⟨t5, t6, e⟩ := dc_run W most l .emp .emp .emp .emp .emp .emp T [] .emp .emp hn (by simpa using hl)
  have e0 : encT [] = [] := rfl
  rw [e0, List.nil_append] at e
  unfold vNums
  simp only [bnd_eq, bind_ok, ret_eq, ofO_some, toD_eq, frz_val, frz_own, toB_eq, boolOf_b, vVar_eq, varK_val, varK_root, varK_own, vBin_eq, vUn_eq, vAnd_eq, vOr_eq, vNot_eq, tAnd_eq, tOr_eq, tNot_eq, vIfE_eq, aNil_eq, aCons_eq, vTup_eq, vLst_eq, vCB_eq, chain_eq, vIsi_eq, vIsi2_eq, noDict_int, noDict_tuple, noDict_list, noDict_none, noDict_bool, noDict_str, isT_int_int, isT_bool_int, isT_tuple_tuple, isT_tuple_int, isT_int_tuple, gAdd_int, gAdd_tup, gAdd_lst, gSub_int, gMul_int, gMul_tup, gMul_lst, gMod_int, gDiv_int, gPow_int, gLt_int, gLe_int, gGt_int, gGe_int, gEq_int, gNe_int, gNeg_int, gRev_tup, gIx_tup, gIx_lst, gLen_tup, gLen_lst, gAbs_int, gMin_int, gMax_int, gInt_int, gTuple_lst, gTuple_tup, gList_lst, gList_tup, gSum_ints, gAll_bools, gAny_bools, vIxV_eq, ixK_some, ixK2_some, slotD_val, slotD_own, vLenV_eq, lenK_some, tTruV_eq, truK_some, tTru_eq, truD_bool, truD_int, truD_tup, truD_lst, truD_none, vApp_eq, appK_some, appK2_some, ownOf_own, thenK_ok, thenS_eq, sSetIx_eq, setIxK_some, setIxK2_some, setIxK3_some, sSeq_eq, seqK_nx, seqK_rt, seqK_bk, seqK_ct, sNext_eq, sBreak_eq, sCont_eq, sRet_eq, sRetN_eq, sExpr_eq, sSet_eq, sIf_eq, asgK_some, sAsg_eq, gNm_eq, gTp_tup, gAll2_nil, gAll2_cons, bNil_eq, bCons_eq, parK_two, sPar_eq, iSeq_eq, seqOf_tup, seqOf_lst, iRg_eq, vCallP_eq, callK_ret, vCallR_eq, callRK_ret, rNil_eq, rCons_eq, argOf_val, argOf_own, argOf_root, oNone_eq, oSome_eq, intOf_int, vSlice_eq, gSl_tup, gSl_lst, wipe_nil, wipe_cons, outP_val, outP_own, outP_ownT, outP_nx, outR_rt, outR_nx, vNewT_eq, vDisp1_eq, vTake_eq, takeK_some, ownTOf_own, iItemsT_eq, dictOf_own, sPutT_eq, putK1_some, putK2_some, vGetT_eq, getK1_some, getK2_some, keyOf_ints, forK_some, forK2_nx, forK2_ct, forK2_bk, forK2_rt, lcK_ok, dcK_ok, ttYes_eq, lcK3_some, dcK3_some, dcK4_some, vDrGet_eq, drgK_true, isRoot_root, vDrLen_eq, drlK_true, vDrCell_eq, drcK_true, drc2_int, drc3_some, sDrPut_eq, drpK_int, vPop_eq, popK_some, popK2_some, iKeysT_eq, gIsN_of, gNotN_of, isNone_none, isNone_int, isNone_tup, isT_bool_none, isT_int_none, forL_dr, str_ne, List.getElem?_cons_zero, List.getElem?_cons_succ, List.set_cons_zero, List.set_cons_succ, Option.map_some, Option.bind_some, if_true, if_false, ite_true, ite_false, iteM, iteMS, Bool.false_eq_true, small_eq, List.length_cons, List.length_nil, decide_eq_true_eq, eq_self, decide_true, Int.toNat_natCast, Nat.reduceLeDiff, Nat.reduceAdd, Nat.reduceMul, Nat.zero_le, Nat.zero_add, vDc_eq, items_enc, e]
  rfl
theorem let_turn (W : D) (most : Nat) (l : Int) (hm : most ≤ 10) (hl : ab l = 1 ∨ ab l = 2 ∨ ab l = 3) (h0 : l ≠ 0) {T : Tb} {f : List Int → Int} (h : TbOk most T f) :
    bLet [.val W, .val (.int most), .ownT (encT T), .val (.int l), .emp, .emp, .emp, .emp, .emp, .emp, .emp] () = .nx [.val W, .val (.int most), .ownT (encT (nextT most l T)), .val (.int l), .emp, .emp, .emp, .emp, .emp, .emp, .emp] () := by
  have e1 := items_loop W most l hm hl h0 h.len
  have nd := adds_nodup (allC most l T) [] (by simp [ks])
  have hl : (adds (allC most l T) []).length ≤ 900000 := Nat.le_trans (kok_len hm (kok_adds ⟨by simp [ks], fun p hp' => by simp [ks] at hp'⟩ fun q hq => allC_mem hl h0 h.len hq)) (by decide)
  have e2 := nums_val W most l _ nd hl
  unfold bLet
  generalize vNums = V at e2 ⊢
  simp only [bnd_eq, bind_ok, ret_eq, ofO_some, toD_eq, frz_val, frz_own, toB_eq, boolOf_b, vVar_eq, varK_val, varK_root, varK_own, vBin_eq, vUn_eq, vAnd_eq, vOr_eq, vNot_eq, tAnd_eq, tOr_eq, tNot_eq, vIfE_eq, aNil_eq, aCons_eq, vTup_eq, vLst_eq, vCB_eq, chain_eq, vIsi_eq, vIsi2_eq, noDict_int, noDict_tuple, noDict_list, noDict_none, noDict_bool, noDict_str, isT_int_int, isT_bool_int, isT_tuple_tuple, isT_tuple_int, isT_int_tuple, gAdd_int, gAdd_tup, gAdd_lst, gSub_int, gMul_int, gMul_tup, gMul_lst, gMod_int, gDiv_int, gPow_int, gLt_int, gLe_int, gGt_int, gGe_int, gEq_int, gNe_int, gNeg_int, gRev_tup, gIx_tup, gIx_lst, gLen_tup, gLen_lst, gAbs_int, gMin_int, gMax_int, gInt_int, gTuple_lst, gTuple_tup, gList_lst, gList_tup, gSum_ints, gAll_bools, gAny_bools, vIxV_eq, ixK_some, ixK2_some, slotD_val, slotD_own, vLenV_eq, lenK_some, tTruV_eq, truK_some, tTru_eq, truD_bool, truD_int, truD_tup, truD_lst, truD_none, vApp_eq, appK_some, appK2_some, ownOf_own, thenK_ok, thenS_eq, sSetIx_eq, setIxK_some, setIxK2_some, setIxK3_some, sSeq_eq, seqK_nx, seqK_rt, seqK_bk, seqK_ct, sNext_eq, sBreak_eq, sCont_eq, sRet_eq, sRetN_eq, sExpr_eq, sSet_eq, sIf_eq, asgK_some, sAsg_eq, gNm_eq, gTp_tup, gAll2_nil, gAll2_cons, bNil_eq, bCons_eq, parK_two, sPar_eq, iSeq_eq, seqOf_tup, seqOf_lst, iRg_eq, vCallP_eq, callK_ret, vCallR_eq, callRK_ret, rNil_eq, rCons_eq, argOf_val, argOf_own, argOf_root, oNone_eq, oSome_eq, intOf_int, vSlice_eq, gSl_tup, gSl_lst, wipe_nil, wipe_cons, outP_val, outP_own, outP_ownT, outP_nx, outR_rt, outR_nx, vNewT_eq, vDisp1_eq, vTake_eq, takeK_some, ownTOf_own, iItemsT_eq, dictOf_own, sPutT_eq, putK1_some, putK2_some, vGetT_eq, getK1_some, getK2_some, keyOf_ints, forK_some, forK2_nx, forK2_ct, forK2_bk, forK2_rt, lcK_ok, dcK_ok, ttYes_eq, lcK3_some, dcK3_some, dcK4_some, vDrGet_eq, drgK_true, isRoot_root, vDrLen_eq, drlK_true, vDrCell_eq, drcK_true, drc2_int, drc3_some, sDrPut_eq, drpK_int, vPop_eq, popK_some, popK2_some, iKeysT_eq, gIsN_of, gNotN_of, isNone_none, isNone_int, isNone_tup, isT_bool_none, isT_int_none, forL_dr, str_ne, List.getElem?_cons_zero, List.getElem?_cons_succ, List.set_cons_zero, List.set_cons_succ, Option.map_some, Option.bind_some, if_true, if_false, ite_true, ite_false, iteM, iteMS, Bool.false_eq_true, small_eq, List.length_cons, List.length_nil, decide_eq_true_eq, eq_self, decide_true, Int.toNat_natCast, Nat.reduceLeDiff, Nat.reduceAdd, Nat.reduceMul, Nat.zero_le, Nat.zero_add, sFor_eq, items_enc, e1, e2]
  rfl
theorem exp_in (most : Nat) (hm : most ≤ 10) {w : List Int} (hw : WordOk w) : m_expansion_in [dW w, .int most] = .ret (.ownT (encT (expT most w))) := by
  have fr := forL_idx (R := Unit) (js := [3, 4, 5, 6, 7, 8, 9, 10]) (t := gNm 3) (body := bLet) (ds := dI w) (ρ := [.val (dW w), .val (.int most), .ownT (encT [([], 1)]), .emp, .emp, .emp, .emp, .emp, .emp, .emp, .emp])
    (fun k => [.val (dW w), .val (.int most), .ownT (encT (expT most (w.take k))), .emp, .emp, .emp, .emp, .emp, .emp, .emp, .emp]) (fun _ => ()) (fun k hk => by
      rw [len_dI] at hk
      rw [List.getElem_map]
      have hx : w[k] ∈ w := List.getElem_mem hk
      have ok := expT_ok most (w := w.take k) fun l hl => hw l (List.mem_of_mem_take hl)
      have e := let_turn (dW w) most w[k] hm (ab_ok (hw _ hx)) (hw _ hx).2.2 ok
      refine ⟨_, rfl, _, .inl e, ?_⟩
      have e2 : w.take (k + 1) = w.take k ++ [w[k]] := by rw [List.take_add_one, List.getElem?_eq_getElem hk]; rfl
      rw [e2, expT_snoc]
      rfl) rfl
  rw [len_dI, List.take_length] at fr
  unfold m_expansion_in
  show outP (c_expansion_in [.val (dW w), .val (.int most), .emp, .emp, .emp, .emp, .emp, .emp, .emp, .emp, .emp] ()) = _
  rw [exp_eq]
  have k0 : keyOf (.tuple []) = some [] := rfl
  have e0 : encT [([], 1)] = [([], PyData.int 1)] := rfl
  rw [e0] at fr
  simp only [bnd_eq, bind_ok, ret_eq, ofO_some, toD_eq, frz_val, frz_own, toB_eq, boolOf_b, vVar_eq, varK_val, varK_root, varK_own, vBin_eq, vUn_eq, vAnd_eq, vOr_eq, vNot_eq, tAnd_eq, tOr_eq, tNot_eq, vIfE_eq, aNil_eq, aCons_eq, vTup_eq, vLst_eq, vCB_eq, chain_eq, vIsi_eq, vIsi2_eq, noDict_int, noDict_tuple, noDict_list, noDict_none, noDict_bool, noDict_str, isT_int_int, isT_bool_int, isT_tuple_tuple, isT_tuple_int, isT_int_tuple, gAdd_int, gAdd_tup, gAdd_lst, gSub_int, gMul_int, gMul_tup, gMul_lst, gMod_int, gDiv_int, gPow_int, gLt_int, gLe_int, gGt_int, gGe_int, gEq_int, gNe_int, gNeg_int, gRev_tup, gIx_tup, gIx_lst, gLen_tup, gLen_lst, gAbs_int, gMin_int, gMax_int, gInt_int, gTuple_lst, gTuple_tup, gList_lst, gList_tup, gSum_ints, gAll_bools, gAny_bools, vIxV_eq, ixK_some, ixK2_some, slotD_val, slotD_own, vLenV_eq, lenK_some, tTruV_eq, truK_some, tTru_eq, truD_bool, truD_int, truD_tup, truD_lst, truD_none, vApp_eq, appK_some, appK2_some, ownOf_own, thenK_ok, thenS_eq, sSetIx_eq, setIxK_some, setIxK2_some, setIxK3_some, sSeq_eq, seqK_nx, seqK_rt, seqK_bk, seqK_ct, sNext_eq, sBreak_eq, sCont_eq, sRet_eq, sRetN_eq, sExpr_eq, sSet_eq, sIf_eq, asgK_some, sAsg_eq, gNm_eq, gTp_tup, gAll2_nil, gAll2_cons, bNil_eq, bCons_eq, parK_two, sPar_eq, iSeq_eq, seqOf_tup, seqOf_lst, iRg_eq, vCallP_eq, callK_ret, vCallR_eq, callRK_ret, rNil_eq, rCons_eq, argOf_val, argOf_own, argOf_root, oNone_eq, oSome_eq, intOf_int, vSlice_eq, gSl_tup, gSl_lst, wipe_nil, wipe_cons, outP_val, outP_own, outP_ownT, outP_nx, outR_rt, outR_nx, vNewT_eq, vDisp1_eq, vTake_eq, takeK_some, ownTOf_own, iItemsT_eq, dictOf_own, sPutT_eq, putK1_some, putK2_some, vGetT_eq, getK1_some, getK2_some, keyOf_ints, forK_some, forK2_nx, forK2_ct, forK2_bk, forK2_rt, lcK_ok, dcK_ok, ttYes_eq, lcK3_some, dcK3_some, dcK4_some, vDrGet_eq, drgK_true, isRoot_root, vDrLen_eq, drlK_true, vDrCell_eq, drcK_true, drc2_int, drc3_some, sDrPut_eq, drpK_int, vPop_eq, popK_some, popK2_some, iKeysT_eq, gIsN_of, gNotN_of, isNone_none, isNone_int, isNone_tup, isT_bool_none, isT_int_none, forL_dr, str_ne, List.getElem?_cons_zero, List.getElem?_cons_succ, List.set_cons_zero, List.set_cons_succ, Option.map_some, Option.bind_some, if_true, if_false, ite_true, ite_false, iteM, iteMS, Bool.false_eq_true, small_eq, List.length_cons, List.length_nil, decide_eq_true_eq, eq_self, decide_true, Int.toNat_natCast, Nat.reduceLeDiff, Nat.reduceAdd, Nat.reduceMul, Nat.zero_le, Nat.zero_add, sFor_eq, k0, fr]
/-! ### expansion -/
def outE : D → Option D
  | .tuple [.tuple ps, n] => if ps.isEmpty = true then none else some (.tuple [.tuple ps, n])
  | _ => none
theorem out_enc (T : Tb) : (T.map encI).filterMap outE = (T.filter fun x => decide (x.1 ≠ [])).map encI := by
  induction T with
  | nil => rfl
  | cons x T ih =>
    rw [List.map_cons, List.filterMap_cons, List.filter_cons]
    obtain ⟨p, n⟩ := x
    cases p with
    | nil =>
      rw [if_neg (by simp)]
      exact ih
    | cons a p =>
      rw [if_pos (by simp), List.map_cons, ← ih]
      rfl
theorem ne_empty (p : List Int) : gNe (dW p) (.tuple []) = some (.val (.bool (!p.isEmpty))) := by
  unfold gNe
  rw [if_pos (.inr ⟨shaped_ints p, shaped_ints []⟩)]
  cases p <;> rfl
theorem told_val (most : Nat) (hm : most ≤ 4) {w : List Int} (hw : WordOk w) :
    vLc [2, 3] (iItemsT (vCallP m_expansion_in (aCons (vVar 0) (aCons (vVar 1) aNil)))) (gTp [(gNm 2), (gNm 3)]) (toB (vBin gNe (vVar 2) (vTup aNil))) (vTup (aCons (vVar 2) (aCons (vVar 3) aNil))) [.val (dW w), .val (.int most), .emp, .emp] () =
      .ok (.own ((toldL most w).map encI)) [.val (dW w), .val (.int most), .emp, .emp] () := by
  have e1 := exp_in most (by omega) hw
  have hl := tb_len hm (expT_ok most hw)
  rw [vLc_fm (ds := (expT most w).map encI) (ρ1 := [.val (dW w), .val (.int most), .emp, .emp]) outE]
  · rw [out_enc]; rfl
  · simp only [bnd_eq, bind_ok, ret_eq, ofO_some, toD_eq, frz_val, frz_own, toB_eq, boolOf_b, vVar_eq, varK_val, varK_root, varK_own, vBin_eq, vUn_eq, vAnd_eq, vOr_eq, vNot_eq, tAnd_eq, tOr_eq, tNot_eq, vIfE_eq, aNil_eq, aCons_eq, vTup_eq, vLst_eq, vCB_eq, chain_eq, vIsi_eq, vIsi2_eq, noDict_int, noDict_tuple, noDict_list, noDict_none, noDict_bool, noDict_str, isT_int_int, isT_bool_int, isT_tuple_tuple, isT_tuple_int, isT_int_tuple, gAdd_int, gAdd_tup, gAdd_lst, gSub_int, gMul_int, gMul_tup, gMul_lst, gMod_int, gDiv_int, gPow_int, gLt_int, gLe_int, gGt_int, gGe_int, gEq_int, gNe_int, gNeg_int, gRev_tup, gIx_tup, gIx_lst, gLen_tup, gLen_lst, gAbs_int, gMin_int, gMax_int, gInt_int, gTuple_lst, gTuple_tup, gList_lst, gList_tup, gSum_ints, gAll_bools, gAny_bools, vIxV_eq, ixK_some, ixK2_some, slotD_val, slotD_own, vLenV_eq, lenK_some, tTruV_eq, truK_some, tTru_eq, truD_bool, truD_int, truD_tup, truD_lst, truD_none, vApp_eq, appK_some, appK2_some, ownOf_own, thenK_ok, thenS_eq, sSetIx_eq, setIxK_some, setIxK2_some, setIxK3_some, sSeq_eq, seqK_nx, seqK_rt, seqK_bk, seqK_ct, sNext_eq, sBreak_eq, sCont_eq, sRet_eq, sRetN_eq, sExpr_eq, sSet_eq, sIf_eq, asgK_some, sAsg_eq, gNm_eq, gTp_tup, gAll2_nil, gAll2_cons, bNil_eq, bCons_eq, parK_two, sPar_eq, iSeq_eq, seqOf_tup, seqOf_lst, iRg_eq, vCallP_eq, callK_ret, vCallR_eq, callRK_ret, rNil_eq, rCons_eq, argOf_val, argOf_own, argOf_root, oNone_eq, oSome_eq, intOf_int, vSlice_eq, gSl_tup, gSl_lst, wipe_nil, wipe_cons, outP_val, outP_own, outP_ownT, outP_nx, outR_rt, outR_nx, vNewT_eq, vDisp1_eq, vTake_eq, takeK_some, ownTOf_own, iItemsT_eq, dictOf_own, sPutT_eq, putK1_some, putK2_some, vGetT_eq, getK1_some, getK2_some, keyOf_ints, forK_some, forK2_nx, forK2_ct, forK2_bk, forK2_rt, lcK_ok, dcK_ok, ttYes_eq, lcK3_some, dcK3_some, dcK4_some, vDrGet_eq, drgK_true, isRoot_root, vDrLen_eq, drlK_true, vDrCell_eq, drcK_true, drc2_int, drc3_some, sDrPut_eq, drpK_int, vPop_eq, popK_some, popK2_some, iKeysT_eq, gIsN_of, gNotN_of, isNone_none, isNone_int, isNone_tup, isT_bool_none, isT_int_none, forL_dr, str_ne, List.getElem?_cons_zero, List.getElem?_cons_succ, List.set_cons_zero, List.set_cons_succ, Option.map_some, Option.bind_some, if_true, if_false, ite_true, ite_false, iteM, iteMS, Bool.false_eq_true, small_eq, List.length_cons, List.length_nil, decide_eq_true_eq, eq_self, decide_true, Int.toNat_natCast, Nat.reduceLeDiff, Nat.reduceAdd, Nat.reduceMul, Nat.zero_le, Nat.zero_add, e1, items_enc]
  · intro d hd
    obtain ⟨⟨p, n⟩, _, rfl⟩ := List.mem_map.mp hd
    refine ⟨[.val (dW w), .val (.int most), .val (dW p), .val (.int n)], rfl, ?_⟩
    cases p with
    | nil =>
      refine .inl ⟨rfl, [.val (dW w), .val (.int most), .val (dW []), .val (.int n)], ?_, rfl⟩
      simp only [bnd_eq, bind_ok, ret_eq, ofO_some, toD_eq, frz_val, frz_own, toB_eq, boolOf_b, vVar_eq, varK_val, varK_root, varK_own, vBin_eq, vUn_eq, vAnd_eq, vOr_eq, vNot_eq, tAnd_eq, tOr_eq, tNot_eq, vIfE_eq, aNil_eq, aCons_eq, vTup_eq, vLst_eq, vCB_eq, chain_eq, vIsi_eq, vIsi2_eq, noDict_int, noDict_tuple, noDict_list, noDict_none, noDict_bool, noDict_str, isT_int_int, isT_bool_int, isT_tuple_tuple, isT_tuple_int, isT_int_tuple, gAdd_int, gAdd_tup, gAdd_lst, gSub_int, gMul_int, gMul_tup, gMul_lst, gMod_int, gDiv_int, gPow_int, gLt_int, gLe_int, gGt_int, gGe_int, gEq_int, gNe_int, gNeg_int, gRev_tup, gIx_tup, gIx_lst, gLen_tup, gLen_lst, gAbs_int, gMin_int, gMax_int, gInt_int, gTuple_lst, gTuple_tup, gList_lst, gList_tup, gSum_ints, gAll_bools, gAny_bools, vIxV_eq, ixK_some, ixK2_some, slotD_val, slotD_own, vLenV_eq, lenK_some, tTruV_eq, truK_some, tTru_eq, truD_bool, truD_int, truD_tup, truD_lst, truD_none, vApp_eq, appK_some, appK2_some, ownOf_own, thenK_ok, thenS_eq, sSetIx_eq, setIxK_some, setIxK2_some, setIxK3_some, sSeq_eq, seqK_nx, seqK_rt, seqK_bk, seqK_ct, sNext_eq, sBreak_eq, sCont_eq, sRet_eq, sRetN_eq, sExpr_eq, sSet_eq, sIf_eq, asgK_some, sAsg_eq, gNm_eq, gTp_tup, gAll2_nil, gAll2_cons, bNil_eq, bCons_eq, parK_two, sPar_eq, iSeq_eq, seqOf_tup, seqOf_lst, iRg_eq, vCallP_eq, callK_ret, vCallR_eq, callRK_ret, rNil_eq, rCons_eq, argOf_val, argOf_own, argOf_root, oNone_eq, oSome_eq, intOf_int, vSlice_eq, gSl_tup, gSl_lst, wipe_nil, wipe_cons, outP_val, outP_own, outP_ownT, outP_nx, outR_rt, outR_nx, vNewT_eq, vDisp1_eq, vTake_eq, takeK_some, ownTOf_own, iItemsT_eq, dictOf_own, sPutT_eq, putK1_some, putK2_some, vGetT_eq, getK1_some, getK2_some, keyOf_ints, forK_some, forK2_nx, forK2_ct, forK2_bk, forK2_rt, lcK_ok, dcK_ok, ttYes_eq, lcK3_some, dcK3_some, dcK4_some, vDrGet_eq, drgK_true, isRoot_root, vDrLen_eq, drlK_true, vDrCell_eq, drcK_true, drc2_int, drc3_some, sDrPut_eq, drpK_int, vPop_eq, popK_some, popK2_some, iKeysT_eq, gIsN_of, gNotN_of, isNone_none, isNone_int, isNone_tup, isT_bool_none, isT_int_none, forL_dr, str_ne, List.getElem?_cons_zero, List.getElem?_cons_succ, List.set_cons_zero, List.set_cons_succ, Option.map_some, Option.bind_some, if_true, if_false, ite_true, ite_false, iteM, iteMS, Bool.false_eq_true, small_eq, List.length_cons, List.length_nil, decide_eq_true_eq, eq_self, decide_true, Int.toNat_natCast, Nat.reduceLeDiff, Nat.reduceAdd, Nat.reduceMul, Nat.zero_le, Nat.zero_add, ne_empty]
      rfl
    | cons a p =>
      refine .inr ⟨encI (a :: p, n), [.val (dW w), .val (.int most), .val (dW (a :: p)), .val (.int n)], [.val (dW w), .val (.int most), .val (dW (a :: p)), .val (.int n)], rfl, ?_, ?_, rfl⟩
      · simp only [bnd_eq, bind_ok, ret_eq, ofO_some, toD_eq, frz_val, frz_own, toB_eq, boolOf_b, vVar_eq, varK_val, varK_root, varK_own, vBin_eq, vUn_eq, vAnd_eq, vOr_eq, vNot_eq, tAnd_eq, tOr_eq, tNot_eq, vIfE_eq, aNil_eq, aCons_eq, vTup_eq, vLst_eq, vCB_eq, chain_eq, vIsi_eq, vIsi2_eq, noDict_int, noDict_tuple, noDict_list, noDict_none, noDict_bool, noDict_str, isT_int_int, isT_bool_int, isT_tuple_tuple, isT_tuple_int, isT_int_tuple, gAdd_int, gAdd_tup, gAdd_lst, gSub_int, gMul_int, gMul_tup, gMul_lst, gMod_int, gDiv_int, gPow_int, gLt_int, gLe_int, gGt_int, gGe_int, gEq_int, gNe_int, gNeg_int, gRev_tup, gIx_tup, gIx_lst, gLen_tup, gLen_lst, gAbs_int, gMin_int, gMax_int, gInt_int, gTuple_lst, gTuple_tup, gList_lst, gList_tup, gSum_ints, gAll_bools, gAny_bools, vIxV_eq, ixK_some, ixK2_some, slotD_val, slotD_own, vLenV_eq, lenK_some, tTruV_eq, truK_some, tTru_eq, truD_bool, truD_int, truD_tup, truD_lst, truD_none, vApp_eq, appK_some, appK2_some, ownOf_own, thenK_ok, thenS_eq, sSetIx_eq, setIxK_some, setIxK2_some, setIxK3_some, sSeq_eq, seqK_nx, seqK_rt, seqK_bk, seqK_ct, sNext_eq, sBreak_eq, sCont_eq, sRet_eq, sRetN_eq, sExpr_eq, sSet_eq, sIf_eq, asgK_some, sAsg_eq, gNm_eq, gTp_tup, gAll2_nil, gAll2_cons, bNil_eq, bCons_eq, parK_two, sPar_eq, iSeq_eq, seqOf_tup, seqOf_lst, iRg_eq, vCallP_eq, callK_ret, vCallR_eq, callRK_ret, rNil_eq, rCons_eq, argOf_val, argOf_own, argOf_root, oNone_eq, oSome_eq, intOf_int, vSlice_eq, gSl_tup, gSl_lst, wipe_nil, wipe_cons, outP_val, outP_own, outP_ownT, outP_nx, outR_rt, outR_nx, vNewT_eq, vDisp1_eq, vTake_eq, takeK_some, ownTOf_own, iItemsT_eq, dictOf_own, sPutT_eq, putK1_some, putK2_some, vGetT_eq, getK1_some, getK2_some, keyOf_ints, forK_some, forK2_nx, forK2_ct, forK2_bk, forK2_rt, lcK_ok, dcK_ok, ttYes_eq, lcK3_some, dcK3_some, dcK4_some, vDrGet_eq, drgK_true, isRoot_root, vDrLen_eq, drlK_true, vDrCell_eq, drcK_true, drc2_int, drc3_some, sDrPut_eq, drpK_int, vPop_eq, popK_some, popK2_some, iKeysT_eq, gIsN_of, gNotN_of, isNone_none, isNone_int, isNone_tup, isT_bool_none, isT_int_none, forL_dr, str_ne, List.getElem?_cons_zero, List.getElem?_cons_succ, List.set_cons_zero, List.set_cons_succ, Option.map_some, Option.bind_some, if_true, if_false, ite_true, ite_false, iteM, iteMS, Bool.false_eq_true, small_eq, List.length_cons, List.length_nil, decide_eq_true_eq, eq_self, decide_true, Int.toNat_natCast, Nat.reduceLeDiff, Nat.reduceAdd, Nat.reduceMul, Nat.zero_le, Nat.zero_add, ne_empty]
        rfl
      · simp only [bnd_eq, bind_ok, ret_eq, ofO_some, toD_eq, frz_val, frz_own, toB_eq, boolOf_b, vVar_eq, varK_val, varK_root, varK_own, vBin_eq, vUn_eq, vAnd_eq, vOr_eq, vNot_eq, tAnd_eq, tOr_eq, tNot_eq, vIfE_eq, aNil_eq, aCons_eq, vTup_eq, vLst_eq, vCB_eq, chain_eq, vIsi_eq, vIsi2_eq, noDict_int, noDict_tuple, noDict_list, noDict_none, noDict_bool, noDict_str, isT_int_int, isT_bool_int, isT_tuple_tuple, isT_tuple_int, isT_int_tuple, gAdd_int, gAdd_tup, gAdd_lst, gSub_int, gMul_int, gMul_tup, gMul_lst, gMod_int, gDiv_int, gPow_int, gLt_int, gLe_int, gGt_int, gGe_int, gEq_int, gNe_int, gNeg_int, gRev_tup, gIx_tup, gIx_lst, gLen_tup, gLen_lst, gAbs_int, gMin_int, gMax_int, gInt_int, gTuple_lst, gTuple_tup, gList_lst, gList_tup, gSum_ints, gAll_bools, gAny_bools, vIxV_eq, ixK_some, ixK2_some, slotD_val, slotD_own, vLenV_eq, lenK_some, tTruV_eq, truK_some, tTru_eq, truD_bool, truD_int, truD_tup, truD_lst, truD_none, vApp_eq, appK_some, appK2_some, ownOf_own, thenK_ok, thenS_eq, sSetIx_eq, setIxK_some, setIxK2_some, setIxK3_some, sSeq_eq, seqK_nx, seqK_rt, seqK_bk, seqK_ct, sNext_eq, sBreak_eq, sCont_eq, sRet_eq, sRetN_eq, sExpr_eq, sSet_eq, sIf_eq, asgK_some, sAsg_eq, gNm_eq, gTp_tup, gAll2_nil, gAll2_cons, bNil_eq, bCons_eq, parK_two, sPar_eq, iSeq_eq, seqOf_tup, seqOf_lst, iRg_eq, vCallP_eq, callK_ret, vCallR_eq, callRK_ret, rNil_eq, rCons_eq, argOf_val, argOf_own, argOf_root, oNone_eq, oSome_eq, intOf_int, vSlice_eq, gSl_tup, gSl_lst, wipe_nil, wipe_cons, outP_val, outP_own, outP_ownT, outP_nx, outR_rt, outR_nx, vNewT_eq, vDisp1_eq, vTake_eq, takeK_some, ownTOf_own, iItemsT_eq, dictOf_own, sPutT_eq, putK1_some, putK2_some, vGetT_eq, getK1_some, getK2_some, keyOf_ints, forK_some, forK2_nx, forK2_ct, forK2_bk, forK2_rt, lcK_ok, dcK_ok, ttYes_eq, lcK3_some, dcK3_some, dcK4_some, vDrGet_eq, drgK_true, isRoot_root, vDrLen_eq, drlK_true, vDrCell_eq, drcK_true, drc2_int, drc3_some, sDrPut_eq, drpK_int, vPop_eq, popK_some, popK2_some, iKeysT_eq, gIsN_of, gNotN_of, isNone_none, isNone_int, isNone_tup, isT_bool_none, isT_int_none, forL_dr, str_ne, List.getElem?_cons_zero, List.getElem?_cons_succ, List.set_cons_zero, List.set_cons_succ, Option.map_some, Option.bind_some, if_true, if_false, ite_true, ite_false, iteM, iteMS, Bool.false_eq_true, small_eq, List.length_cons, List.length_nil, decide_eq_true_eq, eq_self, decide_true, Int.toNat_natCast, Nat.reduceLeDiff, Nat.reduceAdd, Nat.reduceMul, Nat.zero_le, Nat.zero_add]
        rfl
  · rw [List.length_map]; omega
  · intro i hi s hs
    have : i = 2 ∨ i = 3 := by simpa using hi
    rcases this with rfl | rfl
    · obtain rfl : Slot.emp = s := by simpa using hs
      rfl
    · obtain rfl : Slot.emp = s := by simpa using hs
      rfl
theorem alike_enc (x y : List Int × Int) : PySem.W.alike (encI x) (encI y) = true := by
  unfold encI
  rw [PySem.W.alike, PySem.W.alikeAll, alike_list, PySem.W.alikeAll]
  rfl
theorem enc_lay (x : List Int × Int) : (encI x).canLay0 = true := by
  unfold encI
  rw [PyData.canLay0]
  refine canLay_all _ fun d hd => ?_
  simp only [List.mem_cons, List.not_mem_nil, or_false] at hd
  rcases hd with rfl | rfl
  · rw [PyData.canLay0]
    exact canLay_all _ fun d hd => by
      obtain ⟨n, _, rfl⟩ := List.mem_map.mp hd
      rfl
  · rfl
theorem enc_depth (x : List Int × Int) : (encI x).depth ≤ 2 := by
  unfold encI
  rw [PyData.depth]
  have := depth_all (n := 1) [dW x.1, .int x.2] fun d hd => by
    simp only [List.mem_cons, List.not_mem_nil, or_false] at hd
    rcases hd with rfl | rfl
    · rw [PyData.depth, PySem.W.depth_ints]
      omega
    · exact Nat.zero_le _
  omega
theorem sort_ok {L : Tb} (hl : L.length ≤ 1000000) : gSorted [.list (L.map encI)] = some (.own (sortD (L.map encI))) := by
  show (if sortB (L.map encI) = true then _ else _) = _
  rw [if_pos]
  unfold sortB
  simp only [Bool.and_eq_true, Bool.or_eq_true, decide_eq_true_eq, List.all_eq_true]
  refine ⟨by rw [List.length_map]; exact hl, fun d hd d' hd' => ?_, .inl fun d hd => ?_, fun d hd => ?_, fun d hd => ?_⟩
  · obtain ⟨x, _, rfl⟩ := List.mem_map.mp hd
    obtain ⟨y, _, rfl⟩ := List.mem_map.mp hd'
    exact alike_enc x y
  · obtain ⟨x, _, rfl⟩ := List.mem_map.mp hd
    rfl
  · obtain ⟨x, _, rfl⟩ := List.mem_map.mp hd
    have := enc_depth x
    omega
  · obtain ⟨x, _, rfl⟩ := List.mem_map.mp hd
    exact enc_lay x
theorem told_len {most : Nat} (hm : most ≤ 4) {w : List Int} (hw : WordOk w) : (toldL most w).length ≤ 121 := Nat.le_trans (List.length_filter_le _ _) (tb_len hm (expT_ok most hw))
theorem expansion_ok (most : Nat) (h1 : 1 ≤ most) (hm : most ≤ 4) {w : List Int} (hw : WordOk w) (hl : w.length ≤ 1000) : m_expansion [dW w, .int most] = .ret (.val (.tuple (sortD ((toldL most w).map encI)))) := by
  have e1 := check_word_ok hw hl
  have e2 := check_between_ok most 1 4 (by omega) (by omega)
  have e3 := told_val most hm hw
  have e4 := sort_ok (L := toldL most w) (by have := told_len hm hw; omega)
  unfold m_expansion
  show outP (c_expansion [.val (dW w), .val (.int most), .emp, .emp] ()) = _
  unfold c_expansion
  simp only [bnd_eq, bind_ok, ret_eq, ofO_some, toD_eq, frz_val, frz_own, toB_eq, boolOf_b, vVar_eq, varK_val, varK_root, varK_own, vBin_eq, vUn_eq, vAnd_eq, vOr_eq, vNot_eq, tAnd_eq, tOr_eq, tNot_eq, vIfE_eq, aNil_eq, aCons_eq, vTup_eq, vLst_eq, vCB_eq, chain_eq, vIsi_eq, vIsi2_eq, noDict_int, noDict_tuple, noDict_list, noDict_none, noDict_bool, noDict_str, isT_int_int, isT_bool_int, isT_tuple_tuple, isT_tuple_int, isT_int_tuple, gAdd_int, gAdd_tup, gAdd_lst, gSub_int, gMul_int, gMul_tup, gMul_lst, gMod_int, gDiv_int, gPow_int, gLt_int, gLe_int, gGt_int, gGe_int, gEq_int, gNe_int, gNeg_int, gRev_tup, gIx_tup, gIx_lst, gLen_tup, gLen_lst, gAbs_int, gMin_int, gMax_int, gInt_int, gTuple_lst, gTuple_tup, gList_lst, gList_tup, gSum_ints, gAll_bools, gAny_bools, vIxV_eq, ixK_some, ixK2_some, slotD_val, slotD_own, vLenV_eq, lenK_some, tTruV_eq, truK_some, tTru_eq, truD_bool, truD_int, truD_tup, truD_lst, truD_none, vApp_eq, appK_some, appK2_some, ownOf_own, thenK_ok, thenS_eq, sSetIx_eq, setIxK_some, setIxK2_some, setIxK3_some, sSeq_eq, seqK_nx, seqK_rt, seqK_bk, seqK_ct, sNext_eq, sBreak_eq, sCont_eq, sRet_eq, sRetN_eq, sExpr_eq, sSet_eq, sIf_eq, asgK_some, sAsg_eq, gNm_eq, gTp_tup, gAll2_nil, gAll2_cons, bNil_eq, bCons_eq, parK_two, sPar_eq, iSeq_eq, seqOf_tup, seqOf_lst, iRg_eq, vCallP_eq, callK_ret, vCallR_eq, callRK_ret, rNil_eq, rCons_eq, argOf_val, argOf_own, argOf_root, oNone_eq, oSome_eq, intOf_int, vSlice_eq, gSl_tup, gSl_lst, wipe_nil, wipe_cons, outP_val, outP_own, outP_ownT, outP_nx, outR_rt, outR_nx, vNewT_eq, vDisp1_eq, vTake_eq, takeK_some, ownTOf_own, iItemsT_eq, dictOf_own, sPutT_eq, putK1_some, putK2_some, vGetT_eq, getK1_some, getK2_some, keyOf_ints, forK_some, forK2_nx, forK2_ct, forK2_bk, forK2_rt, lcK_ok, dcK_ok, ttYes_eq, lcK3_some, dcK3_some, dcK4_some, vDrGet_eq, drgK_true, isRoot_root, vDrLen_eq, drlK_true, vDrCell_eq, drcK_true, drc2_int, drc3_some, sDrPut_eq, drpK_int, vPop_eq, popK_some, popK2_some, iKeysT_eq, gIsN_of, gNotN_of, isNone_none, isNone_int, isNone_tup, isT_bool_none, isT_int_none, forL_dr, str_ne, List.getElem?_cons_zero, List.getElem?_cons_succ, List.set_cons_zero, List.set_cons_succ, Option.map_some, Option.bind_some, if_true, if_false, ite_true, ite_false, iteM, iteMS, Bool.false_eq_true, small_eq, List.length_cons, List.length_nil, decide_eq_true_eq, eq_self, decide_true, Int.toNat_natCast, Nat.reduceLeDiff, Nat.reduceAdd, Nat.reduceMul, Nat.zero_le, Nat.zero_add, e1, e2, e3, e4]
end L2.VL.K77

namespace L2.VL.K77
open PySem PySem.Spec PyProof.Rows
/-! ### words -/
def neg (w : List Int) : List Int := w.reverse.map fun l => -l
theorem back_ok (w : List Int) (hl : w.length ≤ 1000) : m__law_back [dW w] = .ret (.val (dW (neg w))) := by
  have e1 : vLc [1] (iSeq (vUn gRev (vVar 0))) (gNm 1) ttYes (vUn gNeg (vVar 1)) [Slot.val (dW w), .emp] () = .ok (.own (dI (neg w))) [Slot.val (dW w), .emp] () := by
    rw [vLc_map (ds := (dI w).reverse) (ρ1 := [Slot.val (dW w), .emp]) (fun d => match d with | .int a => .int (-a) | _ => .none)]
    · unfold neg dI
      rw [← List.map_reverse, List.map_map, List.map_map]
      rfl
    · simp only [bnd_eq, bind_ok, ret_eq, ofO_some, toD_eq, frz_val, frz_own, toB_eq, boolOf_b, vVar_eq, varK_val, varK_root, varK_own, vBin_eq, vUn_eq, vAnd_eq, vOr_eq, vNot_eq, tAnd_eq, tOr_eq, tNot_eq, vIfE_eq, aNil_eq, aCons_eq, vTup_eq, vLst_eq, vCB_eq, chain_eq, vIsi_eq, vIsi2_eq, noDict_int, noDict_tuple, noDict_list, noDict_none, noDict_bool, noDict_str, isT_int_int, isT_bool_int, isT_tuple_tuple, isT_tuple_int, isT_int_tuple, gAdd_int, gAdd_tup, gAdd_lst, gSub_int, gMul_int, gMul_tup, gMul_lst, gMod_int, gDiv_int, gPow_int, gLt_int, gLe_int, gGt_int, gGe_int, gEq_int, gNe_int, gNeg_int, gRev_tup, gIx_tup, gIx_lst, gLen_tup, gLen_lst, gAbs_int, gMin_int, gMax_int, gInt_int, gTuple_lst, gTuple_tup, gList_lst, gList_tup, gSum_ints, gAll_bools, gAny_bools, vIxV_eq, ixK_some, ixK2_some, slotD_val, slotD_own, vLenV_eq, lenK_some, tTruV_eq, truK_some, tTru_eq, truD_bool, truD_int, truD_tup, truD_lst, truD_none, vApp_eq, appK_some, appK2_some, ownOf_own, thenK_ok, thenS_eq, sSetIx_eq, setIxK_some, setIxK2_some, setIxK3_some, sSeq_eq, seqK_nx, seqK_rt, seqK_bk, seqK_ct, sNext_eq, sBreak_eq, sCont_eq, sRet_eq, sRetN_eq, sExpr_eq, sSet_eq, sIf_eq, asgK_some, sAsg_eq, gNm_eq, gTp_tup, gAll2_nil, gAll2_cons, bNil_eq, bCons_eq, parK_two, sPar_eq, iSeq_eq, seqOf_tup, seqOf_lst, iRg_eq, vCallP_eq, callK_ret, vCallR_eq, callRK_ret, rNil_eq, rCons_eq, argOf_val, argOf_own, argOf_root, oNone_eq, oSome_eq, intOf_int, vSlice_eq, gSl_tup, gSl_lst, wipe_nil, wipe_cons, outP_val, outP_own, outP_ownT, outP_nx, outR_rt, outR_nx, vNewT_eq, vDisp1_eq, vTake_eq, takeK_some, ownTOf_own, iItemsT_eq, dictOf_own, sPutT_eq, putK1_some, putK2_some, vGetT_eq, getK1_some, getK2_some, keyOf_ints, forK_some, forK2_nx, forK2_ct, forK2_bk, forK2_rt, lcK_ok, dcK_ok, ttYes_eq, lcK3_some, dcK3_some, dcK4_some, vDrGet_eq, drgK_true, isRoot_root, vDrLen_eq, drlK_true, vDrCell_eq, drcK_true, drc2_int, drc3_some, sDrPut_eq, drpK_int, vPop_eq, popK_some, popK2_some, iKeysT_eq, gIsN_of, gNotN_of, isNone_none, isNone_int, isNone_tup, isT_bool_none, isT_int_none, forL_dr, str_ne, List.getElem?_cons_zero, List.getElem?_cons_succ, List.set_cons_zero, List.set_cons_succ, Option.map_some, Option.bind_some, if_true, if_false, ite_true, ite_false, iteM, iteMS, Bool.false_eq_true, small_eq, List.length_cons, List.length_nil, decide_eq_true_eq, eq_self, decide_true, Int.toNat_natCast, Nat.reduceLeDiff, Nat.reduceAdd, Nat.reduceMul, Nat.zero_le, Nat.zero_add]
    · intro d hd
      rw [List.mem_reverse] at hd
      obtain ⟨n, _, rfl⟩ := List.mem_map.mp hd
      refine ⟨_, [Slot.val (dW w), .val (.int n)], rfl, ?_, rfl⟩
      simp only [bnd_eq, bind_ok, ret_eq, ofO_some, toD_eq, frz_val, frz_own, toB_eq, boolOf_b, vVar_eq, varK_val, varK_root, varK_own, vBin_eq, vUn_eq, vAnd_eq, vOr_eq, vNot_eq, tAnd_eq, tOr_eq, tNot_eq, vIfE_eq, aNil_eq, aCons_eq, vTup_eq, vLst_eq, vCB_eq, chain_eq, vIsi_eq, vIsi2_eq, noDict_int, noDict_tuple, noDict_list, noDict_none, noDict_bool, noDict_str, isT_int_int, isT_bool_int, isT_tuple_tuple, isT_tuple_int, isT_int_tuple, gAdd_int, gAdd_tup, gAdd_lst, gSub_int, gMul_int, gMul_tup, gMul_lst, gMod_int, gDiv_int, gPow_int, gLt_int, gLe_int, gGt_int, gGe_int, gEq_int, gNe_int, gNeg_int, gRev_tup, gIx_tup, gIx_lst, gLen_tup, gLen_lst, gAbs_int, gMin_int, gMax_int, gInt_int, gTuple_lst, gTuple_tup, gList_lst, gList_tup, gSum_ints, gAll_bools, gAny_bools, vIxV_eq, ixK_some, ixK2_some, slotD_val, slotD_own, vLenV_eq, lenK_some, tTruV_eq, truK_some, tTru_eq, truD_bool, truD_int, truD_tup, truD_lst, truD_none, vApp_eq, appK_some, appK2_some, ownOf_own, thenK_ok, thenS_eq, sSetIx_eq, setIxK_some, setIxK2_some, setIxK3_some, sSeq_eq, seqK_nx, seqK_rt, seqK_bk, seqK_ct, sNext_eq, sBreak_eq, sCont_eq, sRet_eq, sRetN_eq, sExpr_eq, sSet_eq, sIf_eq, asgK_some, sAsg_eq, gNm_eq, gTp_tup, gAll2_nil, gAll2_cons, bNil_eq, bCons_eq, parK_two, sPar_eq, iSeq_eq, seqOf_tup, seqOf_lst, iRg_eq, vCallP_eq, callK_ret, vCallR_eq, callRK_ret, rNil_eq, rCons_eq, argOf_val, argOf_own, argOf_root, oNone_eq, oSome_eq, intOf_int, vSlice_eq, gSl_tup, gSl_lst, wipe_nil, wipe_cons, outP_val, outP_own, outP_ownT, outP_nx, outR_rt, outR_nx, vNewT_eq, vDisp1_eq, vTake_eq, takeK_some, ownTOf_own, iItemsT_eq, dictOf_own, sPutT_eq, putK1_some, putK2_some, vGetT_eq, getK1_some, getK2_some, keyOf_ints, forK_some, forK2_nx, forK2_ct, forK2_bk, forK2_rt, lcK_ok, dcK_ok, ttYes_eq, lcK3_some, dcK3_some, dcK4_some, vDrGet_eq, drgK_true, isRoot_root, vDrLen_eq, drlK_true, vDrCell_eq, drcK_true, drc2_int, drc3_some, sDrPut_eq, drpK_int, vPop_eq, popK_some, popK2_some, iKeysT_eq, gIsN_of, gNotN_of, isNone_none, isNone_int, isNone_tup, isT_bool_none, isT_int_none, forL_dr, str_ne, List.getElem?_cons_zero, List.getElem?_cons_succ, List.set_cons_zero, List.set_cons_succ, Option.map_some, Option.bind_some, if_true, if_false, ite_true, ite_false, iteM, iteMS, Bool.false_eq_true, small_eq, List.length_cons, List.length_nil, decide_eq_true_eq, eq_self, decide_true, Int.toNat_natCast, Nat.reduceLeDiff, Nat.reduceAdd, Nat.reduceMul, Nat.zero_le, Nat.zero_add]
    · rw [List.length_reverse, len_dI]; omega
    · intro i hi s hs
      obtain rfl : i = 1 := by simpa using hi
      obtain rfl : Slot.emp = s := by simpa using hs
      rfl
  unfold m__law_back
  show outP (c__law_back [Slot.val (dW w), .emp] ()) = _
  unfold c__law_back
  simp only [bnd_eq, bind_ok, ret_eq, ofO_some, toD_eq, frz_val, frz_own, toB_eq, boolOf_b, vVar_eq, varK_val, varK_root, varK_own, vBin_eq, vUn_eq, vAnd_eq, vOr_eq, vNot_eq, tAnd_eq, tOr_eq, tNot_eq, vIfE_eq, aNil_eq, aCons_eq, vTup_eq, vLst_eq, vCB_eq, chain_eq, vIsi_eq, vIsi2_eq, noDict_int, noDict_tuple, noDict_list, noDict_none, noDict_bool, noDict_str, isT_int_int, isT_bool_int, isT_tuple_tuple, isT_tuple_int, isT_int_tuple, gAdd_int, gAdd_tup, gAdd_lst, gSub_int, gMul_int, gMul_tup, gMul_lst, gMod_int, gDiv_int, gPow_int, gLt_int, gLe_int, gGt_int, gGe_int, gEq_int, gNe_int, gNeg_int, gRev_tup, gIx_tup, gIx_lst, gLen_tup, gLen_lst, gAbs_int, gMin_int, gMax_int, gInt_int, gTuple_lst, gTuple_tup, gList_lst, gList_tup, gSum_ints, gAll_bools, gAny_bools, vIxV_eq, ixK_some, ixK2_some, slotD_val, slotD_own, vLenV_eq, lenK_some, tTruV_eq, truK_some, tTru_eq, truD_bool, truD_int, truD_tup, truD_lst, truD_none, vApp_eq, appK_some, appK2_some, ownOf_own, thenK_ok, thenS_eq, sSetIx_eq, setIxK_some, setIxK2_some, setIxK3_some, sSeq_eq, seqK_nx, seqK_rt, seqK_bk, seqK_ct, sNext_eq, sBreak_eq, sCont_eq, sRet_eq, sRetN_eq, sExpr_eq, sSet_eq, sIf_eq, asgK_some, sAsg_eq, gNm_eq, gTp_tup, gAll2_nil, gAll2_cons, bNil_eq, bCons_eq, parK_two, sPar_eq, iSeq_eq, seqOf_tup, seqOf_lst, iRg_eq, vCallP_eq, callK_ret, vCallR_eq, callRK_ret, rNil_eq, rCons_eq, argOf_val, argOf_own, argOf_root, oNone_eq, oSome_eq, intOf_int, vSlice_eq, gSl_tup, gSl_lst, wipe_nil, wipe_cons, outP_val, outP_own, outP_ownT, outP_nx, outR_rt, outR_nx, vNewT_eq, vDisp1_eq, vTake_eq, takeK_some, ownTOf_own, iItemsT_eq, dictOf_own, sPutT_eq, putK1_some, putK2_some, vGetT_eq, getK1_some, getK2_some, keyOf_ints, forK_some, forK2_nx, forK2_ct, forK2_bk, forK2_rt, lcK_ok, dcK_ok, ttYes_eq, lcK3_some, dcK3_some, dcK4_some, vDrGet_eq, drgK_true, isRoot_root, vDrLen_eq, drlK_true, vDrCell_eq, drcK_true, drc2_int, drc3_some, sDrPut_eq, drpK_int, vPop_eq, popK_some, popK2_some, iKeysT_eq, gIsN_of, gNotN_of, isNone_none, isNone_int, isNone_tup, isT_bool_none, isT_int_none, forL_dr, str_ne, List.getElem?_cons_zero, List.getElem?_cons_succ, List.set_cons_zero, List.set_cons_succ, Option.map_some, Option.bind_some, if_true, if_false, ite_true, ite_false, iteM, iteMS, Bool.false_eq_true, small_eq, List.length_cons, List.length_nil, decide_eq_true_eq, eq_self, decide_true, Int.toNat_natCast, Nat.reduceLeDiff, Nat.reduceAdd, Nat.reduceMul, Nat.zero_le, Nat.zero_add, e1]
theorem add_W (a b : List Int) (h : a.length + b.length ≤ 1000000) : gAdd (dW a) (dW b) = some (.val (dW (a ++ b))) := by
  show gAdd (.tuple (dI a)) (.tuple (dI b)) = _
  rw [gAdd_tup, if_pos (by rw [len_dI, len_dI]; exact h), dI_app]
theorem len_neg (w : List Int) : (neg w).length = w.length := by unfold neg; simp
theorem neg_ok {w : List Int} (h : WordOk w) : WordOk (neg w) := fun l hl => by
  unfold neg at hl
  obtain ⟨x, hx, rfl⟩ := List.mem_map.mp hl
  have := h x (List.mem_reverse.mp hx)
  omega
theorem commuted_ok (a b : List Int) (ha : a.length ≤ 1000) (hb : b.length ≤ 1000) : m__law_commuted [dW a, dW b] = .ret (.val (dW (neg a ++ neg b ++ a ++ b))) := by
  have e1 := back_ok a ha
  have e2 := back_ok b hb
  have a1 := add_W (neg a) (neg b) (by rw [len_neg, len_neg]; omega)
  have a2 := add_W (neg a ++ neg b) a (by rw [List.length_append, len_neg, len_neg]; omega)
  have a3 := add_W (neg a ++ neg b ++ a) b (by rw [List.length_append, List.length_append, len_neg, len_neg]; omega)
  unfold m__law_commuted
  show outP (c__law_commuted [Slot.val (dW a), .val (dW b)] ()) = _
  unfold c__law_commuted
  simp only [bnd_eq, bind_ok, ret_eq, ofO_some, toD_eq, frz_val, frz_own, toB_eq, boolOf_b, vVar_eq, varK_val, varK_root, varK_own, vBin_eq, vUn_eq, vAnd_eq, vOr_eq, vNot_eq, tAnd_eq, tOr_eq, tNot_eq, vIfE_eq, aNil_eq, aCons_eq, vTup_eq, vLst_eq, vCB_eq, chain_eq, vIsi_eq, vIsi2_eq, noDict_int, noDict_tuple, noDict_list, noDict_none, noDict_bool, noDict_str, isT_int_int, isT_bool_int, isT_tuple_tuple, isT_tuple_int, isT_int_tuple, gAdd_int, gAdd_tup, gAdd_lst, gSub_int, gMul_int, gMul_tup, gMul_lst, gMod_int, gDiv_int, gPow_int, gLt_int, gLe_int, gGt_int, gGe_int, gEq_int, gNe_int, gNeg_int, gRev_tup, gIx_tup, gIx_lst, gLen_tup, gLen_lst, gAbs_int, gMin_int, gMax_int, gInt_int, gTuple_lst, gTuple_tup, gList_lst, gList_tup, gSum_ints, gAll_bools, gAny_bools, vIxV_eq, ixK_some, ixK2_some, slotD_val, slotD_own, vLenV_eq, lenK_some, tTruV_eq, truK_some, tTru_eq, truD_bool, truD_int, truD_tup, truD_lst, truD_none, vApp_eq, appK_some, appK2_some, ownOf_own, thenK_ok, thenS_eq, sSetIx_eq, setIxK_some, setIxK2_some, setIxK3_some, sSeq_eq, seqK_nx, seqK_rt, seqK_bk, seqK_ct, sNext_eq, sBreak_eq, sCont_eq, sRet_eq, sRetN_eq, sExpr_eq, sSet_eq, sIf_eq, asgK_some, sAsg_eq, gNm_eq, gTp_tup, gAll2_nil, gAll2_cons, bNil_eq, bCons_eq, parK_two, sPar_eq, iSeq_eq, seqOf_tup, seqOf_lst, iRg_eq, vCallP_eq, callK_ret, vCallR_eq, callRK_ret, rNil_eq, rCons_eq, argOf_val, argOf_own, argOf_root, oNone_eq, oSome_eq, intOf_int, vSlice_eq, gSl_tup, gSl_lst, wipe_nil, wipe_cons, outP_val, outP_own, outP_ownT, outP_nx, outR_rt, outR_nx, vNewT_eq, vDisp1_eq, vTake_eq, takeK_some, ownTOf_own, iItemsT_eq, dictOf_own, sPutT_eq, putK1_some, putK2_some, vGetT_eq, getK1_some, getK2_some, keyOf_ints, forK_some, forK2_nx, forK2_ct, forK2_bk, forK2_rt, lcK_ok, dcK_ok, ttYes_eq, lcK3_some, dcK3_some, dcK4_some, vDrGet_eq, drgK_true, isRoot_root, vDrLen_eq, drlK_true, vDrCell_eq, drcK_true, drc2_int, drc3_some, sDrPut_eq, drpK_int, vPop_eq, popK_some, popK2_some, iKeysT_eq, gIsN_of, gNotN_of, isNone_none, isNone_int, isNone_tup, isT_bool_none, isT_int_none, forL_dr, str_ne, List.getElem?_cons_zero, List.getElem?_cons_succ, List.set_cons_zero, List.set_cons_succ, Option.map_some, Option.bind_some, if_true, if_false, ite_true, ite_false, iteM, iteMS, Bool.false_eq_true, small_eq, List.length_cons, List.length_nil, decide_eq_true_eq, eq_self, decide_true, Int.toNat_natCast, Nat.reduceLeDiff, Nat.reduceAdd, Nat.reduceMul, Nat.zero_le, Nat.zero_add, e1, e2, a1, a2, a3]
theorem draw_ok (many : Int) (d : Dr) (h0 : DrOk d) (hm : 0 < many) (hb : many < 1000000) : ∃ n d', m__law_draw [.root, .val (.int many)] d = .ret (.val (.int n)) d' ∧ 0 ≤ n ∧ n < many ∧ DrOk d' := draw_val many d h0 hm hb
theorem letters_at {n : Int} (h0 : 0 ≤ n) (h1 : n < 6) : ∃ l : Int, gIx (.list [.int 1, .int (-1), .int 2, .int (-2), .int 3, .int (-3)]) (.int n) = some (.val (.int l)) ∧ -3 ≤ l ∧ l ≤ 3 ∧ l ≠ 0 := by
  have : n = 0 ∨ n = 1 ∨ n = 2 ∨ n = 3 ∨ n = 4 ∨ n = 5 := by omega
  rcases this with rfl | rfl | rfl | rfl | rfl | rfl
  · exact ⟨1, rfl, by decide⟩
  · exact ⟨-1, rfl, by decide⟩
  · exact ⟨2, rfl, by decide⟩
  · exact ⟨-2, rfl, by decide⟩
  · exact ⟨3, rfl, by decide⟩
  · exact ⟨-3, rfl, by decide⟩
abbrev L6 : List D := [.int 1, .int (-1), .int 2, .int (-2), .int 3, .int (-3)]
theorem word_loop (most : D) : ∀ (ds : List D) (acc : List Int) (s3 : Slot) (d : Dr), DrOk d → acc.length + ds.length ≤ 1000 →
    ∃ w s3' d', lcL [3] (gNm 3) ttYes (vIxV 2 (vCallR m__law_draw (rCons (vVar 0) (rCons (ret (.val (.int 6))) rNil)))) ds (dI acc) [.root, .val most, .own L6, s3] d = .ok (dI (acc ++ w)) [.root, .val most, .own L6, s3'] d' ∧ w.length = ds.length ∧ WordOk w ∧ DrOk d'
  | [], acc, s3, d, h0, _ => ⟨[], s3, d, by rw [lcL_nil, List.append_nil], rfl, fun l hl => absurd hl (by simp), h0⟩
  | x :: ds, acc, s3, d, h0, hl => by
    obtain ⟨n, d1, e1, n0, n1, h1⟩ := draw_ok 6 d h0 (by decide) (by decide)
    obtain ⟨l, e2, l1, l2, l3⟩ := letters_at n0 n1
    rw [List.length_cons] at hl
    obtain ⟨w, s3', d', e3, e4, e5, e6⟩ := word_loop most ds (acc ++ [l]) (.val x) d1 h1 (by rw [List.length_append, List.length_singleton]; omega)
    refine ⟨l :: w, s3', d', ?_, by rw [List.length_cons, List.length_cons, e4], fun y hy => ?_, e6⟩
    · have hlt : (dI acc).length < 1000000 := by rw [len_dI]; omega
      have ea : acc ++ l :: w = (acc ++ [l]) ++ w := by simp
      have eb : dI acc ++ [PyData.int l] = dI (acc ++ [l]) := dI_app acc [l]
      rw [ea, ← e3, lcL_cons]
      show lcK3 (gNm 3 x [.root, .val most, .own L6, .emp]) _ _ _ _ _ _ _ = _
      simp only [bnd_eq, bind_ok, ret_eq, ofO_some, toD_eq, frz_val, frz_own, toB_eq, boolOf_b, vVar_eq, varK_val, varK_root, varK_own, vBin_eq, vUn_eq, vAnd_eq, vOr_eq, vNot_eq, tAnd_eq, tOr_eq, tNot_eq, vIfE_eq, aNil_eq, aCons_eq, vTup_eq, vLst_eq, vCB_eq, chain_eq, vIsi_eq, vIsi2_eq, noDict_int, noDict_tuple, noDict_list, noDict_none, noDict_bool, noDict_str, isT_int_int, isT_bool_int, isT_tuple_tuple, isT_tuple_int, isT_int_tuple, gAdd_int, gAdd_tup, gAdd_lst, gSub_int, gMul_int, gMul_tup, gMul_lst, gMod_int, gDiv_int, gPow_int, gLt_int, gLe_int, gGt_int, gGe_int, gEq_int, gNe_int, gNeg_int, gRev_tup, gIx_tup, gIx_lst, gLen_tup, gLen_lst, gAbs_int, gMin_int, gMax_int, gInt_int, gTuple_lst, gTuple_tup, gList_lst, gList_tup, gSum_ints, gAll_bools, gAny_bools, vIxV_eq, ixK_some, ixK2_some, slotD_val, slotD_own, vLenV_eq, lenK_some, tTruV_eq, truK_some, tTru_eq, truD_bool, truD_int, truD_tup, truD_lst, truD_none, vApp_eq, appK_some, appK2_some, ownOf_own, thenK_ok, thenS_eq, sSetIx_eq, setIxK_some, setIxK2_some, setIxK3_some, sSeq_eq, seqK_nx, seqK_rt, seqK_bk, seqK_ct, sNext_eq, sBreak_eq, sCont_eq, sRet_eq, sRetN_eq, sExpr_eq, sSet_eq, sIf_eq, asgK_some, sAsg_eq, gNm_eq, gTp_tup, gAll2_nil, gAll2_cons, bNil_eq, bCons_eq, parK_two, sPar_eq, iSeq_eq, seqOf_tup, seqOf_lst, iRg_eq, vCallP_eq, callK_ret, vCallR_eq, callRK_ret, rNil_eq, rCons_eq, argOf_val, argOf_own, argOf_root, oNone_eq, oSome_eq, intOf_int, vSlice_eq, gSl_tup, gSl_lst, wipe_nil, wipe_cons, outP_val, outP_own, outP_ownT, outP_nx, outR_rt, outR_nx, vNewT_eq, vDisp1_eq, vTake_eq, takeK_some, ownTOf_own, iItemsT_eq, dictOf_own, sPutT_eq, putK1_some, putK2_some, vGetT_eq, getK1_some, getK2_some, keyOf_ints, forK_some, forK2_nx, forK2_ct, forK2_bk, forK2_rt, lcK_ok, dcK_ok, ttYes_eq, lcK3_some, dcK3_some, dcK4_some, vDrGet_eq, drgK_true, isRoot_root, vDrLen_eq, drlK_true, vDrCell_eq, drcK_true, drc2_int, drc3_some, sDrPut_eq, drpK_int, vPop_eq, popK_some, popK2_some, iKeysT_eq, gIsN_of, gNotN_of, isNone_none, isNone_int, isNone_tup, isT_bool_none, isT_int_none, forL_dr, str_ne, List.getElem?_cons_zero, List.getElem?_cons_succ, List.set_cons_zero, List.set_cons_succ, Option.map_some, Option.bind_some, if_true, if_false, ite_true, ite_false, iteM, iteMS, Bool.false_eq_true, small_eq, List.length_cons, List.length_nil, decide_eq_true_eq, eq_self, decide_true, Int.toNat_natCast, Nat.reduceLeDiff, Nat.reduceAdd, Nat.reduceMul, Nat.zero_le, Nat.zero_add, lcK3_some, ttYes_eq, e1, e2, hlt, eb]
    · rcases List.mem_cons.mp hy with rfl | z
      · exact ⟨l1, l2, l3⟩
      · exact e5 y z
theorem word_ok (most : Nat) (hm : most ≤ 100) (d : Dr) (h0 : DrOk d) : ∃ w d', m__law_word [.root, .val (.int most)] d = .ret (.val (dW w)) d' ∧ WordOk w ∧ w.length ≤ most ∧ DrOk d' := by
  obtain ⟨n, d1, e1, n0, n1, h1⟩ := draw_ok ((most : Int) + 1) d h0 (by omega) (by omega)
  obtain ⟨k, rfl⟩ : ∃ k : Nat, n = k := ⟨n.toNat, by omega⟩
  have hg := rg1_nat (n := k) (by omega)
  obtain ⟨w, s3', d', e3, e4, e5, e6⟩ := word_loop (.int most) (rangeD 0 k) [] .emp d1 h1 (by rw [rangeD_len]; simp; omega)
  rw [rangeD_len] at e4
  refine ⟨w, d', ?_, e5, by omega, e6⟩
  have eL : vLc [3] (iRg rg1 (aCons (vCallR m__law_draw (rCons (vVar 0) (rCons (vBin gAdd (vVar 1) (ret (.val (.int 1)))) rNil))) aNil)) (gNm 3) ttYes (vIxV 2 (vCallR m__law_draw (rCons (vVar 0) (rCons (ret (.val (.int 6))) rNil)))) [.root, .val (.int most), .own L6, .emp] d =
      .ok (.own (dI w)) [.root, .val (.int most), .own L6, .emp] d' := by
    have e3' : lcL [3] (gNm 3) ttYes (vIxV 2 (vCallR m__law_draw (rCons (vVar 0) (rCons (ret (.val (.int 6))) rNil)))) (rangeD 0 k) [] [.root, .val (.int most), .own L6, .emp] d1 = .ok (dI w) [.root, .val (.int most), .own L6, s3'] d' := e3
    simp only [bnd_eq, bind_ok, ret_eq, ofO_some, toD_eq, frz_val, frz_own, toB_eq, boolOf_b, vVar_eq, varK_val, varK_root, varK_own, vBin_eq, vUn_eq, vAnd_eq, vOr_eq, vNot_eq, tAnd_eq, tOr_eq, tNot_eq, vIfE_eq, aNil_eq, aCons_eq, vTup_eq, vLst_eq, vCB_eq, chain_eq, vIsi_eq, vIsi2_eq, noDict_int, noDict_tuple, noDict_list, noDict_none, noDict_bool, noDict_str, isT_int_int, isT_bool_int, isT_tuple_tuple, isT_tuple_int, isT_int_tuple, gAdd_int, gAdd_tup, gAdd_lst, gSub_int, gMul_int, gMul_tup, gMul_lst, gMod_int, gDiv_int, gPow_int, gLt_int, gLe_int, gGt_int, gGe_int, gEq_int, gNe_int, gNeg_int, gRev_tup, gIx_tup, gIx_lst, gLen_tup, gLen_lst, gAbs_int, gMin_int, gMax_int, gInt_int, gTuple_lst, gTuple_tup, gList_lst, gList_tup, gSum_ints, gAll_bools, gAny_bools, vIxV_eq, ixK_some, ixK2_some, slotD_val, slotD_own, vLenV_eq, lenK_some, tTruV_eq, truK_some, tTru_eq, truD_bool, truD_int, truD_tup, truD_lst, truD_none, vApp_eq, appK_some, appK2_some, ownOf_own, thenK_ok, thenS_eq, sSetIx_eq, setIxK_some, setIxK2_some, setIxK3_some, sSeq_eq, seqK_nx, seqK_rt, seqK_bk, seqK_ct, sNext_eq, sBreak_eq, sCont_eq, sRet_eq, sRetN_eq, sExpr_eq, sSet_eq, sIf_eq, asgK_some, sAsg_eq, gNm_eq, gTp_tup, gAll2_nil, gAll2_cons, bNil_eq, bCons_eq, parK_two, sPar_eq, iSeq_eq, seqOf_tup, seqOf_lst, iRg_eq, vCallP_eq, callK_ret, vCallR_eq, callRK_ret, rNil_eq, rCons_eq, argOf_val, argOf_own, argOf_root, oNone_eq, oSome_eq, intOf_int, vSlice_eq, gSl_tup, gSl_lst, wipe_nil, wipe_cons, outP_val, outP_own, outP_ownT, outP_nx, outR_rt, outR_nx, vNewT_eq, vDisp1_eq, vTake_eq, takeK_some, ownTOf_own, iItemsT_eq, dictOf_own, sPutT_eq, putK1_some, putK2_some, vGetT_eq, getK1_some, getK2_some, keyOf_ints, forK_some, forK2_nx, forK2_ct, forK2_bk, forK2_rt, lcK_ok, dcK_ok, ttYes_eq, lcK3_some, dcK3_some, dcK4_some, vDrGet_eq, drgK_true, isRoot_root, vDrLen_eq, drlK_true, vDrCell_eq, drcK_true, drc2_int, drc3_some, sDrPut_eq, drpK_int, vPop_eq, popK_some, popK2_some, iKeysT_eq, gIsN_of, gNotN_of, isNone_none, isNone_int, isNone_tup, isT_bool_none, isT_int_none, forL_dr, str_ne, List.getElem?_cons_zero, List.getElem?_cons_succ, List.set_cons_zero, List.set_cons_succ, Option.map_some, Option.bind_some, if_true, if_false, ite_true, ite_false, iteM, iteMS, Bool.false_eq_true, small_eq, List.length_cons, List.length_nil, decide_eq_true_eq, eq_self, decide_true, Int.toNat_natCast, Nat.reduceLeDiff, Nat.reduceAdd, Nat.reduceMul, Nat.zero_le, Nat.zero_add, vLc_eq, e1, hg, e3']
    rfl
  unfold m__law_word
  show outR (c__law_word [.root, .val (.int most), .emp, .emp] d) = _
  unfold c__law_word
  simp only [bnd_eq, bind_ok, ret_eq, ofO_some, toD_eq, frz_val, frz_own, toB_eq, boolOf_b, vVar_eq, varK_val, varK_root, varK_own, vBin_eq, vUn_eq, vAnd_eq, vOr_eq, vNot_eq, tAnd_eq, tOr_eq, tNot_eq, vIfE_eq, aNil_eq, aCons_eq, vTup_eq, vLst_eq, vCB_eq, chain_eq, vIsi_eq, vIsi2_eq, noDict_int, noDict_tuple, noDict_list, noDict_none, noDict_bool, noDict_str, isT_int_int, isT_bool_int, isT_tuple_tuple, isT_tuple_int, isT_int_tuple, gAdd_int, gAdd_tup, gAdd_lst, gSub_int, gMul_int, gMul_tup, gMul_lst, gMod_int, gDiv_int, gPow_int, gLt_int, gLe_int, gGt_int, gGe_int, gEq_int, gNe_int, gNeg_int, gRev_tup, gIx_tup, gIx_lst, gLen_tup, gLen_lst, gAbs_int, gMin_int, gMax_int, gInt_int, gTuple_lst, gTuple_tup, gList_lst, gList_tup, gSum_ints, gAll_bools, gAny_bools, vIxV_eq, ixK_some, ixK2_some, slotD_val, slotD_own, vLenV_eq, lenK_some, tTruV_eq, truK_some, tTru_eq, truD_bool, truD_int, truD_tup, truD_lst, truD_none, vApp_eq, appK_some, appK2_some, ownOf_own, thenK_ok, thenS_eq, sSetIx_eq, setIxK_some, setIxK2_some, setIxK3_some, sSeq_eq, seqK_nx, seqK_rt, seqK_bk, seqK_ct, sNext_eq, sBreak_eq, sCont_eq, sRet_eq, sRetN_eq, sExpr_eq, sSet_eq, sIf_eq, asgK_some, sAsg_eq, gNm_eq, gTp_tup, gAll2_nil, gAll2_cons, bNil_eq, bCons_eq, parK_two, sPar_eq, iSeq_eq, seqOf_tup, seqOf_lst, iRg_eq, vCallP_eq, callK_ret, vCallR_eq, callRK_ret, rNil_eq, rCons_eq, argOf_val, argOf_own, argOf_root, oNone_eq, oSome_eq, intOf_int, vSlice_eq, gSl_tup, gSl_lst, wipe_nil, wipe_cons, outP_val, outP_own, outP_ownT, outP_nx, outR_rt, outR_nx, vNewT_eq, vDisp1_eq, vTake_eq, takeK_some, ownTOf_own, iItemsT_eq, dictOf_own, sPutT_eq, putK1_some, putK2_some, vGetT_eq, getK1_some, getK2_some, keyOf_ints, forK_some, forK2_nx, forK2_ct, forK2_bk, forK2_rt, lcK_ok, dcK_ok, ttYes_eq, lcK3_some, dcK3_some, dcK4_some, vDrGet_eq, drgK_true, isRoot_root, vDrLen_eq, drlK_true, vDrCell_eq, drcK_true, drc2_int, drc3_some, sDrPut_eq, drpK_int, vPop_eq, popK_some, popK2_some, iKeysT_eq, gIsN_of, gNotN_of, isNone_none, isNone_int, isNone_tup, isT_bool_none, isT_int_none, forL_dr, str_ne, List.getElem?_cons_zero, List.getElem?_cons_succ, List.set_cons_zero, List.set_cons_succ, Option.map_some, Option.bind_some, if_true, if_false, ite_true, ite_false, iteM, iteMS, Bool.false_eq_true, small_eq, List.length_cons, List.length_nil, decide_eq_true_eq, eq_self, decide_true, Int.toNat_natCast, Nat.reduceLeDiff, Nat.reduceAdd, Nat.reduceMul, Nat.zero_le, Nat.zero_add, eL]
end L2.VL.K77

namespace L2.VL.K77
open PySem PySem.Spec PyProof.Rows
/-! ### leaving out -/
def bLeft : MS Unit := (sIf (tAndM (tTruV 1) (toB (vBin gEq (vIxV 1 (vUn gNeg (ret (.val (.int 1))))) (vUn gNeg (vVar 2)))))
  (sExpr (vPop 1))
  (sExpr (vApp 1 (vVar 2))))
theorem left_eq : c_left_out = (sSeq (sSet 1 (vLst aNil)) (sSeq (sFor [2] (iSeq (vVar 0)) (gNm 2) bLeft) (sRet (vCB gTuple (aCons (vVar 1) aNil))))) := rfl
theorem left_turn (W : D) (K : List Int) (l : Int) (hK : K.length < 1000000) : bLeft [.val W, .own (dI K), .val (.int l)] () = .nx [.val W, .own (dI (redS K l)), .val (.int l)] () := by
  by_cases h0 : K = []
  · subst h0
    unfold bLeft
    simp only [bnd_eq, bind_ok, ret_eq, ofO_some, toD_eq, frz_val, frz_own, toB_eq, boolOf_b, vVar_eq, varK_val, varK_root, varK_own, vBin_eq, vUn_eq, vAnd_eq, vOr_eq, vNot_eq, tAnd_eq, tOr_eq, tNot_eq, vIfE_eq, aNil_eq, aCons_eq, vTup_eq, vLst_eq, vCB_eq, chain_eq, vIsi_eq, vIsi2_eq, noDict_int, noDict_tuple, noDict_list, noDict_none, noDict_bool, noDict_str, isT_int_int, isT_bool_int, isT_tuple_tuple, isT_tuple_int, isT_int_tuple, gAdd_int, gAdd_tup, gAdd_lst, gSub_int, gMul_int, gMul_tup, gMul_lst, gMod_int, gDiv_int, gPow_int, gLt_int, gLe_int, gGt_int, gGe_int, gEq_int, gNe_int, gNeg_int, gRev_tup, gIx_tup, gIx_lst, gLen_tup, gLen_lst, gAbs_int, gMin_int, gMax_int, gInt_int, gTuple_lst, gTuple_tup, gList_lst, gList_tup, gSum_ints, gAll_bools, gAny_bools, vIxV_eq, ixK_some, ixK2_some, slotD_val, slotD_own, vLenV_eq, lenK_some, tTruV_eq, truK_some, tTru_eq, truD_bool, truD_int, truD_tup, truD_lst, truD_none, vApp_eq, appK_some, appK2_some, ownOf_own, thenK_ok, thenS_eq, sSetIx_eq, setIxK_some, setIxK2_some, setIxK3_some, sSeq_eq, seqK_nx, seqK_rt, seqK_bk, seqK_ct, sNext_eq, sBreak_eq, sCont_eq, sRet_eq, sRetN_eq, sExpr_eq, sSet_eq, sIf_eq, asgK_some, sAsg_eq, gNm_eq, gTp_tup, gAll2_nil, gAll2_cons, bNil_eq, bCons_eq, parK_two, sPar_eq, iSeq_eq, seqOf_tup, seqOf_lst, iRg_eq, vCallP_eq, callK_ret, vCallR_eq, callRK_ret, rNil_eq, rCons_eq, argOf_val, argOf_own, argOf_root, oNone_eq, oSome_eq, intOf_int, vSlice_eq, gSl_tup, gSl_lst, wipe_nil, wipe_cons, outP_val, outP_own, outP_ownT, outP_nx, outR_rt, outR_nx, vNewT_eq, vDisp1_eq, vTake_eq, takeK_some, ownTOf_own, iItemsT_eq, dictOf_own, sPutT_eq, putK1_some, putK2_some, vGetT_eq, getK1_some, getK2_some, keyOf_ints, forK_some, forK2_nx, forK2_ct, forK2_bk, forK2_rt, lcK_ok, dcK_ok, ttYes_eq, lcK3_some, dcK3_some, dcK4_some, vDrGet_eq, drgK_true, isRoot_root, vDrLen_eq, drlK_true, vDrCell_eq, drcK_true, drc2_int, drc3_some, sDrPut_eq, drpK_int, vPop_eq, popK_some, popK2_some, iKeysT_eq, gIsN_of, gNotN_of, isNone_none, isNone_int, isNone_tup, isT_bool_none, isT_int_none, forL_dr, str_ne, List.getElem?_cons_zero, List.getElem?_cons_succ, List.set_cons_zero, List.set_cons_succ, Option.map_some, Option.bind_some, if_true, if_false, ite_true, ite_false, iteM, iteMS, Bool.false_eq_true, small_eq, List.length_cons, List.length_nil, decide_eq_true_eq, eq_self, decide_true, Int.toNat_natCast, Nat.reduceLeDiff, Nat.reduceAdd, Nat.reduceMul, Nat.zero_le, Nat.zero_add, dI, List.map_nil, List.isEmpty_nil, Bool.not_true, Nat.reduceLT]
    rfl
  · have hne : dI K ≠ [] := by simpa [dI] using h0
    have hem : (dI K).isEmpty = false := by
      cases K with
      | nil => exact absurd rfl h0
      | cons a K => rfl
    have el : atI (dI K) (-1) = some (.int (K.getLast h0)) := by
      rw [atI_last hne]
      simp [dI, List.getLast_map]
    have hp : 0 < K.length := List.length_pos_iff.mpr h0
    have ep : (dI K)[(dI K).length - 1]? = some (.int (K.getLast h0)) := by
      rw [len_dI, List.getElem?_map, List.getElem?_eq_getElem (by omega), List.getLast_eq_getElem]
      rfl
    have ed : (dI K).dropLast = dI K.dropLast := by simp [dI, List.map_dropLast]
    by_cases hl : K.getLast h0 = -l
    · have er : redS K l = K.dropLast := by
        unfold redS
        rw [if_pos]
        rw [List.getLast?_eq_some_getLast h0, hl]
      rw [er]
      unfold bLeft
      simp only [bnd_eq, bind_ok, ret_eq, ofO_some, toD_eq, frz_val, frz_own, toB_eq, boolOf_b, vVar_eq, varK_val, varK_root, varK_own, vBin_eq, vUn_eq, vAnd_eq, vOr_eq, vNot_eq, tAnd_eq, tOr_eq, tNot_eq, vIfE_eq, aNil_eq, aCons_eq, vTup_eq, vLst_eq, vCB_eq, chain_eq, vIsi_eq, vIsi2_eq, noDict_int, noDict_tuple, noDict_list, noDict_none, noDict_bool, noDict_str, isT_int_int, isT_bool_int, isT_tuple_tuple, isT_tuple_int, isT_int_tuple, gAdd_int, gAdd_tup, gAdd_lst, gSub_int, gMul_int, gMul_tup, gMul_lst, gMod_int, gDiv_int, gPow_int, gLt_int, gLe_int, gGt_int, gGe_int, gEq_int, gNe_int, gNeg_int, gRev_tup, gIx_tup, gIx_lst, gLen_tup, gLen_lst, gAbs_int, gMin_int, gMax_int, gInt_int, gTuple_lst, gTuple_tup, gList_lst, gList_tup, gSum_ints, gAll_bools, gAny_bools, vIxV_eq, ixK_some, ixK2_some, slotD_val, slotD_own, vLenV_eq, lenK_some, tTruV_eq, truK_some, tTru_eq, truD_bool, truD_int, truD_tup, truD_lst, truD_none, vApp_eq, appK_some, appK2_some, ownOf_own, thenK_ok, thenS_eq, sSetIx_eq, setIxK_some, setIxK2_some, setIxK3_some, sSeq_eq, seqK_nx, seqK_rt, seqK_bk, seqK_ct, sNext_eq, sBreak_eq, sCont_eq, sRet_eq, sRetN_eq, sExpr_eq, sSet_eq, sIf_eq, asgK_some, sAsg_eq, gNm_eq, gTp_tup, gAll2_nil, gAll2_cons, bNil_eq, bCons_eq, parK_two, sPar_eq, iSeq_eq, seqOf_tup, seqOf_lst, iRg_eq, vCallP_eq, callK_ret, vCallR_eq, callRK_ret, rNil_eq, rCons_eq, argOf_val, argOf_own, argOf_root, oNone_eq, oSome_eq, intOf_int, vSlice_eq, gSl_tup, gSl_lst, wipe_nil, wipe_cons, outP_val, outP_own, outP_ownT, outP_nx, outR_rt, outR_nx, vNewT_eq, vDisp1_eq, vTake_eq, takeK_some, ownTOf_own, iItemsT_eq, dictOf_own, sPutT_eq, putK1_some, putK2_some, vGetT_eq, getK1_some, getK2_some, keyOf_ints, forK_some, forK2_nx, forK2_ct, forK2_bk, forK2_rt, lcK_ok, dcK_ok, ttYes_eq, lcK3_some, dcK3_some, dcK4_some, vDrGet_eq, drgK_true, isRoot_root, vDrLen_eq, drlK_true, vDrCell_eq, drcK_true, drc2_int, drc3_some, sDrPut_eq, drpK_int, vPop_eq, popK_some, popK2_some, iKeysT_eq, gIsN_of, gNotN_of, isNone_none, isNone_int, isNone_tup, isT_bool_none, isT_int_none, forL_dr, str_ne, List.getElem?_cons_zero, List.getElem?_cons_succ, List.set_cons_zero, List.set_cons_succ, Option.map_some, Option.bind_some, if_true, if_false, ite_true, ite_false, iteM, iteMS, Bool.false_eq_true, small_eq, List.length_cons, List.length_nil, decide_eq_true_eq, eq_self, decide_true, Int.toNat_natCast, Nat.reduceLeDiff, Nat.reduceAdd, Nat.reduceMul, Nat.zero_le, Nat.zero_add, hem, Bool.not_false, el, hl, ep, ed]
    · have er : redS K l = K ++ [l] := by
        unfold redS
        rw [if_neg]
        rw [List.getLast?_eq_some_getLast h0]
        intro z
        exact hl (Option.some.inj z)
      have ea : dI K ++ [PyData.int l] = dI (K ++ [l]) := dI_app K [l]
      have hlt : (dI K).length < 1000000 := by rw [len_dI]; exact hK
      rw [er]
      unfold bLeft
      simp only [bnd_eq, bind_ok, ret_eq, ofO_some, toD_eq, frz_val, frz_own, toB_eq, boolOf_b, vVar_eq, varK_val, varK_root, varK_own, vBin_eq, vUn_eq, vAnd_eq, vOr_eq, vNot_eq, tAnd_eq, tOr_eq, tNot_eq, vIfE_eq, aNil_eq, aCons_eq, vTup_eq, vLst_eq, vCB_eq, chain_eq, vIsi_eq, vIsi2_eq, noDict_int, noDict_tuple, noDict_list, noDict_none, noDict_bool, noDict_str, isT_int_int, isT_bool_int, isT_tuple_tuple, isT_tuple_int, isT_int_tuple, gAdd_int, gAdd_tup, gAdd_lst, gSub_int, gMul_int, gMul_tup, gMul_lst, gMod_int, gDiv_int, gPow_int, gLt_int, gLe_int, gGt_int, gGe_int, gEq_int, gNe_int, gNeg_int, gRev_tup, gIx_tup, gIx_lst, gLen_tup, gLen_lst, gAbs_int, gMin_int, gMax_int, gInt_int, gTuple_lst, gTuple_tup, gList_lst, gList_tup, gSum_ints, gAll_bools, gAny_bools, vIxV_eq, ixK_some, ixK2_some, slotD_val, slotD_own, vLenV_eq, lenK_some, tTruV_eq, truK_some, tTru_eq, truD_bool, truD_int, truD_tup, truD_lst, truD_none, vApp_eq, appK_some, appK2_some, ownOf_own, thenK_ok, thenS_eq, sSetIx_eq, setIxK_some, setIxK2_some, setIxK3_some, sSeq_eq, seqK_nx, seqK_rt, seqK_bk, seqK_ct, sNext_eq, sBreak_eq, sCont_eq, sRet_eq, sRetN_eq, sExpr_eq, sSet_eq, sIf_eq, asgK_some, sAsg_eq, gNm_eq, gTp_tup, gAll2_nil, gAll2_cons, bNil_eq, bCons_eq, parK_two, sPar_eq, iSeq_eq, seqOf_tup, seqOf_lst, iRg_eq, vCallP_eq, callK_ret, vCallR_eq, callRK_ret, rNil_eq, rCons_eq, argOf_val, argOf_own, argOf_root, oNone_eq, oSome_eq, intOf_int, vSlice_eq, gSl_tup, gSl_lst, wipe_nil, wipe_cons, outP_val, outP_own, outP_ownT, outP_nx, outR_rt, outR_nx, vNewT_eq, vDisp1_eq, vTake_eq, takeK_some, ownTOf_own, iItemsT_eq, dictOf_own, sPutT_eq, putK1_some, putK2_some, vGetT_eq, getK1_some, getK2_some, keyOf_ints, forK_some, forK2_nx, forK2_ct, forK2_bk, forK2_rt, lcK_ok, dcK_ok, ttYes_eq, lcK3_some, dcK3_some, dcK4_some, vDrGet_eq, drgK_true, isRoot_root, vDrLen_eq, drlK_true, vDrCell_eq, drcK_true, drc2_int, drc3_some, sDrPut_eq, drpK_int, vPop_eq, popK_some, popK2_some, iKeysT_eq, gIsN_of, gNotN_of, isNone_none, isNone_int, isNone_tup, isT_bool_none, isT_int_none, forL_dr, str_ne, List.getElem?_cons_zero, List.getElem?_cons_succ, List.set_cons_zero, List.set_cons_succ, Option.map_some, Option.bind_some, if_true, if_false, ite_true, ite_false, iteM, iteMS, Bool.false_eq_true, small_eq, List.length_cons, List.length_nil, decide_eq_true_eq, eq_self, decide_true, Int.toNat_natCast, Nat.reduceLeDiff, Nat.reduceAdd, Nat.reduceMul, Nat.zero_le, Nat.zero_add, hem, Bool.not_false, el, hl, decide_false, hlt, ea]
theorem left_ok' (w : List Int) (hw : w.length ≤ 1000) : m_left_out [dW w] = .ret (.val (dW (leftOut w))) := by
  have fr := forL_idx (R := Unit) (js := [2]) (t := gNm 2) (body := bLeft) (ds := dI w) (ρ := [.val (dW w), .own [], .emp])
    (fun k => [.val (dW w), .own (dI (leftOut (w.take k))), .emp]) (fun _ => ()) (fun k hk => by
      rw [len_dI] at hk
      rw [List.getElem_map]
      have hl := left_len (w.take k)
      rw [List.length_take] at hl
      refine ⟨_, rfl, _, .inl (left_turn (dW w) (leftOut (w.take k)) w[k] (by omega)), ?_⟩
      have e2 : w.take (k + 1) = w.take k ++ [w[k]] := by rw [List.take_add_one, List.getElem?_eq_getElem hk]; rfl
      rw [e2, left_snoc]
      rfl) rfl
  rw [len_dI, List.take_length] at fr
  unfold m_left_out
  show outP (c_left_out [.val (dW w), .emp, .emp] ()) = _
  rw [left_eq]
  simp only [bnd_eq, bind_ok, ret_eq, ofO_some, toD_eq, frz_val, frz_own, toB_eq, boolOf_b, vVar_eq, varK_val, varK_root, varK_own, vBin_eq, vUn_eq, vAnd_eq, vOr_eq, vNot_eq, tAnd_eq, tOr_eq, tNot_eq, vIfE_eq, aNil_eq, aCons_eq, vTup_eq, vLst_eq, vCB_eq, chain_eq, vIsi_eq, vIsi2_eq, noDict_int, noDict_tuple, noDict_list, noDict_none, noDict_bool, noDict_str, isT_int_int, isT_bool_int, isT_tuple_tuple, isT_tuple_int, isT_int_tuple, gAdd_int, gAdd_tup, gAdd_lst, gSub_int, gMul_int, gMul_tup, gMul_lst, gMod_int, gDiv_int, gPow_int, gLt_int, gLe_int, gGt_int, gGe_int, gEq_int, gNe_int, gNeg_int, gRev_tup, gIx_tup, gIx_lst, gLen_tup, gLen_lst, gAbs_int, gMin_int, gMax_int, gInt_int, gTuple_lst, gTuple_tup, gList_lst, gList_tup, gSum_ints, gAll_bools, gAny_bools, vIxV_eq, ixK_some, ixK2_some, slotD_val, slotD_own, vLenV_eq, lenK_some, tTruV_eq, truK_some, tTru_eq, truD_bool, truD_int, truD_tup, truD_lst, truD_none, vApp_eq, appK_some, appK2_some, ownOf_own, thenK_ok, thenS_eq, sSetIx_eq, setIxK_some, setIxK2_some, setIxK3_some, sSeq_eq, seqK_nx, seqK_rt, seqK_bk, seqK_ct, sNext_eq, sBreak_eq, sCont_eq, sRet_eq, sRetN_eq, sExpr_eq, sSet_eq, sIf_eq, asgK_some, sAsg_eq, gNm_eq, gTp_tup, gAll2_nil, gAll2_cons, bNil_eq, bCons_eq, parK_two, sPar_eq, iSeq_eq, seqOf_tup, seqOf_lst, iRg_eq, vCallP_eq, callK_ret, vCallR_eq, callRK_ret, rNil_eq, rCons_eq, argOf_val, argOf_own, argOf_root, oNone_eq, oSome_eq, intOf_int, vSlice_eq, gSl_tup, gSl_lst, wipe_nil, wipe_cons, outP_val, outP_own, outP_ownT, outP_nx, outR_rt, outR_nx, vNewT_eq, vDisp1_eq, vTake_eq, takeK_some, ownTOf_own, iItemsT_eq, dictOf_own, sPutT_eq, putK1_some, putK2_some, vGetT_eq, getK1_some, getK2_some, keyOf_ints, forK_some, forK2_nx, forK2_ct, forK2_bk, forK2_rt, lcK_ok, dcK_ok, ttYes_eq, lcK3_some, dcK3_some, dcK4_some, vDrGet_eq, drgK_true, isRoot_root, vDrLen_eq, drlK_true, vDrCell_eq, drcK_true, drc2_int, drc3_some, sDrPut_eq, drpK_int, vPop_eq, popK_some, popK2_some, iKeysT_eq, gIsN_of, gNotN_of, isNone_none, isNone_int, isNone_tup, isT_bool_none, isT_int_none, forL_dr, str_ne, List.getElem?_cons_zero, List.getElem?_cons_succ, List.set_cons_zero, List.set_cons_succ, Option.map_some, Option.bind_some, if_true, if_false, ite_true, ite_false, iteM, iteMS, Bool.false_eq_true, small_eq, List.length_cons, List.length_nil, decide_eq_true_eq, eq_self, decide_true, Int.toNat_natCast, Nat.reduceLeDiff, Nat.reduceAdd, Nat.reduceMul, Nat.zero_le, Nat.zero_add, sFor_eq, fr]
theorem leaving_ok {w : List Int} (hw : WordOk w) (hl : w.length ≤ 1000) : m_leaving_out [dW w] = .ret (.val (dW (leftOut w))) := by
  have e1 := check_word_ok hw hl
  have e2 := left_ok' w hl
  unfold m_leaving_out
  show outP (c_leaving_out [.val (dW w)] ()) = _
  unfold c_leaving_out
  simp only [bnd_eq, bind_ok, ret_eq, ofO_some, toD_eq, frz_val, frz_own, toB_eq, boolOf_b, vVar_eq, varK_val, varK_root, varK_own, vBin_eq, vUn_eq, vAnd_eq, vOr_eq, vNot_eq, tAnd_eq, tOr_eq, tNot_eq, vIfE_eq, aNil_eq, aCons_eq, vTup_eq, vLst_eq, vCB_eq, chain_eq, vIsi_eq, vIsi2_eq, noDict_int, noDict_tuple, noDict_list, noDict_none, noDict_bool, noDict_str, isT_int_int, isT_bool_int, isT_tuple_tuple, isT_tuple_int, isT_int_tuple, gAdd_int, gAdd_tup, gAdd_lst, gSub_int, gMul_int, gMul_tup, gMul_lst, gMod_int, gDiv_int, gPow_int, gLt_int, gLe_int, gGt_int, gGe_int, gEq_int, gNe_int, gNeg_int, gRev_tup, gIx_tup, gIx_lst, gLen_tup, gLen_lst, gAbs_int, gMin_int, gMax_int, gInt_int, gTuple_lst, gTuple_tup, gList_lst, gList_tup, gSum_ints, gAll_bools, gAny_bools, vIxV_eq, ixK_some, ixK2_some, slotD_val, slotD_own, vLenV_eq, lenK_some, tTruV_eq, truK_some, tTru_eq, truD_bool, truD_int, truD_tup, truD_lst, truD_none, vApp_eq, appK_some, appK2_some, ownOf_own, thenK_ok, thenS_eq, sSetIx_eq, setIxK_some, setIxK2_some, setIxK3_some, sSeq_eq, seqK_nx, seqK_rt, seqK_bk, seqK_ct, sNext_eq, sBreak_eq, sCont_eq, sRet_eq, sRetN_eq, sExpr_eq, sSet_eq, sIf_eq, asgK_some, sAsg_eq, gNm_eq, gTp_tup, gAll2_nil, gAll2_cons, bNil_eq, bCons_eq, parK_two, sPar_eq, iSeq_eq, seqOf_tup, seqOf_lst, iRg_eq, vCallP_eq, callK_ret, vCallR_eq, callRK_ret, rNil_eq, rCons_eq, argOf_val, argOf_own, argOf_root, oNone_eq, oSome_eq, intOf_int, vSlice_eq, gSl_tup, gSl_lst, wipe_nil, wipe_cons, outP_val, outP_own, outP_ownT, outP_nx, outR_rt, outR_nx, vNewT_eq, vDisp1_eq, vTake_eq, takeK_some, ownTOf_own, iItemsT_eq, dictOf_own, sPutT_eq, putK1_some, putK2_some, vGetT_eq, getK1_some, getK2_some, keyOf_ints, forK_some, forK2_nx, forK2_ct, forK2_bk, forK2_rt, lcK_ok, dcK_ok, ttYes_eq, lcK3_some, dcK3_some, dcK4_some, vDrGet_eq, drgK_true, isRoot_root, vDrLen_eq, drlK_true, vDrCell_eq, drcK_true, drc2_int, drc3_some, sDrPut_eq, drpK_int, vPop_eq, popK_some, popK2_some, iKeysT_eq, gIsN_of, gNotN_of, isNone_none, isNone_int, isNone_tup, isT_bool_none, isT_int_none, forL_dr, str_ne, List.getElem?_cons_zero, List.getElem?_cons_succ, List.set_cons_zero, List.set_cons_succ, Option.map_some, Option.bind_some, if_true, if_false, ite_true, ite_false, iteM, iteMS, Bool.false_eq_true, small_eq, List.length_cons, List.length_nil, decide_eq_true_eq, eq_self, decide_true, Int.toNat_natCast, Nat.reduceLeDiff, Nat.reduceAdd, Nat.reduceMul, Nat.zero_le, Nat.zero_add, e1, e2]
/-! ### leaving out by own steps -/
/-- the first place with opposite neighbours -/
def pairAt : List Int → Nat
  | a :: b :: r => if a = -b then 0 else pairAt (b :: r) + 1
  | _ => 0
theorem pair_lt : ∀ {w : List Int} {i : Nat}, i < pairAt w → ∃ h : i + 1 < w.length, w[i] ≠ -w[i + 1]
  | a :: b :: r, 0, h => by
    unfold pairAt at h
    by_cases z : a = -b
    · rw [if_pos z] at h; omega
    · exact ⟨by simp, z⟩
  | a :: b :: r, i + 1, h => by
    unfold pairAt at h
    by_cases z : a = -b
    · rw [if_pos z] at h; omega
    · rw [if_neg z] at h
      obtain ⟨h1, h2⟩ := pair_lt (w := b :: r) (i := i) (by omega)
      exact ⟨by simp only [List.length_cons] at h1 ⊢; omega, h2⟩
  | [], _, h => absurd h (by simp [pairAt])
  | [_], _, h => absurd h (by simp [pairAt])
theorem pair_at : ∀ (w : List Int), (w.length ≤ pairAt w + 1 ∧ Red w) ∨ ∃ h : pairAt w + 1 < w.length, w[pairAt w] = -w[pairAt w + 1]
  | [] => .inl ⟨by simp, trivial⟩
  | [_] => .inl ⟨by simp, trivial⟩
  | a :: b :: r => by
    by_cases z : a = -b
    · right
      have e : pairAt (a :: b :: r) = 0 := by unfold pairAt; rw [if_pos z]
      simp only [e]
      exact ⟨by simp, z⟩
    · have e : pairAt (a :: b :: r) = pairAt (b :: r) + 1 := by rw [pairAt, if_neg z]
      rcases pair_at (b :: r) with ⟨h1, h2⟩ | ⟨h1, h2⟩
      · left
        rw [e]
        exact ⟨by simp only [List.length_cons] at h1 ⊢; omega, z, h2⟩
      · right
        simp only [e]
        exact ⟨by simp only [List.length_cons] at h1 ⊢; omega, h2⟩
theorem pair_le : ∀ (w : List Int), pairAt w ≤ w.length
  | [] => by simp [pairAt]
  | [_] => by simp [pairAt]
  | a :: b :: r => by
    have := pair_le (b :: r)
    unfold pairAt
    split
    · omega
    · simp only [List.length_cons] at this ⊢; omega
/-- one pair less -/
def lessW (w : List Int) : List Int := w.take (pairAt w) ++ w.drop (pairAt w + 2)
theorem less_left {w : List Int} (hz : NZ w) (h : pairAt w + 1 < w.length) (h2 : w[pairAt w] = -w[pairAt w + 1]) : leftOut (lessW w) = leftOut w ∧ (lessW w).length + 2 = w.length ∧ NZ (lessW w) := by
  have e : w = w.take (pairAt w) ++ [w[pairAt w], w[pairAt w + 1]] ++ w.drop (pairAt w + 2) := by
    have e1 : w.drop (pairAt w) = w[pairAt w] :: w[pairAt w + 1] :: w.drop (pairAt w + 2) := by
      rw [List.drop_eq_getElem_cons (by omega), List.drop_eq_getElem_cons (by omega)]
    have e2 := List.take_append_drop (pairAt w) w
    rw [e1] at e2
    refine e2.symm.trans ?_
    simp
  refine ⟨?_, by unfold lessW; rw [List.length_append, List.length_take, List.length_drop]; omega, fun l hl => ?_⟩
  · conv => rhs; rw [e]
    have e3 : w[pairAt w + 1] = -w[pairAt w] := by omega
    rw [e3]
    exact (left_pair _ _ (hz _ (List.getElem_mem _))).symm
  · unfold lessW at hl
    rcases List.mem_append.mp hl with z | z
    · exact hz l (List.mem_of_mem_take z)
    · exact hz l (List.mem_of_mem_drop z)
def tPair : M Unit Bool := (tAndM (toB (vBin gLt (vBin gAdd (vVar 2) (ret (.val (.int 1)))) (vLenV 0))) (toB (vBin gNe (vIxV 0 (vVar 2)) (vUn gNeg (vIxV 0 (vBin gAdd (vVar 2) (ret (.val (.int 1)))))))))
def bPair : MS Unit := (sSet 2 (vBin gAdd (vVar 2) (ret (.val (.int 1)))))
def bRed : MS Unit := (sSeq (sSet 2 (ret (.val (.int 0))))
  (sSeq (sWhile [] 1000000 tPair bPair)
  (sSeq (sIf (toB (vBin gGe (vBin gAdd (vVar 2) (ret (.val (.int 1)))) (vLenV 0)))
  (sRet (vVar 0))
  sNext)
  (sSet 0 (vBin gAdd (vSlice (vVar 0) oNone (oSome (vVar 2))) (vSlice (vVar 0) (oSome (vBin gAdd (vVar 2) (ret (.val (.int 2))))) oNone))))))
theorem red_eq : c__law_reduced = (sSeq (sFor [1, 2] (iRg rg1 (aCons (vLenV 0) aNil)) (gNm 1) bRed) (sRet (vVar 0))) := rfl
theorem atI_dI {w : List Int} {i : Nat} (h : i < w.length) : atI (dI w) (i : Int) = some (.int w[i]) := by
  rw [atI_nat (by rw [len_dI]; exact h)]
  simp [dI]
theorem pair_while (w : List Int) (S : D) (hw : w.length ≤ 1000) : sWhile [] 1000000 tPair bPair [.val (dW w), .val S, .val (.int 0)] () = .nx [.val (dW w), .val S, .val (.int (pairAt w : Int))] () := by
  unfold sWhile
  have hle := pair_le w
  refine whileL_idx (R := Unit) (fun i => [.val (dW w), .val S, .val (.int (i : Int))]) (fun _ => ()) (pairAt w) (ρe := [.val (dW w), .val S, .val (.int (pairAt w : Int))]) (re := ()) (fun i hi => ?_) ?_ 1000000 (by omega) rfl
  · obtain ⟨h1, h2⟩ := pair_lt hi
    have h3 : ((i : Int) + 1 < (w.length : Int)) := by omega
    have e1 := atI_dI (w := w) (i := i) (by omega)
    have e2 := atI_dI h1
    have ei : ((i : Int) + 1) = ((i + 1 : Nat) : Int) := by omega
    refine ⟨[.val (dW w), .val S, .val (.int (i : Int))], (), ?_, [.val (dW w), .val S, .val (.int ((i + 1 : Nat) : Int))], .inl ?_, rfl⟩
    · unfold tPair
      simp only [bnd_eq, bind_ok, ret_eq, ofO_some, toD_eq, frz_val, frz_own, toB_eq, boolOf_b, vVar_eq, varK_val, varK_root, varK_own, vBin_eq, vUn_eq, vAnd_eq, vOr_eq, vNot_eq, tAnd_eq, tOr_eq, tNot_eq, vIfE_eq, aNil_eq, aCons_eq, vTup_eq, vLst_eq, vCB_eq, chain_eq, vIsi_eq, vIsi2_eq, noDict_int, noDict_tuple, noDict_list, noDict_none, noDict_bool, noDict_str, isT_int_int, isT_bool_int, isT_tuple_tuple, isT_tuple_int, isT_int_tuple, gAdd_int, gAdd_tup, gAdd_lst, gSub_int, gMul_int, gMul_tup, gMul_lst, gMod_int, gDiv_int, gPow_int, gLt_int, gLe_int, gGt_int, gGe_int, gEq_int, gNe_int, gNeg_int, gRev_tup, gIx_tup, gIx_lst, gLen_tup, gLen_lst, gAbs_int, gMin_int, gMax_int, gInt_int, gTuple_lst, gTuple_tup, gList_lst, gList_tup, gSum_ints, gAll_bools, gAny_bools, vIxV_eq, ixK_some, ixK2_some, slotD_val, slotD_own, vLenV_eq, lenK_some, tTruV_eq, truK_some, tTru_eq, truD_bool, truD_int, truD_tup, truD_lst, truD_none, vApp_eq, appK_some, appK2_some, ownOf_own, thenK_ok, thenS_eq, sSetIx_eq, setIxK_some, setIxK2_some, setIxK3_some, sSeq_eq, seqK_nx, seqK_rt, seqK_bk, seqK_ct, sNext_eq, sBreak_eq, sCont_eq, sRet_eq, sRetN_eq, sExpr_eq, sSet_eq, sIf_eq, asgK_some, sAsg_eq, gNm_eq, gTp_tup, gAll2_nil, gAll2_cons, bNil_eq, bCons_eq, parK_two, sPar_eq, iSeq_eq, seqOf_tup, seqOf_lst, iRg_eq, vCallP_eq, callK_ret, vCallR_eq, callRK_ret, rNil_eq, rCons_eq, argOf_val, argOf_own, argOf_root, oNone_eq, oSome_eq, intOf_int, vSlice_eq, gSl_tup, gSl_lst, wipe_nil, wipe_cons, outP_val, outP_own, outP_ownT, outP_nx, outR_rt, outR_nx, vNewT_eq, vDisp1_eq, vTake_eq, takeK_some, ownTOf_own, iItemsT_eq, dictOf_own, sPutT_eq, putK1_some, putK2_some, vGetT_eq, getK1_some, getK2_some, keyOf_ints, forK_some, forK2_nx, forK2_ct, forK2_bk, forK2_rt, lcK_ok, dcK_ok, ttYes_eq, lcK3_some, dcK3_some, dcK4_some, vDrGet_eq, drgK_true, isRoot_root, vDrLen_eq, drlK_true, vDrCell_eq, drcK_true, drc2_int, drc3_some, sDrPut_eq, drpK_int, vPop_eq, popK_some, popK2_some, iKeysT_eq, gIsN_of, gNotN_of, isNone_none, isNone_int, isNone_tup, isT_bool_none, isT_int_none, forL_dr, str_ne, List.getElem?_cons_zero, List.getElem?_cons_succ, List.set_cons_zero, List.set_cons_succ, Option.map_some, Option.bind_some, if_true, if_false, ite_true, ite_false, iteM, iteMS, Bool.false_eq_true, small_eq, List.length_cons, List.length_nil, decide_eq_true_eq, eq_self, decide_true, Int.toNat_natCast, Nat.reduceLeDiff, Nat.reduceAdd, Nat.reduceMul, Nat.zero_le, Nat.zero_add, len_dI, h3, e1, ei, e2, h2, decide_false, Bool.not_false]
      rw [ei] at h3
      simp only [bnd_eq, bind_ok, ret_eq, ofO_some, toD_eq, frz_val, frz_own, toB_eq, boolOf_b, vVar_eq, varK_val, varK_root, varK_own, vBin_eq, vUn_eq, vAnd_eq, vOr_eq, vNot_eq, tAnd_eq, tOr_eq, tNot_eq, vIfE_eq, aNil_eq, aCons_eq, vTup_eq, vLst_eq, vCB_eq, chain_eq, vIsi_eq, vIsi2_eq, noDict_int, noDict_tuple, noDict_list, noDict_none, noDict_bool, noDict_str, isT_int_int, isT_bool_int, isT_tuple_tuple, isT_tuple_int, isT_int_tuple, gAdd_int, gAdd_tup, gAdd_lst, gSub_int, gMul_int, gMul_tup, gMul_lst, gMod_int, gDiv_int, gPow_int, gLt_int, gLe_int, gGt_int, gGe_int, gEq_int, gNe_int, gNeg_int, gRev_tup, gIx_tup, gIx_lst, gLen_tup, gLen_lst, gAbs_int, gMin_int, gMax_int, gInt_int, gTuple_lst, gTuple_tup, gList_lst, gList_tup, gSum_ints, gAll_bools, gAny_bools, vIxV_eq, ixK_some, ixK2_some, slotD_val, slotD_own, vLenV_eq, lenK_some, tTruV_eq, truK_some, tTru_eq, truD_bool, truD_int, truD_tup, truD_lst, truD_none, vApp_eq, appK_some, appK2_some, ownOf_own, thenK_ok, thenS_eq, sSetIx_eq, setIxK_some, setIxK2_some, setIxK3_some, sSeq_eq, seqK_nx, seqK_rt, seqK_bk, seqK_ct, sNext_eq, sBreak_eq, sCont_eq, sRet_eq, sRetN_eq, sExpr_eq, sSet_eq, sIf_eq, asgK_some, sAsg_eq, gNm_eq, gTp_tup, gAll2_nil, gAll2_cons, bNil_eq, bCons_eq, parK_two, sPar_eq, iSeq_eq, seqOf_tup, seqOf_lst, iRg_eq, vCallP_eq, callK_ret, vCallR_eq, callRK_ret, rNil_eq, rCons_eq, argOf_val, argOf_own, argOf_root, oNone_eq, oSome_eq, intOf_int, vSlice_eq, gSl_tup, gSl_lst, wipe_nil, wipe_cons, outP_val, outP_own, outP_ownT, outP_nx, outR_rt, outR_nx, vNewT_eq, vDisp1_eq, vTake_eq, takeK_some, ownTOf_own, iItemsT_eq, dictOf_own, sPutT_eq, putK1_some, putK2_some, vGetT_eq, getK1_some, getK2_some, keyOf_ints, forK_some, forK2_nx, forK2_ct, forK2_bk, forK2_rt, lcK_ok, dcK_ok, ttYes_eq, lcK3_some, dcK3_some, dcK4_some, vDrGet_eq, drgK_true, isRoot_root, vDrLen_eq, drlK_true, vDrCell_eq, drcK_true, drc2_int, drc3_some, sDrPut_eq, drpK_int, vPop_eq, popK_some, popK2_some, iKeysT_eq, gIsN_of, gNotN_of, isNone_none, isNone_int, isNone_tup, isT_bool_none, isT_int_none, forL_dr, str_ne, List.getElem?_cons_zero, List.getElem?_cons_succ, List.set_cons_zero, List.set_cons_succ, Option.map_some, Option.bind_some, if_true, if_false, ite_true, ite_false, iteM, iteMS, Bool.false_eq_true, small_eq, List.length_cons, List.length_nil, decide_eq_true_eq, eq_self, decide_true, Int.toNat_natCast, Nat.reduceLeDiff, Nat.reduceAdd, Nat.reduceMul, Nat.zero_le, Nat.zero_add, h3, e1, e2, h2, decide_false, Bool.not_false]
    · unfold bPair
      simp only [bnd_eq, bind_ok, ret_eq, ofO_some, toD_eq, frz_val, frz_own, toB_eq, boolOf_b, vVar_eq, varK_val, varK_root, varK_own, vBin_eq, vUn_eq, vAnd_eq, vOr_eq, vNot_eq, tAnd_eq, tOr_eq, tNot_eq, vIfE_eq, aNil_eq, aCons_eq, vTup_eq, vLst_eq, vCB_eq, chain_eq, vIsi_eq, vIsi2_eq, noDict_int, noDict_tuple, noDict_list, noDict_none, noDict_bool, noDict_str, isT_int_int, isT_bool_int, isT_tuple_tuple, isT_tuple_int, isT_int_tuple, gAdd_int, gAdd_tup, gAdd_lst, gSub_int, gMul_int, gMul_tup, gMul_lst, gMod_int, gDiv_int, gPow_int, gLt_int, gLe_int, gGt_int, gGe_int, gEq_int, gNe_int, gNeg_int, gRev_tup, gIx_tup, gIx_lst, gLen_tup, gLen_lst, gAbs_int, gMin_int, gMax_int, gInt_int, gTuple_lst, gTuple_tup, gList_lst, gList_tup, gSum_ints, gAll_bools, gAny_bools, vIxV_eq, ixK_some, ixK2_some, slotD_val, slotD_own, vLenV_eq, lenK_some, tTruV_eq, truK_some, tTru_eq, truD_bool, truD_int, truD_tup, truD_lst, truD_none, vApp_eq, appK_some, appK2_some, ownOf_own, thenK_ok, thenS_eq, sSetIx_eq, setIxK_some, setIxK2_some, setIxK3_some, sSeq_eq, seqK_nx, seqK_rt, seqK_bk, seqK_ct, sNext_eq, sBreak_eq, sCont_eq, sRet_eq, sRetN_eq, sExpr_eq, sSet_eq, sIf_eq, asgK_some, sAsg_eq, gNm_eq, gTp_tup, gAll2_nil, gAll2_cons, bNil_eq, bCons_eq, parK_two, sPar_eq, iSeq_eq, seqOf_tup, seqOf_lst, iRg_eq, vCallP_eq, callK_ret, vCallR_eq, callRK_ret, rNil_eq, rCons_eq, argOf_val, argOf_own, argOf_root, oNone_eq, oSome_eq, intOf_int, vSlice_eq, gSl_tup, gSl_lst, wipe_nil, wipe_cons, outP_val, outP_own, outP_ownT, outP_nx, outR_rt, outR_nx, vNewT_eq, vDisp1_eq, vTake_eq, takeK_some, ownTOf_own, iItemsT_eq, dictOf_own, sPutT_eq, putK1_some, putK2_some, vGetT_eq, getK1_some, getK2_some, keyOf_ints, forK_some, forK2_nx, forK2_ct, forK2_bk, forK2_rt, lcK_ok, dcK_ok, ttYes_eq, lcK3_some, dcK3_some, dcK4_some, vDrGet_eq, drgK_true, isRoot_root, vDrLen_eq, drlK_true, vDrCell_eq, drcK_true, drc2_int, drc3_some, sDrPut_eq, drpK_int, vPop_eq, popK_some, popK2_some, iKeysT_eq, gIsN_of, gNotN_of, isNone_none, isNone_int, isNone_tup, isT_bool_none, isT_int_none, forL_dr, str_ne, List.getElem?_cons_zero, List.getElem?_cons_succ, List.set_cons_zero, List.set_cons_succ, Option.map_some, Option.bind_some, if_true, if_false, ite_true, ite_false, iteM, iteMS, Bool.false_eq_true, small_eq, List.length_cons, List.length_nil, decide_eq_true_eq, eq_self, decide_true, Int.toNat_natCast, Nat.reduceLeDiff, Nat.reduceAdd, Nat.reduceMul, Nat.zero_le, Nat.zero_add, ei]
  · rcases pair_at w with ⟨h1, _⟩ | ⟨h1, h2⟩
    · have h3 : ¬ ((pairAt w : Int) + 1 < (w.length : Int)) := by omega
      unfold tPair
      simp only [bnd_eq, bind_ok, ret_eq, ofO_some, toD_eq, frz_val, frz_own, toB_eq, boolOf_b, vVar_eq, varK_val, varK_root, varK_own, vBin_eq, vUn_eq, vAnd_eq, vOr_eq, vNot_eq, tAnd_eq, tOr_eq, tNot_eq, vIfE_eq, aNil_eq, aCons_eq, vTup_eq, vLst_eq, vCB_eq, chain_eq, vIsi_eq, vIsi2_eq, noDict_int, noDict_tuple, noDict_list, noDict_none, noDict_bool, noDict_str, isT_int_int, isT_bool_int, isT_tuple_tuple, isT_tuple_int, isT_int_tuple, gAdd_int, gAdd_tup, gAdd_lst, gSub_int, gMul_int, gMul_tup, gMul_lst, gMod_int, gDiv_int, gPow_int, gLt_int, gLe_int, gGt_int, gGe_int, gEq_int, gNe_int, gNeg_int, gRev_tup, gIx_tup, gIx_lst, gLen_tup, gLen_lst, gAbs_int, gMin_int, gMax_int, gInt_int, gTuple_lst, gTuple_tup, gList_lst, gList_tup, gSum_ints, gAll_bools, gAny_bools, vIxV_eq, ixK_some, ixK2_some, slotD_val, slotD_own, vLenV_eq, lenK_some, tTruV_eq, truK_some, tTru_eq, truD_bool, truD_int, truD_tup, truD_lst, truD_none, vApp_eq, appK_some, appK2_some, ownOf_own, thenK_ok, thenS_eq, sSetIx_eq, setIxK_some, setIxK2_some, setIxK3_some, sSeq_eq, seqK_nx, seqK_rt, seqK_bk, seqK_ct, sNext_eq, sBreak_eq, sCont_eq, sRet_eq, sRetN_eq, sExpr_eq, sSet_eq, sIf_eq, asgK_some, sAsg_eq, gNm_eq, gTp_tup, gAll2_nil, gAll2_cons, bNil_eq, bCons_eq, parK_two, sPar_eq, iSeq_eq, seqOf_tup, seqOf_lst, iRg_eq, vCallP_eq, callK_ret, vCallR_eq, callRK_ret, rNil_eq, rCons_eq, argOf_val, argOf_own, argOf_root, oNone_eq, oSome_eq, intOf_int, vSlice_eq, gSl_tup, gSl_lst, wipe_nil, wipe_cons, outP_val, outP_own, outP_ownT, outP_nx, outR_rt, outR_nx, vNewT_eq, vDisp1_eq, vTake_eq, takeK_some, ownTOf_own, iItemsT_eq, dictOf_own, sPutT_eq, putK1_some, putK2_some, vGetT_eq, getK1_some, getK2_some, keyOf_ints, forK_some, forK2_nx, forK2_ct, forK2_bk, forK2_rt, lcK_ok, dcK_ok, ttYes_eq, lcK3_some, dcK3_some, dcK4_some, vDrGet_eq, drgK_true, isRoot_root, vDrLen_eq, drlK_true, vDrCell_eq, drcK_true, drc2_int, drc3_some, sDrPut_eq, drpK_int, vPop_eq, popK_some, popK2_some, iKeysT_eq, gIsN_of, gNotN_of, isNone_none, isNone_int, isNone_tup, isT_bool_none, isT_int_none, forL_dr, str_ne, List.getElem?_cons_zero, List.getElem?_cons_succ, List.set_cons_zero, List.set_cons_succ, Option.map_some, Option.bind_some, if_true, if_false, ite_true, ite_false, iteM, iteMS, Bool.false_eq_true, small_eq, List.length_cons, List.length_nil, decide_eq_true_eq, eq_self, decide_true, Int.toNat_natCast, Nat.reduceLeDiff, Nat.reduceAdd, Nat.reduceMul, Nat.zero_le, Nat.zero_add, len_dI, h3, decide_false]
    · have h3 : ((pairAt w : Int) + 1 < (w.length : Int)) := by omega
      have e1 := atI_dI (w := w) (i := pairAt w) (by omega)
      have e2 := atI_dI h1
      have ei : ((pairAt w : Int) + 1) = ((pairAt w + 1 : Nat) : Int) := by omega
      unfold tPair
      simp only [bnd_eq, bind_ok, ret_eq, ofO_some, toD_eq, frz_val, frz_own, toB_eq, boolOf_b, vVar_eq, varK_val, varK_root, varK_own, vBin_eq, vUn_eq, vAnd_eq, vOr_eq, vNot_eq, tAnd_eq, tOr_eq, tNot_eq, vIfE_eq, aNil_eq, aCons_eq, vTup_eq, vLst_eq, vCB_eq, chain_eq, vIsi_eq, vIsi2_eq, noDict_int, noDict_tuple, noDict_list, noDict_none, noDict_bool, noDict_str, isT_int_int, isT_bool_int, isT_tuple_tuple, isT_tuple_int, isT_int_tuple, gAdd_int, gAdd_tup, gAdd_lst, gSub_int, gMul_int, gMul_tup, gMul_lst, gMod_int, gDiv_int, gPow_int, gLt_int, gLe_int, gGt_int, gGe_int, gEq_int, gNe_int, gNeg_int, gRev_tup, gIx_tup, gIx_lst, gLen_tup, gLen_lst, gAbs_int, gMin_int, gMax_int, gInt_int, gTuple_lst, gTuple_tup, gList_lst, gList_tup, gSum_ints, gAll_bools, gAny_bools, vIxV_eq, ixK_some, ixK2_some, slotD_val, slotD_own, vLenV_eq, lenK_some, tTruV_eq, truK_some, tTru_eq, truD_bool, truD_int, truD_tup, truD_lst, truD_none, vApp_eq, appK_some, appK2_some, ownOf_own, thenK_ok, thenS_eq, sSetIx_eq, setIxK_some, setIxK2_some, setIxK3_some, sSeq_eq, seqK_nx, seqK_rt, seqK_bk, seqK_ct, sNext_eq, sBreak_eq, sCont_eq, sRet_eq, sRetN_eq, sExpr_eq, sSet_eq, sIf_eq, asgK_some, sAsg_eq, gNm_eq, gTp_tup, gAll2_nil, gAll2_cons, bNil_eq, bCons_eq, parK_two, sPar_eq, iSeq_eq, seqOf_tup, seqOf_lst, iRg_eq, vCallP_eq, callK_ret, vCallR_eq, callRK_ret, rNil_eq, rCons_eq, argOf_val, argOf_own, argOf_root, oNone_eq, oSome_eq, intOf_int, vSlice_eq, gSl_tup, gSl_lst, wipe_nil, wipe_cons, outP_val, outP_own, outP_ownT, outP_nx, outR_rt, outR_nx, vNewT_eq, vDisp1_eq, vTake_eq, takeK_some, ownTOf_own, iItemsT_eq, dictOf_own, sPutT_eq, putK1_some, putK2_some, vGetT_eq, getK1_some, getK2_some, keyOf_ints, forK_some, forK2_nx, forK2_ct, forK2_bk, forK2_rt, lcK_ok, dcK_ok, ttYes_eq, lcK3_some, dcK3_some, dcK4_some, vDrGet_eq, drgK_true, isRoot_root, vDrLen_eq, drlK_true, vDrCell_eq, drcK_true, drc2_int, drc3_some, sDrPut_eq, drpK_int, vPop_eq, popK_some, popK2_some, iKeysT_eq, gIsN_of, gNotN_of, isNone_none, isNone_int, isNone_tup, isT_bool_none, isT_int_none, forL_dr, str_ne, List.getElem?_cons_zero, List.getElem?_cons_succ, List.set_cons_zero, List.set_cons_succ, Option.map_some, Option.bind_some, if_true, if_false, ite_true, ite_false, iteM, iteMS, Bool.false_eq_true, small_eq, List.length_cons, List.length_nil, decide_eq_true_eq, eq_self, decide_true, Int.toNat_natCast, Nat.reduceLeDiff, Nat.reduceAdd, Nat.reduceMul, Nat.zero_le, Nat.zero_add, len_dI, h3, e1]
      rw [ei] at h3 ⊢
      simp only [bnd_eq, bind_ok, ret_eq, ofO_some, toD_eq, frz_val, frz_own, toB_eq, boolOf_b, vVar_eq, varK_val, varK_root, varK_own, vBin_eq, vUn_eq, vAnd_eq, vOr_eq, vNot_eq, tAnd_eq, tOr_eq, tNot_eq, vIfE_eq, aNil_eq, aCons_eq, vTup_eq, vLst_eq, vCB_eq, chain_eq, vIsi_eq, vIsi2_eq, noDict_int, noDict_tuple, noDict_list, noDict_none, noDict_bool, noDict_str, isT_int_int, isT_bool_int, isT_tuple_tuple, isT_tuple_int, isT_int_tuple, gAdd_int, gAdd_tup, gAdd_lst, gSub_int, gMul_int, gMul_tup, gMul_lst, gMod_int, gDiv_int, gPow_int, gLt_int, gLe_int, gGt_int, gGe_int, gEq_int, gNe_int, gNeg_int, gRev_tup, gIx_tup, gIx_lst, gLen_tup, gLen_lst, gAbs_int, gMin_int, gMax_int, gInt_int, gTuple_lst, gTuple_tup, gList_lst, gList_tup, gSum_ints, gAll_bools, gAny_bools, vIxV_eq, ixK_some, ixK2_some, slotD_val, slotD_own, vLenV_eq, lenK_some, tTruV_eq, truK_some, tTru_eq, truD_bool, truD_int, truD_tup, truD_lst, truD_none, vApp_eq, appK_some, appK2_some, ownOf_own, thenK_ok, thenS_eq, sSetIx_eq, setIxK_some, setIxK2_some, setIxK3_some, sSeq_eq, seqK_nx, seqK_rt, seqK_bk, seqK_ct, sNext_eq, sBreak_eq, sCont_eq, sRet_eq, sRetN_eq, sExpr_eq, sSet_eq, sIf_eq, asgK_some, sAsg_eq, gNm_eq, gTp_tup, gAll2_nil, gAll2_cons, bNil_eq, bCons_eq, parK_two, sPar_eq, iSeq_eq, seqOf_tup, seqOf_lst, iRg_eq, vCallP_eq, callK_ret, vCallR_eq, callRK_ret, rNil_eq, rCons_eq, argOf_val, argOf_own, argOf_root, oNone_eq, oSome_eq, intOf_int, vSlice_eq, gSl_tup, gSl_lst, wipe_nil, wipe_cons, outP_val, outP_own, outP_ownT, outP_nx, outR_rt, outR_nx, vNewT_eq, vDisp1_eq, vTake_eq, takeK_some, ownTOf_own, iItemsT_eq, dictOf_own, sPutT_eq, putK1_some, putK2_some, vGetT_eq, getK1_some, getK2_some, keyOf_ints, forK_some, forK2_nx, forK2_ct, forK2_bk, forK2_rt, lcK_ok, dcK_ok, ttYes_eq, lcK3_some, dcK3_some, dcK4_some, vDrGet_eq, drgK_true, isRoot_root, vDrLen_eq, drlK_true, vDrCell_eq, drcK_true, drc2_int, drc3_some, sDrPut_eq, drpK_int, vPop_eq, popK_some, popK2_some, iKeysT_eq, gIsN_of, gNotN_of, isNone_none, isNone_int, isNone_tup, isT_bool_none, isT_int_none, forL_dr, str_ne, List.getElem?_cons_zero, List.getElem?_cons_succ, List.set_cons_zero, List.set_cons_succ, Option.map_some, Option.bind_some, if_true, if_false, ite_true, ite_false, iteM, iteMS, Bool.false_eq_true, small_eq, List.length_cons, List.length_nil, decide_eq_true_eq, eq_self, decide_true, Int.toNat_natCast, Nat.reduceLeDiff, Nat.reduceAdd, Nat.reduceMul, Nat.zero_le, Nat.zero_add, h3, e1, e2, h2, Bool.not_true]
theorem cut_to (w : List Int) {i : Nat} (h : i ≤ w.length) : cutD (dI w) none (some (i : Int)) = dI (w.take i) := by
  have e : HT.sIx (dI w).length (dI w).length (some (i : Int)) = i := by rw [len_dI]; simp [HT.sIx]; rw [if_neg (by omega)]; omega
  have e0 : HT.sIx (dI w).length 0 none = 0 := by simp [HT.sIx]
  unfold cutD
  rw [e, e0]
  simp [dI]
theorem cut_from (w : List Int) {i : Nat} (h : i ≤ w.length) : cutD (dI w) (some (i : Int)) none = dI (w.drop i) := by
  have e : HT.sIx (dI w).length 0 (some (i : Int)) = i := by rw [len_dI]; simp [HT.sIx]; rw [if_neg (by omega)]; omega
  have e0 : HT.sIx (dI w).length (dI w).length none = w.length := by simp [HT.sIx]
  unfold cutD
  rw [e, e0, List.take_of_length_le (by simp)]
  simp [dI]
theorem red_turn (w : List Int) (S : D) (s2 : Slot) (hw : w.length ≤ 1000) (hz : NZ w) :
    (Red w ∧ bRed [.val (dW w), .val S, s2] () = .rt (.val (dW w)) ()) ∨ (¬ Red w ∧ leftOut (lessW w) = leftOut w ∧ (lessW w).length + 2 = w.length ∧ NZ (lessW w) ∧ ∃ s, bRed [.val (dW w), .val S, s2] () = .nx [.val (dW (lessW w)), .val S, s] ()) := by
  have e1 := pair_while w S hw
  rcases pair_at w with ⟨h1, h2⟩ | ⟨h1, h2⟩
  · left
    refine ⟨h2, ?_⟩
    have h3 : ((pairAt w : Int) + 1 ≥ (w.length : Int)) := by omega
    unfold bRed
    generalize sWhile [] 1000000 tPair bPair = G at e1 ⊢
    simp only [bnd_eq, bind_ok, ret_eq, ofO_some, toD_eq, frz_val, frz_own, toB_eq, boolOf_b, vVar_eq, varK_val, varK_root, varK_own, vBin_eq, vUn_eq, vAnd_eq, vOr_eq, vNot_eq, tAnd_eq, tOr_eq, tNot_eq, vIfE_eq, aNil_eq, aCons_eq, vTup_eq, vLst_eq, vCB_eq, chain_eq, vIsi_eq, vIsi2_eq, noDict_int, noDict_tuple, noDict_list, noDict_none, noDict_bool, noDict_str, isT_int_int, isT_bool_int, isT_tuple_tuple, isT_tuple_int, isT_int_tuple, gAdd_int, gAdd_tup, gAdd_lst, gSub_int, gMul_int, gMul_tup, gMul_lst, gMod_int, gDiv_int, gPow_int, gLt_int, gLe_int, gGt_int, gGe_int, gEq_int, gNe_int, gNeg_int, gRev_tup, gIx_tup, gIx_lst, gLen_tup, gLen_lst, gAbs_int, gMin_int, gMax_int, gInt_int, gTuple_lst, gTuple_tup, gList_lst, gList_tup, gSum_ints, gAll_bools, gAny_bools, vIxV_eq, ixK_some, ixK2_some, slotD_val, slotD_own, vLenV_eq, lenK_some, tTruV_eq, truK_some, tTru_eq, truD_bool, truD_int, truD_tup, truD_lst, truD_none, vApp_eq, appK_some, appK2_some, ownOf_own, thenK_ok, thenS_eq, sSetIx_eq, setIxK_some, setIxK2_some, setIxK3_some, sSeq_eq, seqK_nx, seqK_rt, seqK_bk, seqK_ct, sNext_eq, sBreak_eq, sCont_eq, sRet_eq, sRetN_eq, sExpr_eq, sSet_eq, sIf_eq, asgK_some, sAsg_eq, gNm_eq, gTp_tup, gAll2_nil, gAll2_cons, bNil_eq, bCons_eq, parK_two, sPar_eq, iSeq_eq, seqOf_tup, seqOf_lst, iRg_eq, vCallP_eq, callK_ret, vCallR_eq, callRK_ret, rNil_eq, rCons_eq, argOf_val, argOf_own, argOf_root, oNone_eq, oSome_eq, intOf_int, vSlice_eq, gSl_tup, gSl_lst, wipe_nil, wipe_cons, outP_val, outP_own, outP_ownT, outP_nx, outR_rt, outR_nx, vNewT_eq, vDisp1_eq, vTake_eq, takeK_some, ownTOf_own, iItemsT_eq, dictOf_own, sPutT_eq, putK1_some, putK2_some, vGetT_eq, getK1_some, getK2_some, keyOf_ints, forK_some, forK2_nx, forK2_ct, forK2_bk, forK2_rt, lcK_ok, dcK_ok, ttYes_eq, lcK3_some, dcK3_some, dcK4_some, vDrGet_eq, drgK_true, isRoot_root, vDrLen_eq, drlK_true, vDrCell_eq, drcK_true, drc2_int, drc3_some, sDrPut_eq, drpK_int, vPop_eq, popK_some, popK2_some, iKeysT_eq, gIsN_of, gNotN_of, isNone_none, isNone_int, isNone_tup, isT_bool_none, isT_int_none, forL_dr, str_ne, List.getElem?_cons_zero, List.getElem?_cons_succ, List.set_cons_zero, List.set_cons_succ, Option.map_some, Option.bind_some, if_true, if_false, ite_true, ite_false, iteM, iteMS, Bool.false_eq_true, small_eq, List.length_cons, List.length_nil, decide_eq_true_eq, eq_self, decide_true, Int.toNat_natCast, Nat.reduceLeDiff, Nat.reduceAdd, Nat.reduceMul, Nat.zero_le, Nat.zero_add, e1, len_dI, h3]
  · right
    obtain ⟨l1, l2, l3⟩ := less_left hz h1 h2
    refine ⟨fun z => ?_, l1, l2, l3, .val (.int (pairAt w : Int)), ?_⟩
    · have : leftOut w = w := left_red z
      have h4 := left_len (lessW w)
      rw [l1, this] at h4
      omega
    · have h3 : ¬ ((pairAt w : Int) + 1 ≥ (w.length : Int)) := by omega
      have ei : ((pairAt w : Int) + 2) = ((pairAt w + 2 : Nat) : Int) := by omega
      have ea : gAdd (dW (w.take (pairAt w))) (dW (w.drop (pairAt w + 2))) = some (.val (dW (lessW w))) := by
        show gAdd (.tuple (dI (w.take (pairAt w)))) (.tuple (dI (w.drop (pairAt w + 2)))) = _
        rw [gAdd_tup, if_pos (by rw [len_dI, len_dI, List.length_take, List.length_drop]; omega), dI_app]
        rfl
      have c1 := cut_to w (i := pairAt w) (by omega)
      have c2 := cut_from w (i := pairAt w + 2) (by omega)
      unfold bRed
      generalize sWhile [] 1000000 tPair bPair = G at e1 ⊢
      simp only [bnd_eq, bind_ok, ret_eq, ofO_some, toD_eq, frz_val, frz_own, toB_eq, boolOf_b, vVar_eq, varK_val, varK_root, varK_own, vBin_eq, vUn_eq, vAnd_eq, vOr_eq, vNot_eq, tAnd_eq, tOr_eq, tNot_eq, vIfE_eq, aNil_eq, aCons_eq, vTup_eq, vLst_eq, vCB_eq, chain_eq, vIsi_eq, vIsi2_eq, noDict_int, noDict_tuple, noDict_list, noDict_none, noDict_bool, noDict_str, isT_int_int, isT_bool_int, isT_tuple_tuple, isT_tuple_int, isT_int_tuple, gAdd_int, gAdd_tup, gAdd_lst, gSub_int, gMul_int, gMul_tup, gMul_lst, gMod_int, gDiv_int, gPow_int, gLt_int, gLe_int, gGt_int, gGe_int, gEq_int, gNe_int, gNeg_int, gRev_tup, gIx_tup, gIx_lst, gLen_tup, gLen_lst, gAbs_int, gMin_int, gMax_int, gInt_int, gTuple_lst, gTuple_tup, gList_lst, gList_tup, gSum_ints, gAll_bools, gAny_bools, vIxV_eq, ixK_some, ixK2_some, slotD_val, slotD_own, vLenV_eq, lenK_some, tTruV_eq, truK_some, tTru_eq, truD_bool, truD_int, truD_tup, truD_lst, truD_none, vApp_eq, appK_some, appK2_some, ownOf_own, thenK_ok, thenS_eq, sSetIx_eq, setIxK_some, setIxK2_some, setIxK3_some, sSeq_eq, seqK_nx, seqK_rt, seqK_bk, seqK_ct, sNext_eq, sBreak_eq, sCont_eq, sRet_eq, sRetN_eq, sExpr_eq, sSet_eq, sIf_eq, asgK_some, sAsg_eq, gNm_eq, gTp_tup, gAll2_nil, gAll2_cons, bNil_eq, bCons_eq, parK_two, sPar_eq, iSeq_eq, seqOf_tup, seqOf_lst, iRg_eq, vCallP_eq, callK_ret, vCallR_eq, callRK_ret, rNil_eq, rCons_eq, argOf_val, argOf_own, argOf_root, oNone_eq, oSome_eq, intOf_int, vSlice_eq, gSl_tup, gSl_lst, wipe_nil, wipe_cons, outP_val, outP_own, outP_ownT, outP_nx, outR_rt, outR_nx, vNewT_eq, vDisp1_eq, vTake_eq, takeK_some, ownTOf_own, iItemsT_eq, dictOf_own, sPutT_eq, putK1_some, putK2_some, vGetT_eq, getK1_some, getK2_some, keyOf_ints, forK_some, forK2_nx, forK2_ct, forK2_bk, forK2_rt, lcK_ok, dcK_ok, ttYes_eq, lcK3_some, dcK3_some, dcK4_some, vDrGet_eq, drgK_true, isRoot_root, vDrLen_eq, drlK_true, vDrCell_eq, drcK_true, drc2_int, drc3_some, sDrPut_eq, drpK_int, vPop_eq, popK_some, popK2_some, iKeysT_eq, gIsN_of, gNotN_of, isNone_none, isNone_int, isNone_tup, isT_bool_none, isT_int_none, forL_dr, str_ne, List.getElem?_cons_zero, List.getElem?_cons_succ, List.set_cons_zero, List.set_cons_succ, Option.map_some, Option.bind_some, if_true, if_false, ite_true, ite_false, iteM, iteMS, Bool.false_eq_true, small_eq, List.length_cons, List.length_nil, decide_eq_true_eq, eq_self, decide_true, Int.toNat_natCast, Nat.reduceLeDiff, Nat.reduceAdd, Nat.reduceMul, Nat.zero_le, Nat.zero_add, e1, len_dI, h3, decide_false, c1, ei, c2, ea]
theorem red_loop (S0 : List D) : ∀ (ds : List D) (w : List Int) (s1 s2 : Slot), w.length ≤ 1000 → NZ w → w.length ≤ 2 * ds.length →
    (∃ ρ, forL [1, 2] (gNm 1) bRed ds [.val (dW w), s1, s2] () = .nx ρ () ∧ ρ[0]? = some (.val (dW (leftOut w)))) ∨ forL [1, 2] (gNm 1) bRed ds [.val (dW w), s1, s2] () = .rt (.val (dW (leftOut w))) ()
  | [], w, s1, s2, _, _, h => by
    obtain rfl : w = [] := List.length_eq_zero_iff.mp (by simpa using h)
    exact .inl ⟨_, rfl, rfl⟩
  | d :: ds, w, s1, s2, hw, hz, hl => by
    rw [forL_cons]
    show (∃ ρ, forK (gNm 1 d [.val (dW w), .emp, .emp]) _ _ _ _ _ = .nx ρ () ∧ _) ∨ forK (gNm 1 d [.val (dW w), .emp, .emp]) _ _ _ _ _ = _
    rw [gNm_eq, forK_some]
    show (∃ ρ, forK2 (bRed [.val (dW w), .val d, .emp] ()) _ _ _ _ = .nx ρ () ∧ _) ∨ forK2 (bRed [.val (dW w), .val d, .emp] ()) _ _ _ _ = _
    rcases red_turn w d .emp hw hz with ⟨h1, h2⟩ | ⟨h0, h1, h2, h3, s, h4⟩
    · right
      rw [h2, forK2_rt, left_red h1]
    · rw [h4, forK2_nx]
      have ih := red_loop S0 ds (lessW w) (.val d) s (by omega) h3 (by rw [List.length_cons] at hl; omega)
      rw [h1] at ih
      exact ih
theorem reduced_ok {w : List Int} (hw : w.length ≤ 1000) (hz : NZ w) : m__law_reduced [dW w] = .ret (.val (dW (leftOut w))) := by
  have hg := rg1_nat (n := w.length) (by omega)
  have h := red_loop [] (rangeD 0 w.length) w .emp .emp hw hz (by rw [rangeD_len]; omega)
  unfold m__law_reduced
  show outP (c__law_reduced [.val (dW w), .emp, .emp] ()) = _
  rw [red_eq]
  rcases h with ⟨ρ, h1, h2⟩ | h1
  · simp only [bnd_eq, bind_ok, ret_eq, ofO_some, toD_eq, frz_val, frz_own, toB_eq, boolOf_b, vVar_eq, varK_val, varK_root, varK_own, vBin_eq, vUn_eq, vAnd_eq, vOr_eq, vNot_eq, tAnd_eq, tOr_eq, tNot_eq, vIfE_eq, aNil_eq, aCons_eq, vTup_eq, vLst_eq, vCB_eq, chain_eq, vIsi_eq, vIsi2_eq, noDict_int, noDict_tuple, noDict_list, noDict_none, noDict_bool, noDict_str, isT_int_int, isT_bool_int, isT_tuple_tuple, isT_tuple_int, isT_int_tuple, gAdd_int, gAdd_tup, gAdd_lst, gSub_int, gMul_int, gMul_tup, gMul_lst, gMod_int, gDiv_int, gPow_int, gLt_int, gLe_int, gGt_int, gGe_int, gEq_int, gNe_int, gNeg_int, gRev_tup, gIx_tup, gIx_lst, gLen_tup, gLen_lst, gAbs_int, gMin_int, gMax_int, gInt_int, gTuple_lst, gTuple_tup, gList_lst, gList_tup, gSum_ints, gAll_bools, gAny_bools, vIxV_eq, ixK_some, ixK2_some, slotD_val, slotD_own, vLenV_eq, lenK_some, tTruV_eq, truK_some, tTru_eq, truD_bool, truD_int, truD_tup, truD_lst, truD_none, vApp_eq, appK_some, appK2_some, ownOf_own, thenK_ok, thenS_eq, sSetIx_eq, setIxK_some, setIxK2_some, setIxK3_some, sSeq_eq, seqK_nx, seqK_rt, seqK_bk, seqK_ct, sNext_eq, sBreak_eq, sCont_eq, sRet_eq, sRetN_eq, sExpr_eq, sSet_eq, sIf_eq, asgK_some, sAsg_eq, gNm_eq, gTp_tup, gAll2_nil, gAll2_cons, bNil_eq, bCons_eq, parK_two, sPar_eq, iSeq_eq, seqOf_tup, seqOf_lst, iRg_eq, vCallP_eq, callK_ret, vCallR_eq, callRK_ret, rNil_eq, rCons_eq, argOf_val, argOf_own, argOf_root, oNone_eq, oSome_eq, intOf_int, vSlice_eq, gSl_tup, gSl_lst, wipe_nil, wipe_cons, outP_val, outP_own, outP_ownT, outP_nx, outR_rt, outR_nx, vNewT_eq, vDisp1_eq, vTake_eq, takeK_some, ownTOf_own, iItemsT_eq, dictOf_own, sPutT_eq, putK1_some, putK2_some, vGetT_eq, getK1_some, getK2_some, keyOf_ints, forK_some, forK2_nx, forK2_ct, forK2_bk, forK2_rt, lcK_ok, dcK_ok, ttYes_eq, lcK3_some, dcK3_some, dcK4_some, vDrGet_eq, drgK_true, isRoot_root, vDrLen_eq, drlK_true, vDrCell_eq, drcK_true, drc2_int, drc3_some, sDrPut_eq, drpK_int, vPop_eq, popK_some, popK2_some, iKeysT_eq, gIsN_of, gNotN_of, isNone_none, isNone_int, isNone_tup, isT_bool_none, isT_int_none, forL_dr, str_ne, List.getElem?_cons_zero, List.getElem?_cons_succ, List.set_cons_zero, List.set_cons_succ, Option.map_some, Option.bind_some, if_true, if_false, ite_true, ite_false, iteM, iteMS, Bool.false_eq_true, small_eq, List.length_cons, List.length_nil, decide_eq_true_eq, eq_self, decide_true, Int.toNat_natCast, Nat.reduceLeDiff, Nat.reduceAdd, Nat.reduceMul, Nat.zero_le, Nat.zero_add, sFor_eq, len_dI, hg, h1, h2]
  · simp only [bnd_eq, bind_ok, ret_eq, ofO_some, toD_eq, frz_val, frz_own, toB_eq, boolOf_b, vVar_eq, varK_val, varK_root, varK_own, vBin_eq, vUn_eq, vAnd_eq, vOr_eq, vNot_eq, tAnd_eq, tOr_eq, tNot_eq, vIfE_eq, aNil_eq, aCons_eq, vTup_eq, vLst_eq, vCB_eq, chain_eq, vIsi_eq, vIsi2_eq, noDict_int, noDict_tuple, noDict_list, noDict_none, noDict_bool, noDict_str, isT_int_int, isT_bool_int, isT_tuple_tuple, isT_tuple_int, isT_int_tuple, gAdd_int, gAdd_tup, gAdd_lst, gSub_int, gMul_int, gMul_tup, gMul_lst, gMod_int, gDiv_int, gPow_int, gLt_int, gLe_int, gGt_int, gGe_int, gEq_int, gNe_int, gNeg_int, gRev_tup, gIx_tup, gIx_lst, gLen_tup, gLen_lst, gAbs_int, gMin_int, gMax_int, gInt_int, gTuple_lst, gTuple_tup, gList_lst, gList_tup, gSum_ints, gAll_bools, gAny_bools, vIxV_eq, ixK_some, ixK2_some, slotD_val, slotD_own, vLenV_eq, lenK_some, tTruV_eq, truK_some, tTru_eq, truD_bool, truD_int, truD_tup, truD_lst, truD_none, vApp_eq, appK_some, appK2_some, ownOf_own, thenK_ok, thenS_eq, sSetIx_eq, setIxK_some, setIxK2_some, setIxK3_some, sSeq_eq, seqK_nx, seqK_rt, seqK_bk, seqK_ct, sNext_eq, sBreak_eq, sCont_eq, sRet_eq, sRetN_eq, sExpr_eq, sSet_eq, sIf_eq, asgK_some, sAsg_eq, gNm_eq, gTp_tup, gAll2_nil, gAll2_cons, bNil_eq, bCons_eq, parK_two, sPar_eq, iSeq_eq, seqOf_tup, seqOf_lst, iRg_eq, vCallP_eq, callK_ret, vCallR_eq, callRK_ret, rNil_eq, rCons_eq, argOf_val, argOf_own, argOf_root, oNone_eq, oSome_eq, intOf_int, vSlice_eq, gSl_tup, gSl_lst, wipe_nil, wipe_cons, outP_val, outP_own, outP_ownT, outP_nx, outR_rt, outR_nx, vNewT_eq, vDisp1_eq, vTake_eq, takeK_some, ownTOf_own, iItemsT_eq, dictOf_own, sPutT_eq, putK1_some, putK2_some, vGetT_eq, getK1_some, getK2_some, keyOf_ints, forK_some, forK2_nx, forK2_ct, forK2_bk, forK2_rt, lcK_ok, dcK_ok, ttYes_eq, lcK3_some, dcK3_some, dcK4_some, vDrGet_eq, drgK_true, isRoot_root, vDrLen_eq, drlK_true, vDrCell_eq, drcK_true, drc2_int, drc3_some, sDrPut_eq, drpK_int, vPop_eq, popK_some, popK2_some, iKeysT_eq, gIsN_of, gNotN_of, isNone_none, isNone_int, isNone_tup, isT_bool_none, isT_int_none, forL_dr, str_ne, List.getElem?_cons_zero, List.getElem?_cons_succ, List.set_cons_zero, List.set_cons_succ, Option.map_some, Option.bind_some, if_true, if_false, ite_true, ite_false, iteM, iteMS, Bool.false_eq_true, small_eq, List.length_cons, List.length_nil, decide_eq_true_eq, eq_self, decide_true, Int.toNat_natCast, Nat.reduceLeDiff, Nat.reduceAdd, Nat.reduceMul, Nat.zero_le, Nat.zero_add, sFor_eq, len_dI, hg, h1]
end L2.VL.K77

namespace L2.VL.K77
open PySem PySem.Spec PyProof.Rows
/-! ### depths -/
theorem keys_enc (T : Tb) : keysT (encT T) = T.map fun x => dW x.1 := by
  unfold keysT encT
  rw [List.map_map]
  apply List.map_congr_left
  intro x _
  simp only [Function.comp, keyD_kI]
theorem any_val (most : Nat) (hm : most ≤ 10) {w : List Int} (hw : WordOk w) :
    vCB gAny (aCons (vLc [2] (iKeysT (vCallP m_expansion_in (aCons (vVar 0) (aCons (vVar 1) aNil)))) (gNm 2) ttYes (vBin gNe (vVar 2) (vTup aNil))) aNil) [.val (dW w), .val (.int most), .emp] () =
      .ok (.val (.bool ((expT most w).any fun x => !x.1.isEmpty))) [.val (dW w), .val (.int most), .emp] () := by
  have e1 := exp_in most hm hw
  have hl := kok_len hm (T := expT most w) ⟨(expT_ok most hw).nd, (expT_ok most hw).len⟩
  have e2 : vLc [2] (iKeysT (vCallP m_expansion_in (aCons (vVar 0) (aCons (vVar 1) aNil)))) (gNm 2) ttYes (vBin gNe (vVar 2) (vTup aNil)) [.val (dW w), .val (.int most), .emp] () = .ok (.own (((expT most w).map fun x => !x.1.isEmpty).map PyData.bool)) [.val (dW w), .val (.int most), .emp] () := by
    rw [vLc_map (ds := (expT most w).map fun x => dW x.1) (ρ1 := [.val (dW w), .val (.int most), .emp]) (fun d => match d with | .tuple ps => .bool (!ps.isEmpty) | _ => .none)]
    · rw [List.map_map, List.map_map]
      congr 2
      apply List.map_congr_left
      intro x _
      simp only [Function.comp, dI, List.isEmpty_map]
    · simp only [bnd_eq, bind_ok, ret_eq, ofO_some, toD_eq, frz_val, frz_own, toB_eq, boolOf_b, vVar_eq, varK_val, varK_root, varK_own, vBin_eq, vUn_eq, vAnd_eq, vOr_eq, vNot_eq, tAnd_eq, tOr_eq, tNot_eq, vIfE_eq, aNil_eq, aCons_eq, vTup_eq, vLst_eq, vCB_eq, chain_eq, vIsi_eq, vIsi2_eq, noDict_int, noDict_tuple, noDict_list, noDict_none, noDict_bool, noDict_str, isT_int_int, isT_bool_int, isT_tuple_tuple, isT_tuple_int, isT_int_tuple, gAdd_int, gAdd_tup, gAdd_lst, gSub_int, gMul_int, gMul_tup, gMul_lst, gMod_int, gDiv_int, gPow_int, gLt_int, gLe_int, gGt_int, gGe_int, gEq_int, gNe_int, gNeg_int, gRev_tup, gIx_tup, gIx_lst, gLen_tup, gLen_lst, gAbs_int, gMin_int, gMax_int, gInt_int, gTuple_lst, gTuple_tup, gList_lst, gList_tup, gSum_ints, gAll_bools, gAny_bools, vIxV_eq, ixK_some, ixK2_some, slotD_val, slotD_own, vLenV_eq, lenK_some, tTruV_eq, truK_some, tTru_eq, truD_bool, truD_int, truD_tup, truD_lst, truD_none, vApp_eq, appK_some, appK2_some, ownOf_own, thenK_ok, thenS_eq, sSetIx_eq, setIxK_some, setIxK2_some, setIxK3_some, sSeq_eq, seqK_nx, seqK_rt, seqK_bk, seqK_ct, sNext_eq, sBreak_eq, sCont_eq, sRet_eq, sRetN_eq, sExpr_eq, sSet_eq, sIf_eq, asgK_some, sAsg_eq, gNm_eq, gTp_tup, gAll2_nil, gAll2_cons, bNil_eq, bCons_eq, parK_two, sPar_eq, iSeq_eq, seqOf_tup, seqOf_lst, iRg_eq, vCallP_eq, callK_ret, vCallR_eq, callRK_ret, rNil_eq, rCons_eq, argOf_val, argOf_own, argOf_root, oNone_eq, oSome_eq, intOf_int, vSlice_eq, gSl_tup, gSl_lst, wipe_nil, wipe_cons, outP_val, outP_own, outP_ownT, outP_nx, outR_rt, outR_nx, vNewT_eq, vDisp1_eq, vTake_eq, takeK_some, ownTOf_own, iItemsT_eq, dictOf_own, sPutT_eq, putK1_some, putK2_some, vGetT_eq, getK1_some, getK2_some, keyOf_ints, forK_some, forK2_nx, forK2_ct, forK2_bk, forK2_rt, lcK_ok, dcK_ok, ttYes_eq, lcK3_some, dcK3_some, dcK4_some, vDrGet_eq, drgK_true, isRoot_root, vDrLen_eq, drlK_true, vDrCell_eq, drcK_true, drc2_int, drc3_some, sDrPut_eq, drpK_int, vPop_eq, popK_some, popK2_some, iKeysT_eq, gIsN_of, gNotN_of, isNone_none, isNone_int, isNone_tup, isT_bool_none, isT_int_none, forL_dr, str_ne, List.getElem?_cons_zero, List.getElem?_cons_succ, List.set_cons_zero, List.set_cons_succ, Option.map_some, Option.bind_some, if_true, if_false, ite_true, ite_false, iteM, iteMS, Bool.false_eq_true, small_eq, List.length_cons, List.length_nil, decide_eq_true_eq, eq_self, decide_true, Int.toNat_natCast, Nat.reduceLeDiff, Nat.reduceAdd, Nat.reduceMul, Nat.zero_le, Nat.zero_add, e1, keys_enc]
    · intro d hd
      obtain ⟨x, _, rfl⟩ := List.mem_map.mp hd
      refine ⟨_, [.val (dW w), .val (.int most), .val (dW x.1)], rfl, ?_, rfl⟩
      simp only [bnd_eq, bind_ok, ret_eq, ofO_some, toD_eq, frz_val, frz_own, toB_eq, boolOf_b, vVar_eq, varK_val, varK_root, varK_own, vBin_eq, vUn_eq, vAnd_eq, vOr_eq, vNot_eq, tAnd_eq, tOr_eq, tNot_eq, vIfE_eq, aNil_eq, aCons_eq, vTup_eq, vLst_eq, vCB_eq, chain_eq, vIsi_eq, vIsi2_eq, noDict_int, noDict_tuple, noDict_list, noDict_none, noDict_bool, noDict_str, isT_int_int, isT_bool_int, isT_tuple_tuple, isT_tuple_int, isT_int_tuple, gAdd_int, gAdd_tup, gAdd_lst, gSub_int, gMul_int, gMul_tup, gMul_lst, gMod_int, gDiv_int, gPow_int, gLt_int, gLe_int, gGt_int, gGe_int, gEq_int, gNe_int, gNeg_int, gRev_tup, gIx_tup, gIx_lst, gLen_tup, gLen_lst, gAbs_int, gMin_int, gMax_int, gInt_int, gTuple_lst, gTuple_tup, gList_lst, gList_tup, gSum_ints, gAll_bools, gAny_bools, vIxV_eq, ixK_some, ixK2_some, slotD_val, slotD_own, vLenV_eq, lenK_some, tTruV_eq, truK_some, tTru_eq, truD_bool, truD_int, truD_tup, truD_lst, truD_none, vApp_eq, appK_some, appK2_some, ownOf_own, thenK_ok, thenS_eq, sSetIx_eq, setIxK_some, setIxK2_some, setIxK3_some, sSeq_eq, seqK_nx, seqK_rt, seqK_bk, seqK_ct, sNext_eq, sBreak_eq, sCont_eq, sRet_eq, sRetN_eq, sExpr_eq, sSet_eq, sIf_eq, asgK_some, sAsg_eq, gNm_eq, gTp_tup, gAll2_nil, gAll2_cons, bNil_eq, bCons_eq, parK_two, sPar_eq, iSeq_eq, seqOf_tup, seqOf_lst, iRg_eq, vCallP_eq, callK_ret, vCallR_eq, callRK_ret, rNil_eq, rCons_eq, argOf_val, argOf_own, argOf_root, oNone_eq, oSome_eq, intOf_int, vSlice_eq, gSl_tup, gSl_lst, wipe_nil, wipe_cons, outP_val, outP_own, outP_ownT, outP_nx, outR_rt, outR_nx, vNewT_eq, vDisp1_eq, vTake_eq, takeK_some, ownTOf_own, iItemsT_eq, dictOf_own, sPutT_eq, putK1_some, putK2_some, vGetT_eq, getK1_some, getK2_some, keyOf_ints, forK_some, forK2_nx, forK2_ct, forK2_bk, forK2_rt, lcK_ok, dcK_ok, ttYes_eq, lcK3_some, dcK3_some, dcK4_some, vDrGet_eq, drgK_true, isRoot_root, vDrLen_eq, drlK_true, vDrCell_eq, drcK_true, drc2_int, drc3_some, sDrPut_eq, drpK_int, vPop_eq, popK_some, popK2_some, iKeysT_eq, gIsN_of, gNotN_of, isNone_none, isNone_int, isNone_tup, isT_bool_none, isT_int_none, forL_dr, str_ne, List.getElem?_cons_zero, List.getElem?_cons_succ, List.set_cons_zero, List.set_cons_succ, Option.map_some, Option.bind_some, if_true, if_false, ite_true, ite_false, iteM, iteMS, Bool.false_eq_true, small_eq, List.length_cons, List.length_nil, decide_eq_true_eq, eq_self, decide_true, Int.toNat_natCast, Nat.reduceLeDiff, Nat.reduceAdd, Nat.reduceMul, Nat.zero_le, Nat.zero_add, ne_empty]
      simp [dI]
    · rw [List.length_map]; omega
    · intro i hi s hs
      obtain rfl : i = 2 := by simpa using hi
      obtain rfl : Slot.emp = s := by simpa using hs
      rfl
  simp only [bnd_eq, bind_ok, ret_eq, ofO_some, toD_eq, frz_val, frz_own, toB_eq, boolOf_b, vVar_eq, varK_val, varK_root, varK_own, vBin_eq, vUn_eq, vAnd_eq, vOr_eq, vNot_eq, tAnd_eq, tOr_eq, tNot_eq, vIfE_eq, aNil_eq, aCons_eq, vTup_eq, vLst_eq, vCB_eq, chain_eq, vIsi_eq, vIsi2_eq, noDict_int, noDict_tuple, noDict_list, noDict_none, noDict_bool, noDict_str, isT_int_int, isT_bool_int, isT_tuple_tuple, isT_tuple_int, isT_int_tuple, gAdd_int, gAdd_tup, gAdd_lst, gSub_int, gMul_int, gMul_tup, gMul_lst, gMod_int, gDiv_int, gPow_int, gLt_int, gLe_int, gGt_int, gGe_int, gEq_int, gNe_int, gNeg_int, gRev_tup, gIx_tup, gIx_lst, gLen_tup, gLen_lst, gAbs_int, gMin_int, gMax_int, gInt_int, gTuple_lst, gTuple_tup, gList_lst, gList_tup, gSum_ints, gAll_bools, gAny_bools, vIxV_eq, ixK_some, ixK2_some, slotD_val, slotD_own, vLenV_eq, lenK_some, tTruV_eq, truK_some, tTru_eq, truD_bool, truD_int, truD_tup, truD_lst, truD_none, vApp_eq, appK_some, appK2_some, ownOf_own, thenK_ok, thenS_eq, sSetIx_eq, setIxK_some, setIxK2_some, setIxK3_some, sSeq_eq, seqK_nx, seqK_rt, seqK_bk, seqK_ct, sNext_eq, sBreak_eq, sCont_eq, sRet_eq, sRetN_eq, sExpr_eq, sSet_eq, sIf_eq, asgK_some, sAsg_eq, gNm_eq, gTp_tup, gAll2_nil, gAll2_cons, bNil_eq, bCons_eq, parK_two, sPar_eq, iSeq_eq, seqOf_tup, seqOf_lst, iRg_eq, vCallP_eq, callK_ret, vCallR_eq, callRK_ret, rNil_eq, rCons_eq, argOf_val, argOf_own, argOf_root, oNone_eq, oSome_eq, intOf_int, vSlice_eq, gSl_tup, gSl_lst, wipe_nil, wipe_cons, outP_val, outP_own, outP_ownT, outP_nx, outR_rt, outR_nx, vNewT_eq, vDisp1_eq, vTake_eq, takeK_some, ownTOf_own, iItemsT_eq, dictOf_own, sPutT_eq, putK1_some, putK2_some, vGetT_eq, getK1_some, getK2_some, keyOf_ints, forK_some, forK2_nx, forK2_ct, forK2_bk, forK2_rt, lcK_ok, dcK_ok, ttYes_eq, lcK3_some, dcK3_some, dcK4_some, vDrGet_eq, drgK_true, isRoot_root, vDrLen_eq, drlK_true, vDrCell_eq, drcK_true, drc2_int, drc3_some, sDrPut_eq, drpK_int, vPop_eq, popK_some, popK2_some, iKeysT_eq, gIsN_of, gNotN_of, isNone_none, isNone_int, isNone_tup, isT_bool_none, isT_int_none, forL_dr, str_ne, List.getElem?_cons_zero, List.getElem?_cons_succ, List.set_cons_zero, List.set_cons_succ, Option.map_some, Option.bind_some, if_true, if_false, ite_true, ite_false, iteM, iteMS, Bool.false_eq_true, small_eq, List.length_cons, List.length_nil, decide_eq_true_eq, eq_self, decide_true, Int.toNat_natCast, Nat.reduceLeDiff, Nat.reduceAdd, Nat.reduceMul, Nat.zero_le, Nat.zero_add, e2]
  rw [List.any_map]
  rfl
def bDep : MS Unit := (sIf (toB (vCB gAny (aCons (vLc [2] (iKeysT (vCallP m_expansion_in (aCons (vVar 0) (aCons (vVar 1) aNil)))) (gNm 2) ttYes (vBin gNe (vVar 2) (vTup aNil))) aNil)))
  (sRet (vVar 1))
  sNext)
theorem dep_eq : c_depth_of = (sSeq (sExpr (vCallP m_check_word (aCons (vVar 0) aNil)))
  (sSeq (sSet 0 (vCallP m_left_out (aCons (vVar 0) aNil)))
  (sSeq (sFor [1] (iRg rg2 (aCons (ret (.val (.int 1))) (aCons (vBin gAdd (vLenV 0) (ret (.val (.int 1)))) aNil))) (gNm 1) bDep)
  (sRet (ret (.val .none)))))) := rfl
theorem dep_turn (most : Nat) (hm : most ≤ 10) {w : List Int} (hw : WordOk w) : bDep [.val (dW w), .val (.int most), .emp] () =
    if ((expT most w).any fun x => !x.1.isEmpty) = true then .rt (.val (.int most)) () else .nx [.val (dW w), .val (.int most), .emp] () := by
  have e := any_val most hm hw
  unfold bDep
  generalize vCB gAny (aCons (vLc [2] (iKeysT (vCallP m_expansion_in (aCons (vVar 0) (aCons (vVar 1) aNil)))) (gNm 2) ttYes (vBin gNe (vVar 2) (vTup aNil))) aNil) = G at e ⊢
  cases hb : (expT most w).any fun x => !x.1.isEmpty with
  | true => rw [hb] at e; simp only [bnd_eq, bind_ok, ret_eq, ofO_some, toD_eq, frz_val, frz_own, toB_eq, boolOf_b, vVar_eq, varK_val, varK_root, varK_own, vBin_eq, vUn_eq, vAnd_eq, vOr_eq, vNot_eq, tAnd_eq, tOr_eq, tNot_eq, vIfE_eq, aNil_eq, aCons_eq, vTup_eq, vLst_eq, vCB_eq, chain_eq, vIsi_eq, vIsi2_eq, noDict_int, noDict_tuple, noDict_list, noDict_none, noDict_bool, noDict_str, isT_int_int, isT_bool_int, isT_tuple_tuple, isT_tuple_int, isT_int_tuple, gAdd_int, gAdd_tup, gAdd_lst, gSub_int, gMul_int, gMul_tup, gMul_lst, gMod_int, gDiv_int, gPow_int, gLt_int, gLe_int, gGt_int, gGe_int, gEq_int, gNe_int, gNeg_int, gRev_tup, gIx_tup, gIx_lst, gLen_tup, gLen_lst, gAbs_int, gMin_int, gMax_int, gInt_int, gTuple_lst, gTuple_tup, gList_lst, gList_tup, gSum_ints, gAll_bools, gAny_bools, vIxV_eq, ixK_some, ixK2_some, slotD_val, slotD_own, vLenV_eq, lenK_some, tTruV_eq, truK_some, tTru_eq, truD_bool, truD_int, truD_tup, truD_lst, truD_none, vApp_eq, appK_some, appK2_some, ownOf_own, thenK_ok, thenS_eq, sSetIx_eq, setIxK_some, setIxK2_some, setIxK3_some, sSeq_eq, seqK_nx, seqK_rt, seqK_bk, seqK_ct, sNext_eq, sBreak_eq, sCont_eq, sRet_eq, sRetN_eq, sExpr_eq, sSet_eq, sIf_eq, asgK_some, sAsg_eq, gNm_eq, gTp_tup, gAll2_nil, gAll2_cons, bNil_eq, bCons_eq, parK_two, sPar_eq, iSeq_eq, seqOf_tup, seqOf_lst, iRg_eq, vCallP_eq, callK_ret, vCallR_eq, callRK_ret, rNil_eq, rCons_eq, argOf_val, argOf_own, argOf_root, oNone_eq, oSome_eq, intOf_int, vSlice_eq, gSl_tup, gSl_lst, wipe_nil, wipe_cons, outP_val, outP_own, outP_ownT, outP_nx, outR_rt, outR_nx, vNewT_eq, vDisp1_eq, vTake_eq, takeK_some, ownTOf_own, iItemsT_eq, dictOf_own, sPutT_eq, putK1_some, putK2_some, vGetT_eq, getK1_some, getK2_some, keyOf_ints, forK_some, forK2_nx, forK2_ct, forK2_bk, forK2_rt, lcK_ok, dcK_ok, ttYes_eq, lcK3_some, dcK3_some, dcK4_some, vDrGet_eq, drgK_true, isRoot_root, vDrLen_eq, drlK_true, vDrCell_eq, drcK_true, drc2_int, drc3_some, sDrPut_eq, drpK_int, vPop_eq, popK_some, popK2_some, iKeysT_eq, gIsN_of, gNotN_of, isNone_none, isNone_int, isNone_tup, isT_bool_none, isT_int_none, forL_dr, str_ne, List.getElem?_cons_zero, List.getElem?_cons_succ, List.set_cons_zero, List.set_cons_succ, Option.map_some, Option.bind_some, if_true, if_false, ite_true, ite_false, iteM, iteMS, Bool.false_eq_true, small_eq, List.length_cons, List.length_nil, decide_eq_true_eq, eq_self, decide_true, Int.toNat_natCast, Nat.reduceLeDiff, Nat.reduceAdd, Nat.reduceMul, Nat.zero_le, Nat.zero_add, e]
  | false => rw [hb] at e; simp only [bnd_eq, bind_ok, ret_eq, ofO_some, toD_eq, frz_val, frz_own, toB_eq, boolOf_b, vVar_eq, varK_val, varK_root, varK_own, vBin_eq, vUn_eq, vAnd_eq, vOr_eq, vNot_eq, tAnd_eq, tOr_eq, tNot_eq, vIfE_eq, aNil_eq, aCons_eq, vTup_eq, vLst_eq, vCB_eq, chain_eq, vIsi_eq, vIsi2_eq, noDict_int, noDict_tuple, noDict_list, noDict_none, noDict_bool, noDict_str, isT_int_int, isT_bool_int, isT_tuple_tuple, isT_tuple_int, isT_int_tuple, gAdd_int, gAdd_tup, gAdd_lst, gSub_int, gMul_int, gMul_tup, gMul_lst, gMod_int, gDiv_int, gPow_int, gLt_int, gLe_int, gGt_int, gGe_int, gEq_int, gNe_int, gNeg_int, gRev_tup, gIx_tup, gIx_lst, gLen_tup, gLen_lst, gAbs_int, gMin_int, gMax_int, gInt_int, gTuple_lst, gTuple_tup, gList_lst, gList_tup, gSum_ints, gAll_bools, gAny_bools, vIxV_eq, ixK_some, ixK2_some, slotD_val, slotD_own, vLenV_eq, lenK_some, tTruV_eq, truK_some, tTru_eq, truD_bool, truD_int, truD_tup, truD_lst, truD_none, vApp_eq, appK_some, appK2_some, ownOf_own, thenK_ok, thenS_eq, sSetIx_eq, setIxK_some, setIxK2_some, setIxK3_some, sSeq_eq, seqK_nx, seqK_rt, seqK_bk, seqK_ct, sNext_eq, sBreak_eq, sCont_eq, sRet_eq, sRetN_eq, sExpr_eq, sSet_eq, sIf_eq, asgK_some, sAsg_eq, gNm_eq, gTp_tup, gAll2_nil, gAll2_cons, bNil_eq, bCons_eq, parK_two, sPar_eq, iSeq_eq, seqOf_tup, seqOf_lst, iRg_eq, vCallP_eq, callK_ret, vCallR_eq, callRK_ret, rNil_eq, rCons_eq, argOf_val, argOf_own, argOf_root, oNone_eq, oSome_eq, intOf_int, vSlice_eq, gSl_tup, gSl_lst, wipe_nil, wipe_cons, outP_val, outP_own, outP_ownT, outP_nx, outR_rt, outR_nx, vNewT_eq, vDisp1_eq, vTake_eq, takeK_some, ownTOf_own, iItemsT_eq, dictOf_own, sPutT_eq, putK1_some, putK2_some, vGetT_eq, getK1_some, getK2_some, keyOf_ints, forK_some, forK2_nx, forK2_ct, forK2_bk, forK2_rt, lcK_ok, dcK_ok, ttYes_eq, lcK3_some, dcK3_some, dcK4_some, vDrGet_eq, drgK_true, isRoot_root, vDrLen_eq, drlK_true, vDrCell_eq, drcK_true, drc2_int, drc3_some, sDrPut_eq, drpK_int, vPop_eq, popK_some, popK2_some, iKeysT_eq, gIsN_of, gNotN_of, isNone_none, isNone_int, isNone_tup, isT_bool_none, isT_int_none, forL_dr, str_ne, List.getElem?_cons_zero, List.getElem?_cons_succ, List.set_cons_zero, List.set_cons_succ, Option.map_some, Option.bind_some, if_true, if_false, ite_true, ite_false, iteM, iteMS, Bool.false_eq_true, small_eq, List.length_cons, List.length_nil, decide_eq_true_eq, eq_self, decide_true, Int.toNat_natCast, Nat.reduceLeDiff, Nat.reduceAdd, Nat.reduceMul, Nat.zero_le, Nat.zero_add, e]
theorem dep_loop {w : List Int} (hw : WordOk w) : ∀ (n lo : Nat) (s1 : Slot), lo + n ≤ 11 →
    (forL [1] (gNm 1) bDep (rangeD lo n) [.val (dW w), s1, .emp] () = .nx [.val (dW w), .emp, .emp] () ∧ ∀ i, lo ≤ i → i < lo + n → ((expT i w).any fun x => !x.1.isEmpty) = false) ∨
    ∃ m, lo ≤ m ∧ m < lo + n ∧ forL [1] (gNm 1) bDep (rangeD lo n) [.val (dW w), s1, .emp] () = .rt (.val (.int (m : Nat))) () ∧ ((expT m w).any fun x => !x.1.isEmpty) = true ∧ ∀ i, lo ≤ i → i < m → ((expT i w).any fun x => !x.1.isEmpty) = false
  | 0, lo, s1, _ => .inl ⟨rfl, fun i h1 h2 => by omega⟩
  | n + 1, lo, s1, hl => by
    have e := dep_turn lo (by omega) hw
    rw [rangeD_succ, forL_cons]
    have e0 : forK (gNm 1 (.int (lo : Int)) (wipeS [1] [.val (dW w), s1, .emp])) [1] (gNm 1) bDep (rangeD ((lo : Int) + 1) n) () = forK2 (bDep [.val (dW w), .val (.int (lo : Int)), .emp] ()) [1] (gNm 1) bDep (rangeD ((lo : Int) + 1) n) := rfl
    rw [e0, e]
    cases hb : (expT lo w).any fun x => !x.1.isEmpty with
    | true =>
      right
      exact ⟨lo, Nat.le_refl _, by omega, by rw [if_pos rfl, forK2_rt], hb, fun i h1 h2 => by omega⟩
    | false =>
      rw [if_neg (by simp), forK2_nx]
      have ei : (lo : Int) + 1 = ((lo + 1 : Nat) : Int) := by omega
      rw [ei]
      have mine : ∀ i : Nat, lo ≤ i → ¬ lo + 1 ≤ i → ((expT i w).any fun x => !x.1.isEmpty) = false := fun i h1 h2 => by
        have : i = lo := by omega
        rw [this]; exact hb
      rcases dep_loop hw n (lo + 1) (.val (.int (lo : Int))) (by omega) with ⟨h1, h2⟩ | ⟨m, h1, h2, h3, h4, h5⟩
      · left
        refine ⟨h1, fun i k1 k2 => ?_⟩
        by_cases z : lo + 1 ≤ i
        · exact h2 i z (by omega)
        · exact mine i k1 z
      · right
        refine ⟨m, by omega, by omega, h3, h4, fun i k1 k2 => ?_⟩
        by_cases z : lo + 1 ≤ i
        · exact h5 i z k2
        · exact mine i k1 z
theorem not_any {most : Nat} {w : List Int} (hw : WordOk w) (h : ((expT most w).any fun x => !x.1.isEmpty) = false) {s : List Int} (h1 : s ≠ []) (h2 : s.length ≤ most) : expF w s = 0 := by
  by_cases z : expF w s = 0
  · exact z
  · have := (any_key (most := most) hw).mpr ⟨s, h1, h2, z⟩
    rw [h] at this
    cases this
theorem depth_ok {w : List Int} (hw : WordOk w) (hl : w.length ≤ 10) : ∃ d, m_depth_of [dW w] = .ret (.val d) ∧ DepIs (expF w) d ∧ (d = .none ∨ ∃ n : Nat, d = .int n ∧ 1 ≤ n ∧ n ≤ 10) := by
  have e1 := check_word_ok hw (by omega)
  have e2 := left_ok' w (by omega)
  have hw' := left_ok hw
  have hl' := left_len w
  have ef := expF_left (nz_of hw)
  have hg := rg2_one (n := (leftOut w).length) (by omega)
  have fin : ∀ x, forL [1] (gNm 1) bDep (rangeD 1 (leftOut w).length) [.val (dW (leftOut w)), .emp, .emp] () = x → m_depth_of [dW w] = outP (seqK x (sRet (ret (.val .none)))) := fun x h => by
    unfold m_depth_of
    show outP (c_depth_of [.val (dW w), .emp, .emp] ()) = _
    rw [dep_eq]
    simp only [bnd_eq, bind_ok, ret_eq, ofO_some, toD_eq, frz_val, frz_own, toB_eq, boolOf_b, vVar_eq, varK_val, varK_root, varK_own, vBin_eq, vUn_eq, vAnd_eq, vOr_eq, vNot_eq, tAnd_eq, tOr_eq, tNot_eq, vIfE_eq, aNil_eq, aCons_eq, vTup_eq, vLst_eq, vCB_eq, chain_eq, vIsi_eq, vIsi2_eq, noDict_int, noDict_tuple, noDict_list, noDict_none, noDict_bool, noDict_str, isT_int_int, isT_bool_int, isT_tuple_tuple, isT_tuple_int, isT_int_tuple, gAdd_int, gAdd_tup, gAdd_lst, gSub_int, gMul_int, gMul_tup, gMul_lst, gMod_int, gDiv_int, gPow_int, gLt_int, gLe_int, gGt_int, gGe_int, gEq_int, gNe_int, gNeg_int, gRev_tup, gIx_tup, gIx_lst, gLen_tup, gLen_lst, gAbs_int, gMin_int, gMax_int, gInt_int, gTuple_lst, gTuple_tup, gList_lst, gList_tup, gSum_ints, gAll_bools, gAny_bools, vIxV_eq, ixK_some, ixK2_some, slotD_val, slotD_own, vLenV_eq, lenK_some, tTruV_eq, truK_some, tTru_eq, truD_bool, truD_int, truD_tup, truD_lst, truD_none, vApp_eq, appK_some, appK2_some, ownOf_own, thenK_ok, thenS_eq, sSetIx_eq, setIxK_some, setIxK2_some, setIxK3_some, sSeq_eq, seqK_nx, seqK_rt, seqK_bk, seqK_ct, sNext_eq, sBreak_eq, sCont_eq, sRet_eq, sRetN_eq, sExpr_eq, sSet_eq, sIf_eq, asgK_some, sAsg_eq, gNm_eq, gTp_tup, gAll2_nil, gAll2_cons, bNil_eq, bCons_eq, parK_two, sPar_eq, iSeq_eq, seqOf_tup, seqOf_lst, iRg_eq, vCallP_eq, callK_ret, vCallR_eq, callRK_ret, rNil_eq, rCons_eq, argOf_val, argOf_own, argOf_root, oNone_eq, oSome_eq, intOf_int, vSlice_eq, gSl_tup, gSl_lst, wipe_nil, wipe_cons, outP_val, outP_own, outP_ownT, outP_nx, outR_rt, outR_nx, vNewT_eq, vDisp1_eq, vTake_eq, takeK_some, ownTOf_own, iItemsT_eq, dictOf_own, sPutT_eq, putK1_some, putK2_some, vGetT_eq, getK1_some, getK2_some, keyOf_ints, forK_some, forK2_nx, forK2_ct, forK2_bk, forK2_rt, lcK_ok, dcK_ok, ttYes_eq, lcK3_some, dcK3_some, dcK4_some, vDrGet_eq, drgK_true, isRoot_root, vDrLen_eq, drlK_true, vDrCell_eq, drcK_true, drc2_int, drc3_some, sDrPut_eq, drpK_int, vPop_eq, popK_some, popK2_some, iKeysT_eq, gIsN_of, gNotN_of, isNone_none, isNone_int, isNone_tup, isT_bool_none, isT_int_none, forL_dr, str_ne, List.getElem?_cons_zero, List.getElem?_cons_succ, List.set_cons_zero, List.set_cons_succ, Option.map_some, Option.bind_some, if_true, if_false, ite_true, ite_false, iteM, iteMS, Bool.false_eq_true, small_eq, List.length_cons, List.length_nil, decide_eq_true_eq, eq_self, decide_true, Int.toNat_natCast, Nat.reduceLeDiff, Nat.reduceAdd, Nat.reduceMul, Nat.zero_le, Nat.zero_add, e1, e2, sFor_eq, len_dI, hg, h]
  rcases dep_loop hw' (leftOut w).length 1 .emp (by omega) with ⟨h1, h2⟩ | ⟨m, h1, h2, h3, h4, h5⟩
  · refine ⟨.none, (fin _ h1).trans rfl, .inl ⟨rfl, fun s hs => ?_⟩, .inl rfl⟩
    by_cases z : leftOut w = []
    · rw [← ef, z]; exact if_neg hs
    · obtain ⟨t, t1, t2, t3⟩ := magnus (nz_of hw') (red_left w) z
      have hp : 1 ≤ (leftOut w).length := List.length_pos_iff.mpr z
      exact absurd (not_any hw' (h2 (leftOut w).length (by omega) (by omega)) t1 t2) t3
  · refine ⟨.int (m : Int), (fin _ h3).trans rfl, .inr ⟨m, h1, rfl, fun s hs hlt => ?_, ?_⟩, .inr ⟨m, rfl, h1, by omega⟩⟩
    · rw [← ef]
      have : 1 ≤ s.length := List.length_pos_iff.mpr hs
      exact not_any hw' (h5 s.length this hlt) hs (Nat.le_refl _)
    · obtain ⟨s, k1, k2, k3⟩ := (any_key hw').mp h4
      refine ⟨s, ?_, by rw [← ef]; exact k3⟩
      rcases Nat.lt_or_ge s.length m with z | z
      · have : 1 ≤ s.length := List.length_pos_iff.mpr k1
        exact absurd (not_any hw' (h5 s.length this z) k1 (Nat.le_refl _)) k3
      · omega
/-! ### right depths -/
theorem sortD_perm (xs : List D) : (sortD xs).Perm xs := List.mergeSort_perm _ _
theorem sortD_nil : sortD [] = [] := by
  unfold sortD
  simp
theorem told_fn {most : Nat} {w : List Int} (hw : WordOk w) {x : List Int × Int} (h : x ∈ toldL most w) : x.1 ≠ [] ∧ x.1.length ≤ most ∧ expF w x.1.reverse ≠ 0 := by
  obtain ⟨⟨h1, h2, _⟩, h3, h4⟩ := due_mem.mp ((told_due hw).mem_iff.mp h)
  exact ⟨fun z => by rw [z] at h1; exact absurd h1 (by decide), h2, by rw [← h3]; exact h4⟩
def lenE : D → D
  | .tuple [.tuple ps, _] => .int ps.length
  | _ => .none
theorem lens_val (S : List D) (hS : S.length ≤ 1000) (h : ∀ d ∈ S, ∃ x : List Int × Int, d = encI x) {W N : D} {m : Nat} {it : M Unit Slot} (hit : it [.val W, .val N, .emp, .emp] () = .ok (.val (.tuple S)) [.val W, .val N, .emp, .emp] ()) :
    vLc [3] (iSeq it) (gNm 3) ttYes (vCB gLen (aCons (vIxV 3 (ret (.val (.int 0)))) aNil)) [.val W, .val N, .emp, .emp] () = .ok (.own (S.map lenE)) [.val W, .val N, .emp, .emp] () := by
  rw [vLc_map (ds := S) (ρ1 := [.val W, .val N, .emp, .emp]) lenE]
  · simp only [bnd_eq, bind_ok, ret_eq, ofO_some, toD_eq, frz_val, frz_own, toB_eq, boolOf_b, vVar_eq, varK_val, varK_root, varK_own, vBin_eq, vUn_eq, vAnd_eq, vOr_eq, vNot_eq, tAnd_eq, tOr_eq, tNot_eq, vIfE_eq, aNil_eq, aCons_eq, vTup_eq, vLst_eq, vCB_eq, chain_eq, vIsi_eq, vIsi2_eq, noDict_int, noDict_tuple, noDict_list, noDict_none, noDict_bool, noDict_str, isT_int_int, isT_bool_int, isT_tuple_tuple, isT_tuple_int, isT_int_tuple, gAdd_int, gAdd_tup, gAdd_lst, gSub_int, gMul_int, gMul_tup, gMul_lst, gMod_int, gDiv_int, gPow_int, gLt_int, gLe_int, gGt_int, gGe_int, gEq_int, gNe_int, gNeg_int, gRev_tup, gIx_tup, gIx_lst, gLen_tup, gLen_lst, gAbs_int, gMin_int, gMax_int, gInt_int, gTuple_lst, gTuple_tup, gList_lst, gList_tup, gSum_ints, gAll_bools, gAny_bools, vIxV_eq, ixK_some, ixK2_some, slotD_val, slotD_own, vLenV_eq, lenK_some, tTruV_eq, truK_some, tTru_eq, truD_bool, truD_int, truD_tup, truD_lst, truD_none, vApp_eq, appK_some, appK2_some, ownOf_own, thenK_ok, thenS_eq, sSetIx_eq, setIxK_some, setIxK2_some, setIxK3_some, sSeq_eq, seqK_nx, seqK_rt, seqK_bk, seqK_ct, sNext_eq, sBreak_eq, sCont_eq, sRet_eq, sRetN_eq, sExpr_eq, sSet_eq, sIf_eq, asgK_some, sAsg_eq, gNm_eq, gTp_tup, gAll2_nil, gAll2_cons, bNil_eq, bCons_eq, parK_two, sPar_eq, iSeq_eq, seqOf_tup, seqOf_lst, iRg_eq, vCallP_eq, callK_ret, vCallR_eq, callRK_ret, rNil_eq, rCons_eq, argOf_val, argOf_own, argOf_root, oNone_eq, oSome_eq, intOf_int, vSlice_eq, gSl_tup, gSl_lst, wipe_nil, wipe_cons, outP_val, outP_own, outP_ownT, outP_nx, outR_rt, outR_nx, vNewT_eq, vDisp1_eq, vTake_eq, takeK_some, ownTOf_own, iItemsT_eq, dictOf_own, sPutT_eq, putK1_some, putK2_some, vGetT_eq, getK1_some, getK2_some, keyOf_ints, forK_some, forK2_nx, forK2_ct, forK2_bk, forK2_rt, lcK_ok, dcK_ok, ttYes_eq, lcK3_some, dcK3_some, dcK4_some, vDrGet_eq, drgK_true, isRoot_root, vDrLen_eq, drlK_true, vDrCell_eq, drcK_true, drc2_int, drc3_some, sDrPut_eq, drpK_int, vPop_eq, popK_some, popK2_some, iKeysT_eq, gIsN_of, gNotN_of, isNone_none, isNone_int, isNone_tup, isT_bool_none, isT_int_none, forL_dr, str_ne, List.getElem?_cons_zero, List.getElem?_cons_succ, List.set_cons_zero, List.set_cons_succ, Option.map_some, Option.bind_some, if_true, if_false, ite_true, ite_false, iteM, iteMS, Bool.false_eq_true, small_eq, List.length_cons, List.length_nil, decide_eq_true_eq, eq_self, decide_true, Int.toNat_natCast, Nat.reduceLeDiff, Nat.reduceAdd, Nat.reduceMul, Nat.zero_le, Nat.zero_add, hit]
  · intro d hd
    obtain ⟨x, rfl⟩ := h d hd
    refine ⟨_, [.val W, .val N, .emp, .val (encI x)], rfl, ?_, rfl⟩
    have e : atI [dW x.1, PyData.int x.2] (0 : Int) = some (dW x.1) := rfl
    unfold encI
    simp only [bnd_eq, bind_ok, ret_eq, ofO_some, toD_eq, frz_val, frz_own, toB_eq, boolOf_b, vVar_eq, varK_val, varK_root, varK_own, vBin_eq, vUn_eq, vAnd_eq, vOr_eq, vNot_eq, tAnd_eq, tOr_eq, tNot_eq, vIfE_eq, aNil_eq, aCons_eq, vTup_eq, vLst_eq, vCB_eq, chain_eq, vIsi_eq, vIsi2_eq, noDict_int, noDict_tuple, noDict_list, noDict_none, noDict_bool, noDict_str, isT_int_int, isT_bool_int, isT_tuple_tuple, isT_tuple_int, isT_int_tuple, gAdd_int, gAdd_tup, gAdd_lst, gSub_int, gMul_int, gMul_tup, gMul_lst, gMod_int, gDiv_int, gPow_int, gLt_int, gLe_int, gGt_int, gGe_int, gEq_int, gNe_int, gNeg_int, gRev_tup, gIx_tup, gIx_lst, gLen_tup, gLen_lst, gAbs_int, gMin_int, gMax_int, gInt_int, gTuple_lst, gTuple_tup, gList_lst, gList_tup, gSum_ints, gAll_bools, gAny_bools, vIxV_eq, ixK_some, ixK2_some, slotD_val, slotD_own, vLenV_eq, lenK_some, tTruV_eq, truK_some, tTru_eq, truD_bool, truD_int, truD_tup, truD_lst, truD_none, vApp_eq, appK_some, appK2_some, ownOf_own, thenK_ok, thenS_eq, sSetIx_eq, setIxK_some, setIxK2_some, setIxK3_some, sSeq_eq, seqK_nx, seqK_rt, seqK_bk, seqK_ct, sNext_eq, sBreak_eq, sCont_eq, sRet_eq, sRetN_eq, sExpr_eq, sSet_eq, sIf_eq, asgK_some, sAsg_eq, gNm_eq, gTp_tup, gAll2_nil, gAll2_cons, bNil_eq, bCons_eq, parK_two, sPar_eq, iSeq_eq, seqOf_tup, seqOf_lst, iRg_eq, vCallP_eq, callK_ret, vCallR_eq, callRK_ret, rNil_eq, rCons_eq, argOf_val, argOf_own, argOf_root, oNone_eq, oSome_eq, intOf_int, vSlice_eq, gSl_tup, gSl_lst, wipe_nil, wipe_cons, outP_val, outP_own, outP_ownT, outP_nx, outR_rt, outR_nx, vNewT_eq, vDisp1_eq, vTake_eq, takeK_some, ownTOf_own, iItemsT_eq, dictOf_own, sPutT_eq, putK1_some, putK2_some, vGetT_eq, getK1_some, getK2_some, keyOf_ints, forK_some, forK2_nx, forK2_ct, forK2_bk, forK2_rt, lcK_ok, dcK_ok, ttYes_eq, lcK3_some, dcK3_some, dcK4_some, vDrGet_eq, drgK_true, isRoot_root, vDrLen_eq, drlK_true, vDrCell_eq, drcK_true, drc2_int, drc3_some, sDrPut_eq, drpK_int, vPop_eq, popK_some, popK2_some, iKeysT_eq, gIsN_of, gNotN_of, isNone_none, isNone_int, isNone_tup, isT_bool_none, isT_int_none, forL_dr, str_ne, List.getElem?_cons_zero, List.getElem?_cons_succ, List.set_cons_zero, List.set_cons_succ, Option.map_some, Option.bind_some, if_true, if_false, ite_true, ite_false, iteM, iteMS, Bool.false_eq_true, small_eq, List.length_cons, List.length_nil, decide_eq_true_eq, eq_self, decide_true, Int.toNat_natCast, Nat.reduceLeDiff, Nat.reduceAdd, Nat.reduceMul, Nat.zero_le, Nat.zero_add, e]
    rfl
  · omega
  · intro i hi s hs
    obtain rfl : i = 3 := by simpa using hi
    obtain rfl : Slot.emp = s := by simpa using hs
    rfl
theorem allM_rep (k : Nat) (n : Int) : allM intOf (List.replicate k (PyData.int n)) = some (List.replicate k n) := by
  have := allM_ints (List.replicate k n)
  rw [List.map_replicate] at this
  exact this
theorem minI_rep (n : Int) : ∀ k : Nat, minI n (List.replicate k n) = n
  | 0 => rfl
  | k + 1 => by
    have ih := minI_rep n k
    show minI (if n < n then n else n) (List.replicate k n) = n
    split <;> exact ih
theorem right_ok {w : List Int} (hw : WordOk w) (hl : w.length ≤ 10) {n : Nat} (h1 : 1 ≤ n) (h10 : n ≤ 10) (h : DepIs (expF w) (.int n)) : m__law_right [dW w, .int n] = .ret (.val (.bool true)) := by
  obtain ⟨h2, t, t1, t2⟩ : (∀ s, s ≠ [] → s.length < n → expF w s = 0) ∧ ∃ s, s.length = n ∧ expF w s ≠ 0 := by
    rcases h with ⟨z, _⟩ | ⟨m, _, e, a, b⟩
    · cases z
    · have : m = n := by cases e; omega
      subst this
      exact ⟨a, b⟩
  have hne : t ≠ [] := fun z => by subst z; rw [← t1] at h1; exact absurd h1 (by decide)
  have hl1 : ¬ ((n : Int) < 1) := by omega
  by_cases h4 : n ≤ 4
  · have em : (if (4 : Int) < (n : Int) then (4 : Int) else (n : Int)) = (n : Int) := by rw [if_neg (by omega)]
    have ex := expansion_ok n h1 h4 hw (by omega)
    have tl := told_len h4 hw
    have lv := lens_val (W := dW w) (N := .int n) (m := n) (it := vCallP m_expansion (aCons (vVar 0) (aCons (vCB gMin (aCons (vVar 1) (aCons (ret (.val (.int 4))) aNil))) aNil))) (sortD ((toldL n w).map encI)) (by rw [(sortD_perm _).length_eq, List.length_map]; omega) (fun d hd => by
      obtain ⟨x, _, rfl⟩ := List.mem_map.mp ((sortD_perm _).mem_iff.mp hd)
      exact ⟨x, rfl⟩) (by simp only [bnd_eq, bind_ok, ret_eq, ofO_some, toD_eq, frz_val, frz_own, toB_eq, boolOf_b, vVar_eq, varK_val, varK_root, varK_own, vBin_eq, vUn_eq, vAnd_eq, vOr_eq, vNot_eq, tAnd_eq, tOr_eq, tNot_eq, vIfE_eq, aNil_eq, aCons_eq, vTup_eq, vLst_eq, vCB_eq, chain_eq, vIsi_eq, vIsi2_eq, noDict_int, noDict_tuple, noDict_list, noDict_none, noDict_bool, noDict_str, isT_int_int, isT_bool_int, isT_tuple_tuple, isT_tuple_int, isT_int_tuple, gAdd_int, gAdd_tup, gAdd_lst, gSub_int, gMul_int, gMul_tup, gMul_lst, gMod_int, gDiv_int, gPow_int, gLt_int, gLe_int, gGt_int, gGe_int, gEq_int, gNe_int, gNeg_int, gRev_tup, gIx_tup, gIx_lst, gLen_tup, gLen_lst, gAbs_int, gMin_int, gMax_int, gInt_int, gTuple_lst, gTuple_tup, gList_lst, gList_tup, gSum_ints, gAll_bools, gAny_bools, vIxV_eq, ixK_some, ixK2_some, slotD_val, slotD_own, vLenV_eq, lenK_some, tTruV_eq, truK_some, tTru_eq, truD_bool, truD_int, truD_tup, truD_lst, truD_none, vApp_eq, appK_some, appK2_some, ownOf_own, thenK_ok, thenS_eq, sSetIx_eq, setIxK_some, setIxK2_some, setIxK3_some, sSeq_eq, seqK_nx, seqK_rt, seqK_bk, seqK_ct, sNext_eq, sBreak_eq, sCont_eq, sRet_eq, sRetN_eq, sExpr_eq, sSet_eq, sIf_eq, asgK_some, sAsg_eq, gNm_eq, gTp_tup, gAll2_nil, gAll2_cons, bNil_eq, bCons_eq, parK_two, sPar_eq, iSeq_eq, seqOf_tup, seqOf_lst, iRg_eq, vCallP_eq, callK_ret, vCallR_eq, callRK_ret, rNil_eq, rCons_eq, argOf_val, argOf_own, argOf_root, oNone_eq, oSome_eq, intOf_int, vSlice_eq, gSl_tup, gSl_lst, wipe_nil, wipe_cons, outP_val, outP_own, outP_ownT, outP_nx, outR_rt, outR_nx, vNewT_eq, vDisp1_eq, vTake_eq, takeK_some, ownTOf_own, iItemsT_eq, dictOf_own, sPutT_eq, putK1_some, putK2_some, vGetT_eq, getK1_some, getK2_some, keyOf_ints, forK_some, forK2_nx, forK2_ct, forK2_bk, forK2_rt, lcK_ok, dcK_ok, ttYes_eq, lcK3_some, dcK3_some, dcK4_some, vDrGet_eq, drgK_true, isRoot_root, vDrLen_eq, drlK_true, vDrCell_eq, drcK_true, drc2_int, drc3_some, sDrPut_eq, drpK_int, vPop_eq, popK_some, popK2_some, iKeysT_eq, gIsN_of, gNotN_of, isNone_none, isNone_int, isNone_tup, isT_bool_none, isT_int_none, forL_dr, str_ne, List.getElem?_cons_zero, List.getElem?_cons_succ, List.set_cons_zero, List.set_cons_succ, Option.map_some, Option.bind_some, if_true, if_false, ite_true, ite_false, iteM, iteMS, Bool.false_eq_true, small_eq, List.length_cons, List.length_nil, decide_eq_true_eq, eq_self, decide_true, Int.toNat_natCast, Nat.reduceLeDiff, Nat.reduceAdd, Nat.reduceMul, Nat.zero_le, Nat.zero_add, em, ex])
    have er : (sortD ((toldL n w).map encI)).map lenE = List.replicate (toldL n w).length (.int n) := by
      rw [List.eq_replicate_iff]
      refine ⟨by rw [List.length_map, (sortD_perm _).length_eq, List.length_map], fun d hd => ?_⟩
      obtain ⟨y, hy, rfl⟩ := List.mem_map.mp hd
      obtain ⟨x, hx, rfl⟩ := List.mem_map.mp ((sortD_perm _).mem_iff.mp hy)
      obtain ⟨a1, a2, a3⟩ := told_fn hw hx
      have : x.1.length = n := by
        rcases Nat.lt_or_ge x.1.length n with z | z
        · exact absurd (h2 x.1.reverse (by simpa using a1) (by rw [List.length_reverse]; exact z)) a3
        · omega
      show PyData.int ((dI x.1).length : Int) = _
      rw [len_dI, this]
    have hk : (toldL n w).length ≠ 0 := fun z => told_of hw hne (by omega) t2 (List.length_eq_zero_iff.mp z)
    obtain ⟨k, hk⟩ : ∃ k, (toldL n w).length = k + 1 := ⟨(toldL n w).length - 1, by omega⟩
    rw [er, hk] at lv
    have em2 : gMinL [.list (List.replicate (k + 1) (PyData.int n))] = some (.val (.int n)) := by
      show (match allM intOf (List.replicate (k + 1) (PyData.int n)) with | some (n :: ns) => some (Slot.val (.int (minI n ns))) | _ => none) = _
      rw [allM_rep]
      show some (Slot.val (.int (minI n (List.replicate k (n : Int))))) = _
      rw [minI_rep]
    have hg : ¬ ((n : Int) > 4) := by omega
    have hk0 : ((k + 1 : Nat) : Int) > 0 := by omega
    unfold m__law_right
    show outP (c__law_right [.val (dW w), .val (.int n), .emp, .emp] ()) = _
    unfold c__law_right
    simp only [bnd_eq, bind_ok, ret_eq, ofO_some, toD_eq, frz_val, frz_own, toB_eq, boolOf_b, vVar_eq, varK_val, varK_root, varK_own, vBin_eq, vUn_eq, vAnd_eq, vOr_eq, vNot_eq, tAnd_eq, tOr_eq, tNot_eq, vIfE_eq, aNil_eq, aCons_eq, vTup_eq, vLst_eq, vCB_eq, chain_eq, vIsi_eq, vIsi2_eq, noDict_int, noDict_tuple, noDict_list, noDict_none, noDict_bool, noDict_str, isT_int_int, isT_bool_int, isT_tuple_tuple, isT_tuple_int, isT_int_tuple, gAdd_int, gAdd_tup, gAdd_lst, gSub_int, gMul_int, gMul_tup, gMul_lst, gMod_int, gDiv_int, gPow_int, gLt_int, gLe_int, gGt_int, gGe_int, gEq_int, gNe_int, gNeg_int, gRev_tup, gIx_tup, gIx_lst, gLen_tup, gLen_lst, gAbs_int, gMin_int, gMax_int, gInt_int, gTuple_lst, gTuple_tup, gList_lst, gList_tup, gSum_ints, gAll_bools, gAny_bools, vIxV_eq, ixK_some, ixK2_some, slotD_val, slotD_own, vLenV_eq, lenK_some, tTruV_eq, truK_some, tTru_eq, truD_bool, truD_int, truD_tup, truD_lst, truD_none, vApp_eq, appK_some, appK2_some, ownOf_own, thenK_ok, thenS_eq, sSetIx_eq, setIxK_some, setIxK2_some, setIxK3_some, sSeq_eq, seqK_nx, seqK_rt, seqK_bk, seqK_ct, sNext_eq, sBreak_eq, sCont_eq, sRet_eq, sRetN_eq, sExpr_eq, sSet_eq, sIf_eq, asgK_some, sAsg_eq, gNm_eq, gTp_tup, gAll2_nil, gAll2_cons, bNil_eq, bCons_eq, parK_two, sPar_eq, iSeq_eq, seqOf_tup, seqOf_lst, iRg_eq, vCallP_eq, callK_ret, vCallR_eq, callRK_ret, rNil_eq, rCons_eq, argOf_val, argOf_own, argOf_root, oNone_eq, oSome_eq, intOf_int, vSlice_eq, gSl_tup, gSl_lst, wipe_nil, wipe_cons, outP_val, outP_own, outP_ownT, outP_nx, outR_rt, outR_nx, vNewT_eq, vDisp1_eq, vTake_eq, takeK_some, ownTOf_own, iItemsT_eq, dictOf_own, sPutT_eq, putK1_some, putK2_some, vGetT_eq, getK1_some, getK2_some, keyOf_ints, forK_some, forK2_nx, forK2_ct, forK2_bk, forK2_rt, lcK_ok, dcK_ok, ttYes_eq, lcK3_some, dcK3_some, dcK4_some, vDrGet_eq, drgK_true, isRoot_root, vDrLen_eq, drlK_true, vDrCell_eq, drcK_true, drc2_int, drc3_some, sDrPut_eq, drpK_int, vPop_eq, popK_some, popK2_some, iKeysT_eq, gIsN_of, gNotN_of, isNone_none, isNone_int, isNone_tup, isT_bool_none, isT_int_none, forL_dr, str_ne, List.getElem?_cons_zero, List.getElem?_cons_succ, List.set_cons_zero, List.set_cons_succ, Option.map_some, Option.bind_some, if_true, if_false, ite_true, ite_false, iteM, iteMS, Bool.false_eq_true, small_eq, List.length_cons, List.length_nil, decide_eq_true_eq, eq_self, decide_true, Int.toNat_natCast, Nat.reduceLeDiff, Nat.reduceAdd, Nat.reduceMul, Nat.zero_le, Nat.zero_add, hl1, decide_false, Bool.not_true, lv, hg, List.length_replicate, hk0, em2]
  · have em : (if (4 : Int) < (n : Int) then (4 : Int) else (n : Int)) = ((4 : Nat) : Int) := by rw [if_pos (by omega)]; rfl
    have ex := expansion_ok 4 (by decide) (by decide) hw (by omega)
    have e0 : toldL 4 w = [] := by
      cases hT : toldL 4 w with
      | nil => rfl
      | cons x T =>
        obtain ⟨a1, a2, a3⟩ := told_fn hw (x := x) (by rw [hT]; exact List.mem_cons_self ..)
        exact absurd (h2 x.1.reverse (by simpa using a1) (by rw [List.length_reverse]; omega)) a3
    rw [e0] at ex
    have e1 : sortD (([] : Tb).map encI) = [] := sortD_nil
    rw [e1] at ex
    have lv := lens_val (W := dW w) (N := .int n) (m := n) (it := vCallP m_expansion (aCons (vVar 0) (aCons (vCB gMin (aCons (vVar 1) (aCons (ret (.val (.int 4))) aNil))) aNil))) [] (by decide) (fun d hd => by cases hd) (by simp only [bnd_eq, bind_ok, ret_eq, ofO_some, toD_eq, frz_val, frz_own, toB_eq, boolOf_b, vVar_eq, varK_val, varK_root, varK_own, vBin_eq, vUn_eq, vAnd_eq, vOr_eq, vNot_eq, tAnd_eq, tOr_eq, tNot_eq, vIfE_eq, aNil_eq, aCons_eq, vTup_eq, vLst_eq, vCB_eq, chain_eq, vIsi_eq, vIsi2_eq, noDict_int, noDict_tuple, noDict_list, noDict_none, noDict_bool, noDict_str, isT_int_int, isT_bool_int, isT_tuple_tuple, isT_tuple_int, isT_int_tuple, gAdd_int, gAdd_tup, gAdd_lst, gSub_int, gMul_int, gMul_tup, gMul_lst, gMod_int, gDiv_int, gPow_int, gLt_int, gLe_int, gGt_int, gGe_int, gEq_int, gNe_int, gNeg_int, gRev_tup, gIx_tup, gIx_lst, gLen_tup, gLen_lst, gAbs_int, gMin_int, gMax_int, gInt_int, gTuple_lst, gTuple_tup, gList_lst, gList_tup, gSum_ints, gAll_bools, gAny_bools, vIxV_eq, ixK_some, ixK2_some, slotD_val, slotD_own, vLenV_eq, lenK_some, tTruV_eq, truK_some, tTru_eq, truD_bool, truD_int, truD_tup, truD_lst, truD_none, vApp_eq, appK_some, appK2_some, ownOf_own, thenK_ok, thenS_eq, sSetIx_eq, setIxK_some, setIxK2_some, setIxK3_some, sSeq_eq, seqK_nx, seqK_rt, seqK_bk, seqK_ct, sNext_eq, sBreak_eq, sCont_eq, sRet_eq, sRetN_eq, sExpr_eq, sSet_eq, sIf_eq, asgK_some, sAsg_eq, gNm_eq, gTp_tup, gAll2_nil, gAll2_cons, bNil_eq, bCons_eq, parK_two, sPar_eq, iSeq_eq, seqOf_tup, seqOf_lst, iRg_eq, vCallP_eq, callK_ret, vCallR_eq, callRK_ret, rNil_eq, rCons_eq, argOf_val, argOf_own, argOf_root, oNone_eq, oSome_eq, intOf_int, vSlice_eq, gSl_tup, gSl_lst, wipe_nil, wipe_cons, outP_val, outP_own, outP_ownT, outP_nx, outR_rt, outR_nx, vNewT_eq, vDisp1_eq, vTake_eq, takeK_some, ownTOf_own, iItemsT_eq, dictOf_own, sPutT_eq, putK1_some, putK2_some, vGetT_eq, getK1_some, getK2_some, keyOf_ints, forK_some, forK2_nx, forK2_ct, forK2_bk, forK2_rt, lcK_ok, dcK_ok, ttYes_eq, lcK3_some, dcK3_some, dcK4_some, vDrGet_eq, drgK_true, isRoot_root, vDrLen_eq, drlK_true, vDrCell_eq, drcK_true, drc2_int, drc3_some, sDrPut_eq, drpK_int, vPop_eq, popK_some, popK2_some, iKeysT_eq, gIsN_of, gNotN_of, isNone_none, isNone_int, isNone_tup, isT_bool_none, isT_int_none, forL_dr, str_ne, List.getElem?_cons_zero, List.getElem?_cons_succ, List.set_cons_zero, List.set_cons_succ, Option.map_some, Option.bind_some, if_true, if_false, ite_true, ite_false, iteM, iteMS, Bool.false_eq_true, small_eq, List.length_cons, List.length_nil, decide_eq_true_eq, eq_self, decide_true, Int.toNat_natCast, Nat.reduceLeDiff, Nat.reduceAdd, Nat.reduceMul, Nat.zero_le, Nat.zero_add, em, ex])
    have hg : ((n : Int) > 4) := by omega
    have eq0 : gEq (.list []) (.list []) = some (.val (.bool true)) := rfl
    rw [List.map_nil] at lv
    unfold m__law_right
    show outP (c__law_right [.val (dW w), .val (.int n), .emp, .emp] ()) = _
    unfold c__law_right
    simp only [bnd_eq, bind_ok, ret_eq, ofO_some, toD_eq, frz_val, frz_own, toB_eq, boolOf_b, vVar_eq, varK_val, varK_root, varK_own, vBin_eq, vUn_eq, vAnd_eq, vOr_eq, vNot_eq, tAnd_eq, tOr_eq, tNot_eq, vIfE_eq, aNil_eq, aCons_eq, vTup_eq, vLst_eq, vCB_eq, chain_eq, vIsi_eq, vIsi2_eq, noDict_int, noDict_tuple, noDict_list, noDict_none, noDict_bool, noDict_str, isT_int_int, isT_bool_int, isT_tuple_tuple, isT_tuple_int, isT_int_tuple, gAdd_int, gAdd_tup, gAdd_lst, gSub_int, gMul_int, gMul_tup, gMul_lst, gMod_int, gDiv_int, gPow_int, gLt_int, gLe_int, gGt_int, gGe_int, gEq_int, gNe_int, gNeg_int, gRev_tup, gIx_tup, gIx_lst, gLen_tup, gLen_lst, gAbs_int, gMin_int, gMax_int, gInt_int, gTuple_lst, gTuple_tup, gList_lst, gList_tup, gSum_ints, gAll_bools, gAny_bools, vIxV_eq, ixK_some, ixK2_some, slotD_val, slotD_own, vLenV_eq, lenK_some, tTruV_eq, truK_some, tTru_eq, truD_bool, truD_int, truD_tup, truD_lst, truD_none, vApp_eq, appK_some, appK2_some, ownOf_own, thenK_ok, thenS_eq, sSetIx_eq, setIxK_some, setIxK2_some, setIxK3_some, sSeq_eq, seqK_nx, seqK_rt, seqK_bk, seqK_ct, sNext_eq, sBreak_eq, sCont_eq, sRet_eq, sRetN_eq, sExpr_eq, sSet_eq, sIf_eq, asgK_some, sAsg_eq, gNm_eq, gTp_tup, gAll2_nil, gAll2_cons, bNil_eq, bCons_eq, parK_two, sPar_eq, iSeq_eq, seqOf_tup, seqOf_lst, iRg_eq, vCallP_eq, callK_ret, vCallR_eq, callRK_ret, rNil_eq, rCons_eq, argOf_val, argOf_own, argOf_root, oNone_eq, oSome_eq, intOf_int, vSlice_eq, gSl_tup, gSl_lst, wipe_nil, wipe_cons, outP_val, outP_own, outP_ownT, outP_nx, outR_rt, outR_nx, vNewT_eq, vDisp1_eq, vTake_eq, takeK_some, ownTOf_own, iItemsT_eq, dictOf_own, sPutT_eq, putK1_some, putK2_some, vGetT_eq, getK1_some, getK2_some, keyOf_ints, forK_some, forK2_nx, forK2_ct, forK2_bk, forK2_rt, lcK_ok, dcK_ok, ttYes_eq, lcK3_some, dcK3_some, dcK4_some, vDrGet_eq, drgK_true, isRoot_root, vDrLen_eq, drlK_true, vDrCell_eq, drcK_true, drc2_int, drc3_some, sDrPut_eq, drpK_int, vPop_eq, popK_some, popK2_some, iKeysT_eq, gIsN_of, gNotN_of, isNone_none, isNone_int, isNone_tup, isT_bool_none, isT_int_none, forL_dr, str_ne, List.getElem?_cons_zero, List.getElem?_cons_succ, List.set_cons_zero, List.set_cons_succ, Option.map_some, Option.bind_some, if_true, if_false, ite_true, ite_false, iteM, iteMS, Bool.false_eq_true, small_eq, List.length_cons, List.length_nil, decide_eq_true_eq, eq_self, decide_true, Int.toNat_natCast, Nat.reduceLeDiff, Nat.reduceAdd, Nat.reduceMul, Nat.zero_le, Nat.zero_add, hl1, decide_false, Bool.not_true, lv, hg, eq0]
/-! ### the drawn words -/
theorem word_nat (most : Nat) (k : Int) (hk : k = most) (hm : most ≤ 100) (d : Dr) (h0 : DrOk d) : ∃ w d', m__law_word [.root, .val (.int k)] d = .ret (.val (dW w)) d' ∧ WordOk w ∧ w.length ≤ most ∧ DrOk d' := by
  subst hk
  exact word_ok most hm d h0
theorem ok_app {a b : List Int} (ha : WordOk a) (hb : WordOk b) : WordOk (a ++ b) := fun l hl => by
  rcases List.mem_append.mp hl with z | z
  · exact ha l z
  · exact hb l z
theorem drawn_ok (d : Dr) (h0 : DrOk d) : ∃ w d', m__law_drawn [.root] d = .ret (.val (dW w)) d' ∧ WordOk w ∧ w.length ≤ 10 ∧ DrOk d' := by
  obtain ⟨n, d1, e1, n0, n1, h1⟩ := draw_ok 5 d h0 (by decide) (by decide)
  obtain ⟨a, d2, e2, a1, a2, h2⟩ := word_nat 1 1 rfl (by decide) d1 h1
  obtain ⟨b, d3, e3, b1, b2, h3⟩ := word_nat 1 1 rfl (by decide) d2 h2
  have cok : WordOk (neg a ++ neg b ++ a ++ b) := ok_app (ok_app (ok_app (neg_ok a1) (neg_ok b1)) a1) b1
  have clen : (neg a ++ neg b ++ a ++ b).length ≤ 4 := by simp only [List.length_append, len_neg]; omega
  have ec := commuted_ok a b (by omega) (by omega)
  generalize neg a ++ neg b ++ a ++ b = c at cok clen ec
  unfold m__law_drawn
  show ∃ w d', outR (c__law_drawn [.root, .emp, .emp, .emp, .emp] d) = _ ∧ _
  have : n = 0 ∨ n = 1 ∨ n = 2 ∨ n = 3 ∨ n = 4 := by omega
  unfold c__law_drawn
  rcases this with rfl | rfl | rfl | rfl | rfl
  · obtain ⟨w, d', e4, w1, w2, h4⟩ := word_nat 10 10 rfl (by decide) d3 h3
    refine ⟨w, d', ?_, w1, w2, h4⟩
    simp only [bnd_eq, bind_ok, ret_eq, ofO_some, toD_eq, frz_val, frz_own, toB_eq, boolOf_b, vVar_eq, varK_val, varK_root, varK_own, vBin_eq, vUn_eq, vAnd_eq, vOr_eq, vNot_eq, tAnd_eq, tOr_eq, tNot_eq, vIfE_eq, aNil_eq, aCons_eq, vTup_eq, vLst_eq, vCB_eq, chain_eq, vIsi_eq, vIsi2_eq, noDict_int, noDict_tuple, noDict_list, noDict_none, noDict_bool, noDict_str, isT_int_int, isT_bool_int, isT_tuple_tuple, isT_tuple_int, isT_int_tuple, gAdd_int, gAdd_tup, gAdd_lst, gSub_int, gMul_int, gMul_tup, gMul_lst, gMod_int, gDiv_int, gPow_int, gLt_int, gLe_int, gGt_int, gGe_int, gEq_int, gNe_int, gNeg_int, gRev_tup, gIx_tup, gIx_lst, gLen_tup, gLen_lst, gAbs_int, gMin_int, gMax_int, gInt_int, gTuple_lst, gTuple_tup, gList_lst, gList_tup, gSum_ints, gAll_bools, gAny_bools, vIxV_eq, ixK_some, ixK2_some, slotD_val, slotD_own, vLenV_eq, lenK_some, tTruV_eq, truK_some, tTru_eq, truD_bool, truD_int, truD_tup, truD_lst, truD_none, vApp_eq, appK_some, appK2_some, ownOf_own, thenK_ok, thenS_eq, sSetIx_eq, setIxK_some, setIxK2_some, setIxK3_some, sSeq_eq, seqK_nx, seqK_rt, seqK_bk, seqK_ct, sNext_eq, sBreak_eq, sCont_eq, sRet_eq, sRetN_eq, sExpr_eq, sSet_eq, sIf_eq, asgK_some, sAsg_eq, gNm_eq, gTp_tup, gAll2_nil, gAll2_cons, bNil_eq, bCons_eq, parK_two, sPar_eq, iSeq_eq, seqOf_tup, seqOf_lst, iRg_eq, vCallP_eq, callK_ret, vCallR_eq, callRK_ret, rNil_eq, rCons_eq, argOf_val, argOf_own, argOf_root, oNone_eq, oSome_eq, intOf_int, vSlice_eq, gSl_tup, gSl_lst, wipe_nil, wipe_cons, outP_val, outP_own, outP_ownT, outP_nx, outR_rt, outR_nx, vNewT_eq, vDisp1_eq, vTake_eq, takeK_some, ownTOf_own, iItemsT_eq, dictOf_own, sPutT_eq, putK1_some, putK2_some, vGetT_eq, getK1_some, getK2_some, keyOf_ints, forK_some, forK2_nx, forK2_ct, forK2_bk, forK2_rt, lcK_ok, dcK_ok, ttYes_eq, lcK3_some, dcK3_some, dcK4_some, vDrGet_eq, drgK_true, isRoot_root, vDrLen_eq, drlK_true, vDrCell_eq, drcK_true, drc2_int, drc3_some, sDrPut_eq, drpK_int, vPop_eq, popK_some, popK2_some, iKeysT_eq, gIsN_of, gNotN_of, isNone_none, isNone_int, isNone_tup, isT_bool_none, isT_int_none, forL_dr, str_ne, List.getElem?_cons_zero, List.getElem?_cons_succ, List.set_cons_zero, List.set_cons_succ, Option.map_some, Option.bind_some, if_true, if_false, ite_true, ite_false, iteM, iteMS, Bool.false_eq_true, small_eq, List.length_cons, List.length_nil, decide_eq_true_eq, eq_self, decide_true, Int.toNat_natCast, Nat.reduceLeDiff, Nat.reduceAdd, Nat.reduceMul, Nat.zero_le, Nat.zero_add, e1, e2, e3, e4]
  · obtain ⟨w, d', e4, w1, w2, h4⟩ := word_nat 6 6 rfl (by decide) d3 h3
    have ea := add_W c w (by omega)
    have z : ¬ (1 : Int) = 0 := by decide
    refine ⟨c ++ w, d', ?_, ok_app cok w1, by rw [List.length_append]; omega, h4⟩
    simp only [bnd_eq, bind_ok, ret_eq, ofO_some, toD_eq, frz_val, frz_own, toB_eq, boolOf_b, vVar_eq, varK_val, varK_root, varK_own, vBin_eq, vUn_eq, vAnd_eq, vOr_eq, vNot_eq, tAnd_eq, tOr_eq, tNot_eq, vIfE_eq, aNil_eq, aCons_eq, vTup_eq, vLst_eq, vCB_eq, chain_eq, vIsi_eq, vIsi2_eq, noDict_int, noDict_tuple, noDict_list, noDict_none, noDict_bool, noDict_str, isT_int_int, isT_bool_int, isT_tuple_tuple, isT_tuple_int, isT_int_tuple, gAdd_int, gAdd_tup, gAdd_lst, gSub_int, gMul_int, gMul_tup, gMul_lst, gMod_int, gDiv_int, gPow_int, gLt_int, gLe_int, gGt_int, gGe_int, gEq_int, gNe_int, gNeg_int, gRev_tup, gIx_tup, gIx_lst, gLen_tup, gLen_lst, gAbs_int, gMin_int, gMax_int, gInt_int, gTuple_lst, gTuple_tup, gList_lst, gList_tup, gSum_ints, gAll_bools, gAny_bools, vIxV_eq, ixK_some, ixK2_some, slotD_val, slotD_own, vLenV_eq, lenK_some, tTruV_eq, truK_some, tTru_eq, truD_bool, truD_int, truD_tup, truD_lst, truD_none, vApp_eq, appK_some, appK2_some, ownOf_own, thenK_ok, thenS_eq, sSetIx_eq, setIxK_some, setIxK2_some, setIxK3_some, sSeq_eq, seqK_nx, seqK_rt, seqK_bk, seqK_ct, sNext_eq, sBreak_eq, sCont_eq, sRet_eq, sRetN_eq, sExpr_eq, sSet_eq, sIf_eq, asgK_some, sAsg_eq, gNm_eq, gTp_tup, gAll2_nil, gAll2_cons, bNil_eq, bCons_eq, parK_two, sPar_eq, iSeq_eq, seqOf_tup, seqOf_lst, iRg_eq, vCallP_eq, callK_ret, vCallR_eq, callRK_ret, rNil_eq, rCons_eq, argOf_val, argOf_own, argOf_root, oNone_eq, oSome_eq, intOf_int, vSlice_eq, gSl_tup, gSl_lst, wipe_nil, wipe_cons, outP_val, outP_own, outP_ownT, outP_nx, outR_rt, outR_nx, vNewT_eq, vDisp1_eq, vTake_eq, takeK_some, ownTOf_own, iItemsT_eq, dictOf_own, sPutT_eq, putK1_some, putK2_some, vGetT_eq, getK1_some, getK2_some, keyOf_ints, forK_some, forK2_nx, forK2_ct, forK2_bk, forK2_rt, lcK_ok, dcK_ok, ttYes_eq, lcK3_some, dcK3_some, dcK4_some, vDrGet_eq, drgK_true, isRoot_root, vDrLen_eq, drlK_true, vDrCell_eq, drcK_true, drc2_int, drc3_some, sDrPut_eq, drpK_int, vPop_eq, popK_some, popK2_some, iKeysT_eq, gIsN_of, gNotN_of, isNone_none, isNone_int, isNone_tup, isT_bool_none, isT_int_none, forL_dr, str_ne, List.getElem?_cons_zero, List.getElem?_cons_succ, List.set_cons_zero, List.set_cons_succ, Option.map_some, Option.bind_some, if_true, if_false, ite_true, ite_false, iteM, iteMS, Bool.false_eq_true, small_eq, List.length_cons, List.length_nil, decide_eq_true_eq, eq_self, decide_true, Int.toNat_natCast, Nat.reduceLeDiff, Nat.reduceAdd, Nat.reduceMul, Nat.zero_le, Nat.zero_add, e1, e2, e3, z, decide_false, ec, e4, ea]
  · obtain ⟨w, d', e4, w1, w2, h4⟩ := word_nat 1 1 rfl (by decide) d3 h3
    have ec2 := commuted_ok c w (by omega) (by omega)
    have z : ¬ (2 : Int) = 0 := by decide
    have z1 : ¬ (2 : Int) = 1 := by decide
    refine ⟨neg c ++ neg w ++ c ++ w, d', ?_, ok_app (ok_app (ok_app (neg_ok cok) (neg_ok w1)) cok) w1, by simp only [List.length_append, len_neg]; omega, h4⟩
    simp only [bnd_eq, bind_ok, ret_eq, ofO_some, toD_eq, frz_val, frz_own, toB_eq, boolOf_b, vVar_eq, varK_val, varK_root, varK_own, vBin_eq, vUn_eq, vAnd_eq, vOr_eq, vNot_eq, tAnd_eq, tOr_eq, tNot_eq, vIfE_eq, aNil_eq, aCons_eq, vTup_eq, vLst_eq, vCB_eq, chain_eq, vIsi_eq, vIsi2_eq, noDict_int, noDict_tuple, noDict_list, noDict_none, noDict_bool, noDict_str, isT_int_int, isT_bool_int, isT_tuple_tuple, isT_tuple_int, isT_int_tuple, gAdd_int, gAdd_tup, gAdd_lst, gSub_int, gMul_int, gMul_tup, gMul_lst, gMod_int, gDiv_int, gPow_int, gLt_int, gLe_int, gGt_int, gGe_int, gEq_int, gNe_int, gNeg_int, gRev_tup, gIx_tup, gIx_lst, gLen_tup, gLen_lst, gAbs_int, gMin_int, gMax_int, gInt_int, gTuple_lst, gTuple_tup, gList_lst, gList_tup, gSum_ints, gAll_bools, gAny_bools, vIxV_eq, ixK_some, ixK2_some, slotD_val, slotD_own, vLenV_eq, lenK_some, tTruV_eq, truK_some, tTru_eq, truD_bool, truD_int, truD_tup, truD_lst, truD_none, vApp_eq, appK_some, appK2_some, ownOf_own, thenK_ok, thenS_eq, sSetIx_eq, setIxK_some, setIxK2_some, setIxK3_some, sSeq_eq, seqK_nx, seqK_rt, seqK_bk, seqK_ct, sNext_eq, sBreak_eq, sCont_eq, sRet_eq, sRetN_eq, sExpr_eq, sSet_eq, sIf_eq, asgK_some, sAsg_eq, gNm_eq, gTp_tup, gAll2_nil, gAll2_cons, bNil_eq, bCons_eq, parK_two, sPar_eq, iSeq_eq, seqOf_tup, seqOf_lst, iRg_eq, vCallP_eq, callK_ret, vCallR_eq, callRK_ret, rNil_eq, rCons_eq, argOf_val, argOf_own, argOf_root, oNone_eq, oSome_eq, intOf_int, vSlice_eq, gSl_tup, gSl_lst, wipe_nil, wipe_cons, outP_val, outP_own, outP_ownT, outP_nx, outR_rt, outR_nx, vNewT_eq, vDisp1_eq, vTake_eq, takeK_some, ownTOf_own, iItemsT_eq, dictOf_own, sPutT_eq, putK1_some, putK2_some, vGetT_eq, getK1_some, getK2_some, keyOf_ints, forK_some, forK2_nx, forK2_ct, forK2_bk, forK2_rt, lcK_ok, dcK_ok, ttYes_eq, lcK3_some, dcK3_some, dcK4_some, vDrGet_eq, drgK_true, isRoot_root, vDrLen_eq, drlK_true, vDrCell_eq, drcK_true, drc2_int, drc3_some, sDrPut_eq, drpK_int, vPop_eq, popK_some, popK2_some, iKeysT_eq, gIsN_of, gNotN_of, isNone_none, isNone_int, isNone_tup, isT_bool_none, isT_int_none, forL_dr, str_ne, List.getElem?_cons_zero, List.getElem?_cons_succ, List.set_cons_zero, List.set_cons_succ, Option.map_some, Option.bind_some, if_true, if_false, ite_true, ite_false, iteM, iteMS, Bool.false_eq_true, small_eq, List.length_cons, List.length_nil, decide_eq_true_eq, eq_self, decide_true, Int.toNat_natCast, Nat.reduceLeDiff, Nat.reduceAdd, Nat.reduceMul, Nat.zero_le, Nat.zero_add, e1, e2, e3, z, z1, decide_false, ec, e4, ec2]
  · obtain ⟨w, d', e4, w1, w2, h4⟩ := word_nat 3 3 rfl (by decide) d3 h3
    have eb := back_ok w (by omega)
    have ea := add_W (neg w) c (by rw [len_neg]; omega)
    have ea2 := add_W (neg w ++ c) w (by rw [List.length_append, len_neg]; omega)
    have z : ¬ (3 : Int) = 0 := by decide
    have z1 : ¬ (3 : Int) = 1 := by decide
    have z2 : ¬ (3 : Int) = 2 := by decide
    refine ⟨neg w ++ c ++ w, d', ?_, ok_app (ok_app (neg_ok w1) cok) w1, by simp only [List.length_append, len_neg]; omega, h4⟩
    simp only [bnd_eq, bind_ok, ret_eq, ofO_some, toD_eq, frz_val, frz_own, toB_eq, boolOf_b, vVar_eq, varK_val, varK_root, varK_own, vBin_eq, vUn_eq, vAnd_eq, vOr_eq, vNot_eq, tAnd_eq, tOr_eq, tNot_eq, vIfE_eq, aNil_eq, aCons_eq, vTup_eq, vLst_eq, vCB_eq, chain_eq, vIsi_eq, vIsi2_eq, noDict_int, noDict_tuple, noDict_list, noDict_none, noDict_bool, noDict_str, isT_int_int, isT_bool_int, isT_tuple_tuple, isT_tuple_int, isT_int_tuple, gAdd_int, gAdd_tup, gAdd_lst, gSub_int, gMul_int, gMul_tup, gMul_lst, gMod_int, gDiv_int, gPow_int, gLt_int, gLe_int, gGt_int, gGe_int, gEq_int, gNe_int, gNeg_int, gRev_tup, gIx_tup, gIx_lst, gLen_tup, gLen_lst, gAbs_int, gMin_int, gMax_int, gInt_int, gTuple_lst, gTuple_tup, gList_lst, gList_tup, gSum_ints, gAll_bools, gAny_bools, vIxV_eq, ixK_some, ixK2_some, slotD_val, slotD_own, vLenV_eq, lenK_some, tTruV_eq, truK_some, tTru_eq, truD_bool, truD_int, truD_tup, truD_lst, truD_none, vApp_eq, appK_some, appK2_some, ownOf_own, thenK_ok, thenS_eq, sSetIx_eq, setIxK_some, setIxK2_some, setIxK3_some, sSeq_eq, seqK_nx, seqK_rt, seqK_bk, seqK_ct, sNext_eq, sBreak_eq, sCont_eq, sRet_eq, sRetN_eq, sExpr_eq, sSet_eq, sIf_eq, asgK_some, sAsg_eq, gNm_eq, gTp_tup, gAll2_nil, gAll2_cons, bNil_eq, bCons_eq, parK_two, sPar_eq, iSeq_eq, seqOf_tup, seqOf_lst, iRg_eq, vCallP_eq, callK_ret, vCallR_eq, callRK_ret, rNil_eq, rCons_eq, argOf_val, argOf_own, argOf_root, oNone_eq, oSome_eq, intOf_int, vSlice_eq, gSl_tup, gSl_lst, wipe_nil, wipe_cons, outP_val, outP_own, outP_ownT, outP_nx, outR_rt, outR_nx, vNewT_eq, vDisp1_eq, vTake_eq, takeK_some, ownTOf_own, iItemsT_eq, dictOf_own, sPutT_eq, putK1_some, putK2_some, vGetT_eq, getK1_some, getK2_some, keyOf_ints, forK_some, forK2_nx, forK2_ct, forK2_bk, forK2_rt, lcK_ok, dcK_ok, ttYes_eq, lcK3_some, dcK3_some, dcK4_some, vDrGet_eq, drgK_true, isRoot_root, vDrLen_eq, drlK_true, vDrCell_eq, drcK_true, drc2_int, drc3_some, sDrPut_eq, drpK_int, vPop_eq, popK_some, popK2_some, iKeysT_eq, gIsN_of, gNotN_of, isNone_none, isNone_int, isNone_tup, isT_bool_none, isT_int_none, forL_dr, str_ne, List.getElem?_cons_zero, List.getElem?_cons_succ, List.set_cons_zero, List.set_cons_succ, Option.map_some, Option.bind_some, if_true, if_false, ite_true, ite_false, iteM, iteMS, Bool.false_eq_true, small_eq, List.length_cons, List.length_nil, decide_eq_true_eq, eq_self, decide_true, Int.toNat_natCast, Nat.reduceLeDiff, Nat.reduceAdd, Nat.reduceMul, Nat.zero_le, Nat.zero_add, e1, e2, e3, z, z1, z2, decide_false, ec, e4, eb, ea, ea2]
  · obtain ⟨w, d', e4, w1, w2, h4⟩ := word_nat 5 5 rfl (by decide) d3 h3
    have eb := back_ok w (by omega)
    have ea := add_W w (neg w) (by rw [len_neg]; omega)
    have z : ¬ (4 : Int) = 0 := by decide
    have z1 : ¬ (4 : Int) = 1 := by decide
    have z2 : ¬ (4 : Int) = 2 := by decide
    have z3 : ¬ (4 : Int) = 3 := by decide
    refine ⟨w ++ neg w, d', ?_, ok_app w1 (neg_ok w1), by simp only [List.length_append, len_neg]; omega, h4⟩
    simp only [bnd_eq, bind_ok, ret_eq, ofO_some, toD_eq, frz_val, frz_own, toB_eq, boolOf_b, vVar_eq, varK_val, varK_root, varK_own, vBin_eq, vUn_eq, vAnd_eq, vOr_eq, vNot_eq, tAnd_eq, tOr_eq, tNot_eq, vIfE_eq, aNil_eq, aCons_eq, vTup_eq, vLst_eq, vCB_eq, chain_eq, vIsi_eq, vIsi2_eq, noDict_int, noDict_tuple, noDict_list, noDict_none, noDict_bool, noDict_str, isT_int_int, isT_bool_int, isT_tuple_tuple, isT_tuple_int, isT_int_tuple, gAdd_int, gAdd_tup, gAdd_lst, gSub_int, gMul_int, gMul_tup, gMul_lst, gMod_int, gDiv_int, gPow_int, gLt_int, gLe_int, gGt_int, gGe_int, gEq_int, gNe_int, gNeg_int, gRev_tup, gIx_tup, gIx_lst, gLen_tup, gLen_lst, gAbs_int, gMin_int, gMax_int, gInt_int, gTuple_lst, gTuple_tup, gList_lst, gList_tup, gSum_ints, gAll_bools, gAny_bools, vIxV_eq, ixK_some, ixK2_some, slotD_val, slotD_own, vLenV_eq, lenK_some, tTruV_eq, truK_some, tTru_eq, truD_bool, truD_int, truD_tup, truD_lst, truD_none, vApp_eq, appK_some, appK2_some, ownOf_own, thenK_ok, thenS_eq, sSetIx_eq, setIxK_some, setIxK2_some, setIxK3_some, sSeq_eq, seqK_nx, seqK_rt, seqK_bk, seqK_ct, sNext_eq, sBreak_eq, sCont_eq, sRet_eq, sRetN_eq, sExpr_eq, sSet_eq, sIf_eq, asgK_some, sAsg_eq, gNm_eq, gTp_tup, gAll2_nil, gAll2_cons, bNil_eq, bCons_eq, parK_two, sPar_eq, iSeq_eq, seqOf_tup, seqOf_lst, iRg_eq, vCallP_eq, callK_ret, vCallR_eq, callRK_ret, rNil_eq, rCons_eq, argOf_val, argOf_own, argOf_root, oNone_eq, oSome_eq, intOf_int, vSlice_eq, gSl_tup, gSl_lst, wipe_nil, wipe_cons, outP_val, outP_own, outP_ownT, outP_nx, outR_rt, outR_nx, vNewT_eq, vDisp1_eq, vTake_eq, takeK_some, ownTOf_own, iItemsT_eq, dictOf_own, sPutT_eq, putK1_some, putK2_some, vGetT_eq, getK1_some, getK2_some, keyOf_ints, forK_some, forK2_nx, forK2_ct, forK2_bk, forK2_rt, lcK_ok, dcK_ok, ttYes_eq, lcK3_some, dcK3_some, dcK4_some, vDrGet_eq, drgK_true, isRoot_root, vDrLen_eq, drlK_true, vDrCell_eq, drcK_true, drc2_int, drc3_some, sDrPut_eq, drpK_int, vPop_eq, popK_some, popK2_some, iKeysT_eq, gIsN_of, gNotN_of, isNone_none, isNone_int, isNone_tup, isT_bool_none, isT_int_none, forL_dr, str_ne, List.getElem?_cons_zero, List.getElem?_cons_succ, List.set_cons_zero, List.set_cons_succ, Option.map_some, Option.bind_some, if_true, if_false, ite_true, ite_false, iteM, iteMS, Bool.false_eq_true, small_eq, List.length_cons, List.length_nil, decide_eq_true_eq, eq_self, decide_true, Int.toNat_natCast, Nat.reduceLeDiff, Nat.reduceAdd, Nat.reduceMul, Nat.zero_le, Nat.zero_add, e1, e2, e3, z, z1, z2, z3, decide_false, e4, eb, ea]
/-! ### the law -/
theorem repr_dep {d : D} (h : d = .none ∨ ∃ n : Nat, d = .int n ∧ 1 ≤ n ∧ n ≤ 10) : gReprA [d] = some (.val (.str d.shown)) := by
  show (if d.canLay0 = true ∧ d.showable = true ∧ d.hasDict = false ∧ d.depth ≤ 100 ∧ d.shown.length ≤ 10000000 then some (Slot.val (.str d.shown)) else none) = _
  rw [if_pos]
  rcases h with rfl | ⟨n, rfl, h1, h2⟩
  · exact ⟨rfl, rfl, rfl, by decide, by decide⟩
  · refine ⟨rfl, ?_, rfl, Nat.zero_le _, Nat.le_trans (shown_int (k := 2) (by decide) (by omega)) (by decide)⟩
    rw [PyData.showable, decide_eq_true_eq]
    have : (n : Int).natAbs.log2 ≤ (n : Int).natAbs := Nat.log2_le_self _
    omega
def tOne : M Dr Bool := (tOrM (toB (vBin gNotN (vVar 4) (ret (.val .none)))) (toB (vBin gNe (vCallP m_expansion (aCons (vVar 3) (aCons (ret (.val (.int 4))) aNil))) (vTup aNil))))
def bTurn : MS Dr := (sSeq (sSet 3 (vCallR m__law_drawn (rCons (vVar 1) rNil)))
  (sSeq (sSet 4 (vCallP (fun ds => m_depth_of (permL [0] ds)) (aCons (vVar 3) aNil)))
  (sSeq (sIf (toB (vBin gEq (vCallP m__law_reduced (aCons (vVar 3) aNil)) (vTup aNil)))
  (sIf tOne
  (sRet (ret (.val (.bool false))))
  sNext)
  (sIf (tNotM (toB (vCallP m__law_right (aCons (vVar 3) (aCons (vVar 4) aNil)))))
  (sRet (ret (.val (.bool false))))
  sNext))
  (sSeq (sIf (toB (vBin gNe (vCB gReprA (aCons (vCallP m_depth_of (aCons (vCallP m_leaving_out (aCons (vVar 3) aNil)) aNil)) aNil)) (vCB gReprA (aCons (vVar 4) aNil))))
  (sRet (ret (.val (.bool false))))
  sNext)
  (sSeq (sSet 5 (vBin gAdd (vBin gAdd (vTup (aCons (ret (.val (.int 1))) aNil)) (vVar 3)) (vTup (aCons (vUn gNeg (ret (.val (.int 1)))) aNil))))
  (sIf (tAndM (toB (vBin gLe (vLenV 5) (ret (.val (.int 10))))) (toB (vBin gNe (vCB gReprA (aCons (vCallP m_depth_of (aCons (vVar 5) aNil)) aNil)) (vCB gReprA (aCons (vVar 4) aNil)))))
  (sRet (ret (.val (.bool false))))
  sNext))))))
theorem law_eq : c_law = (sSeq (sFor [2, 3, 4, 5] (iRg rg1 (aCons (ret (.val (.int 6))) aNil)) (gNm 2) bTurn) (sRet (ret (.val (.bool true))))) := rfl
theorem eq_empty (p : List Int) : gEq (dW p) (.tuple []) = some (.val (.bool p.isEmpty)) := by
  unfold gEq
  rw [if_pos (.inr ⟨shaped_ints p, shaped_ints []⟩)]
  cases p <;> rfl
theorem law_turn (t : D) (d : Dr) (h0 : DrOk d) : ∃ s3 s4 s5 d', bTurn [.emp, .root, .val t, .emp, .emp, .emp] d = .nx [.emp, .root, .val t, s3, s4, s5] d' ∧ DrOk d' := by
  obtain ⟨w, d1, e1, hw, hl, h1⟩ := drawn_ok d h0
  obtain ⟨p, e2, p1, p2⟩ := depth_ok hw hl
  have e3 := reduced_ok (w := w) (by omega) (nz_of hw)
  have pm : permL [0] [dW w] = [dW w] := rfl
  have e4 := leaving_ok hw (by omega)
  obtain ⟨p', e5, p3, p4⟩ := depth_ok (left_ok hw) (Nat.le_trans (left_len w) hl)
  rw [expF_left (nz_of hw)] at p3
  obtain rfl := dep_unique p1 p3
  have er := repr_dep p2
  have ne := str_ne p.shown
  have a1 : gAdd (.tuple [.int 1]) (dW w) = some (.val (dW (1 :: w))) := add_W [1] w (by simp; omega)
  have a2 : gAdd (dW (1 :: w)) (.tuple [.int (-1)]) = some (.val (dW (1 :: (w ++ [-1])))) := add_W (1 :: w) [-1] (by simp; omega)
  have ht : WordOk (1 :: (w ++ [-1])) := fun l hl => by
    simp only [List.mem_cons, List.mem_append, List.not_mem_nil, or_false] at hl
    rcases hl with z | z | z
    · subst z; decide
    · exact hw l z
    · subst z; decide
  have hlt : ((dI (1 :: (w ++ [-1]))).length : Int) = w.length + 2 := by rw [len_dI]; simp; omega
  refine ⟨.val (dW w), .val p, .val (dW (1 :: (w ++ [-1]))), d1, ?_, h1⟩
  have last : sIf (tAndM (toB (vBin gLe (vLenV 5) (ret (.val (.int 10))))) (toB (vBin gNe (vCB gReprA (aCons (vCallP m_depth_of (aCons (vVar 5) aNil)) aNil)) (vCB gReprA (aCons (vVar 4) aNil)))))
      (sRet (ret (.val (.bool false)))) sNext [.emp, .root, .val t, .val (dW w), .val p, .val (dW (1 :: (w ++ [-1])))] d1 = .nx [.emp, .root, .val t, .val (dW w), .val p, .val (dW (1 :: (w ++ [-1])))] d1 := by
    by_cases h8 : w.length ≤ 8
    · obtain ⟨q, e6, q1, _⟩ := depth_ok ht (by simp; omega)
      obtain rfl := dep_unique (conj_dep p1) q1
      have h10 : ((w.length : Int) + 2 ≤ 10) := by omega
      simp only [bnd_eq, bind_ok, ret_eq, ofO_some, toD_eq, frz_val, frz_own, toB_eq, boolOf_b, vVar_eq, varK_val, varK_root, varK_own, vBin_eq, vUn_eq, vAnd_eq, vOr_eq, vNot_eq, tAnd_eq, tOr_eq, tNot_eq, vIfE_eq, aNil_eq, aCons_eq, vTup_eq, vLst_eq, vCB_eq, chain_eq, vIsi_eq, vIsi2_eq, noDict_int, noDict_tuple, noDict_list, noDict_none, noDict_bool, noDict_str, isT_int_int, isT_bool_int, isT_tuple_tuple, isT_tuple_int, isT_int_tuple, gAdd_int, gAdd_tup, gAdd_lst, gSub_int, gMul_int, gMul_tup, gMul_lst, gMod_int, gDiv_int, gPow_int, gLt_int, gLe_int, gGt_int, gGe_int, gEq_int, gNe_int, gNeg_int, gRev_tup, gIx_tup, gIx_lst, gLen_tup, gLen_lst, gAbs_int, gMin_int, gMax_int, gInt_int, gTuple_lst, gTuple_tup, gList_lst, gList_tup, gSum_ints, gAll_bools, gAny_bools, vIxV_eq, ixK_some, ixK2_some, slotD_val, slotD_own, vLenV_eq, lenK_some, tTruV_eq, truK_some, tTru_eq, truD_bool, truD_int, truD_tup, truD_lst, truD_none, vApp_eq, appK_some, appK2_some, ownOf_own, thenK_ok, thenS_eq, sSetIx_eq, setIxK_some, setIxK2_some, setIxK3_some, sSeq_eq, seqK_nx, seqK_rt, seqK_bk, seqK_ct, sNext_eq, sBreak_eq, sCont_eq, sRet_eq, sRetN_eq, sExpr_eq, sSet_eq, sIf_eq, asgK_some, sAsg_eq, gNm_eq, gTp_tup, gAll2_nil, gAll2_cons, bNil_eq, bCons_eq, parK_two, sPar_eq, iSeq_eq, seqOf_tup, seqOf_lst, iRg_eq, vCallP_eq, callK_ret, vCallR_eq, callRK_ret, rNil_eq, rCons_eq, argOf_val, argOf_own, argOf_root, oNone_eq, oSome_eq, intOf_int, vSlice_eq, gSl_tup, gSl_lst, wipe_nil, wipe_cons, outP_val, outP_own, outP_ownT, outP_nx, outR_rt, outR_nx, vNewT_eq, vDisp1_eq, vTake_eq, takeK_some, ownTOf_own, iItemsT_eq, dictOf_own, sPutT_eq, putK1_some, putK2_some, vGetT_eq, getK1_some, getK2_some, keyOf_ints, forK_some, forK2_nx, forK2_ct, forK2_bk, forK2_rt, lcK_ok, dcK_ok, ttYes_eq, lcK3_some, dcK3_some, dcK4_some, vDrGet_eq, drgK_true, isRoot_root, vDrLen_eq, drlK_true, vDrCell_eq, drcK_true, drc2_int, drc3_some, sDrPut_eq, drpK_int, vPop_eq, popK_some, popK2_some, iKeysT_eq, gIsN_of, gNotN_of, isNone_none, isNone_int, isNone_tup, isT_bool_none, isT_int_none, forL_dr, str_ne, List.getElem?_cons_zero, List.getElem?_cons_succ, List.set_cons_zero, List.set_cons_succ, Option.map_some, Option.bind_some, if_true, if_false, ite_true, ite_false, iteM, iteMS, Bool.false_eq_true, small_eq, List.length_cons, List.length_nil, decide_eq_true_eq, eq_self, decide_true, Int.toNat_natCast, Nat.reduceLeDiff, Nat.reduceAdd, Nat.reduceMul, Nat.zero_le, Nat.zero_add, hlt, h10, e6, er, ne]
    · have h10 : ¬ ((w.length : Int) + 2 ≤ 10) := by omega
      simp only [bnd_eq, bind_ok, ret_eq, ofO_some, toD_eq, frz_val, frz_own, toB_eq, boolOf_b, vVar_eq, varK_val, varK_root, varK_own, vBin_eq, vUn_eq, vAnd_eq, vOr_eq, vNot_eq, tAnd_eq, tOr_eq, tNot_eq, vIfE_eq, aNil_eq, aCons_eq, vTup_eq, vLst_eq, vCB_eq, chain_eq, vIsi_eq, vIsi2_eq, noDict_int, noDict_tuple, noDict_list, noDict_none, noDict_bool, noDict_str, isT_int_int, isT_bool_int, isT_tuple_tuple, isT_tuple_int, isT_int_tuple, gAdd_int, gAdd_tup, gAdd_lst, gSub_int, gMul_int, gMul_tup, gMul_lst, gMod_int, gDiv_int, gPow_int, gLt_int, gLe_int, gGt_int, gGe_int, gEq_int, gNe_int, gNeg_int, gRev_tup, gIx_tup, gIx_lst, gLen_tup, gLen_lst, gAbs_int, gMin_int, gMax_int, gInt_int, gTuple_lst, gTuple_tup, gList_lst, gList_tup, gSum_ints, gAll_bools, gAny_bools, vIxV_eq, ixK_some, ixK2_some, slotD_val, slotD_own, vLenV_eq, lenK_some, tTruV_eq, truK_some, tTru_eq, truD_bool, truD_int, truD_tup, truD_lst, truD_none, vApp_eq, appK_some, appK2_some, ownOf_own, thenK_ok, thenS_eq, sSetIx_eq, setIxK_some, setIxK2_some, setIxK3_some, sSeq_eq, seqK_nx, seqK_rt, seqK_bk, seqK_ct, sNext_eq, sBreak_eq, sCont_eq, sRet_eq, sRetN_eq, sExpr_eq, sSet_eq, sIf_eq, asgK_some, sAsg_eq, gNm_eq, gTp_tup, gAll2_nil, gAll2_cons, bNil_eq, bCons_eq, parK_two, sPar_eq, iSeq_eq, seqOf_tup, seqOf_lst, iRg_eq, vCallP_eq, callK_ret, vCallR_eq, callRK_ret, rNil_eq, rCons_eq, argOf_val, argOf_own, argOf_root, oNone_eq, oSome_eq, intOf_int, vSlice_eq, gSl_tup, gSl_lst, wipe_nil, wipe_cons, outP_val, outP_own, outP_ownT, outP_nx, outR_rt, outR_nx, vNewT_eq, vDisp1_eq, vTake_eq, takeK_some, ownTOf_own, iItemsT_eq, dictOf_own, sPutT_eq, putK1_some, putK2_some, vGetT_eq, getK1_some, getK2_some, keyOf_ints, forK_some, forK2_nx, forK2_ct, forK2_bk, forK2_rt, lcK_ok, dcK_ok, ttYes_eq, lcK3_some, dcK3_some, dcK4_some, vDrGet_eq, drgK_true, isRoot_root, vDrLen_eq, drlK_true, vDrCell_eq, drcK_true, drc2_int, drc3_some, sDrPut_eq, drpK_int, vPop_eq, popK_some, popK2_some, iKeysT_eq, gIsN_of, gNotN_of, isNone_none, isNone_int, isNone_tup, isT_bool_none, isT_int_none, forL_dr, str_ne, List.getElem?_cons_zero, List.getElem?_cons_succ, List.set_cons_zero, List.set_cons_succ, Option.map_some, Option.bind_some, if_true, if_false, ite_true, ite_false, iteM, iteMS, Bool.false_eq_true, small_eq, List.length_cons, List.length_nil, decide_eq_true_eq, eq_self, decide_true, Int.toNat_natCast, Nat.reduceLeDiff, Nat.reduceAdd, Nat.reduceMul, Nat.zero_le, Nat.zero_add, hlt, h10, decide_false]
  have mid : sIf (toB (vBin gEq (vCallP m__law_reduced (aCons (vVar 3) aNil)) (vTup aNil))) (sIf tOne (sRet (ret (.val (.bool false)))) sNext)
      (sIf (tNotM (toB (vCallP m__law_right (aCons (vVar 3) (aCons (vVar 4) aNil))))) (sRet (ret (.val (.bool false)))) sNext) [.emp, .root, .val t, .val (dW w), .val p, .emp] d1 = .nx [.emp, .root, .val t, .val (dW w), .val p, .emp] d1 := by
    by_cases hz : leftOut w = []
    · have hp := (dep_nil (nz_of hw) p1).mp hz
      subst hp
      have ex := expansion_ok 4 (by decide) (by decide) hw (by omega)
      have e0 : toldL 4 w = [] := by
        cases hT : toldL 4 w with
        | nil => rfl
        | cons x T =>
          obtain ⟨a1, a2, a3⟩ := told_fn hw (x := x) (by rw [hT]; exact List.mem_cons_self ..)
          rcases p1 with ⟨_, z⟩ | ⟨n, _, z, _⟩
          · exact absurd (z x.1.reverse (by simpa using a1)) a3
          · cases z
      rw [e0] at ex
      have ex' : m_expansion [dW w, .int 4] = .ret (.val (.tuple [])) := by
        have e1 : sortD (([] : Tb).map encI) = [] := sortD_nil
        rw [e1] at ex
        exact ex
      have n0 : gNe (.tuple []) (.tuple []) = some (.val (.bool false)) := ne_empty []
      have q0 := eq_empty (leftOut w)
      rw [hz] at e3 q0
      rw [List.isEmpty_nil] at q0
      unfold tOne
      simp only [bnd_eq, bind_ok, ret_eq, ofO_some, toD_eq, frz_val, frz_own, toB_eq, boolOf_b, vVar_eq, varK_val, varK_root, varK_own, vBin_eq, vUn_eq, vAnd_eq, vOr_eq, vNot_eq, tAnd_eq, tOr_eq, tNot_eq, vIfE_eq, aNil_eq, aCons_eq, vTup_eq, vLst_eq, vCB_eq, chain_eq, vIsi_eq, vIsi2_eq, noDict_int, noDict_tuple, noDict_list, noDict_none, noDict_bool, noDict_str, isT_int_int, isT_bool_int, isT_tuple_tuple, isT_tuple_int, isT_int_tuple, gAdd_int, gAdd_tup, gAdd_lst, gSub_int, gMul_int, gMul_tup, gMul_lst, gMod_int, gDiv_int, gPow_int, gLt_int, gLe_int, gGt_int, gGe_int, gEq_int, gNe_int, gNeg_int, gRev_tup, gIx_tup, gIx_lst, gLen_tup, gLen_lst, gAbs_int, gMin_int, gMax_int, gInt_int, gTuple_lst, gTuple_tup, gList_lst, gList_tup, gSum_ints, gAll_bools, gAny_bools, vIxV_eq, ixK_some, ixK2_some, slotD_val, slotD_own, vLenV_eq, lenK_some, tTruV_eq, truK_some, tTru_eq, truD_bool, truD_int, truD_tup, truD_lst, truD_none, vApp_eq, appK_some, appK2_some, ownOf_own, thenK_ok, thenS_eq, sSetIx_eq, setIxK_some, setIxK2_some, setIxK3_some, sSeq_eq, seqK_nx, seqK_rt, seqK_bk, seqK_ct, sNext_eq, sBreak_eq, sCont_eq, sRet_eq, sRetN_eq, sExpr_eq, sSet_eq, sIf_eq, asgK_some, sAsg_eq, gNm_eq, gTp_tup, gAll2_nil, gAll2_cons, bNil_eq, bCons_eq, parK_two, sPar_eq, iSeq_eq, seqOf_tup, seqOf_lst, iRg_eq, vCallP_eq, callK_ret, vCallR_eq, callRK_ret, rNil_eq, rCons_eq, argOf_val, argOf_own, argOf_root, oNone_eq, oSome_eq, intOf_int, vSlice_eq, gSl_tup, gSl_lst, wipe_nil, wipe_cons, outP_val, outP_own, outP_ownT, outP_nx, outR_rt, outR_nx, vNewT_eq, vDisp1_eq, vTake_eq, takeK_some, ownTOf_own, iItemsT_eq, dictOf_own, sPutT_eq, putK1_some, putK2_some, vGetT_eq, getK1_some, getK2_some, keyOf_ints, forK_some, forK2_nx, forK2_ct, forK2_bk, forK2_rt, lcK_ok, dcK_ok, ttYes_eq, lcK3_some, dcK3_some, dcK4_some, vDrGet_eq, drgK_true, isRoot_root, vDrLen_eq, drlK_true, vDrCell_eq, drcK_true, drc2_int, drc3_some, sDrPut_eq, drpK_int, vPop_eq, popK_some, popK2_some, iKeysT_eq, gIsN_of, gNotN_of, isNone_none, isNone_int, isNone_tup, isT_bool_none, isT_int_none, forL_dr, str_ne, List.getElem?_cons_zero, List.getElem?_cons_succ, List.set_cons_zero, List.set_cons_succ, Option.map_some, Option.bind_some, if_true, if_false, ite_true, ite_false, iteM, iteMS, Bool.false_eq_true, small_eq, List.length_cons, List.length_nil, decide_eq_true_eq, eq_self, decide_true, Int.toNat_natCast, Nat.reduceLeDiff, Nat.reduceAdd, Nat.reduceMul, Nat.zero_le, Nat.zero_add, e3, q0, gNotN_of, isNone_none, Bool.not_true, ex', n0]
    · have hp : p ≠ .none := fun z => hz ((dep_nil (nz_of hw) p1).mpr z)
      rcases p2 with z | ⟨n, rfl, n1, n2⟩
      · exact absurd z hp
      · have e6 := right_ok hw hl n1 n2 p1
        have q0 := eq_empty (leftOut w)
        have q1 : (leftOut w).isEmpty = false := by
          cases h : leftOut w with
          | nil => exact absurd h hz
          | cons a b => rfl
        rw [q1] at q0
        simp only [bnd_eq, bind_ok, ret_eq, ofO_some, toD_eq, frz_val, frz_own, toB_eq, boolOf_b, vVar_eq, varK_val, varK_root, varK_own, vBin_eq, vUn_eq, vAnd_eq, vOr_eq, vNot_eq, tAnd_eq, tOr_eq, tNot_eq, vIfE_eq, aNil_eq, aCons_eq, vTup_eq, vLst_eq, vCB_eq, chain_eq, vIsi_eq, vIsi2_eq, noDict_int, noDict_tuple, noDict_list, noDict_none, noDict_bool, noDict_str, isT_int_int, isT_bool_int, isT_tuple_tuple, isT_tuple_int, isT_int_tuple, gAdd_int, gAdd_tup, gAdd_lst, gSub_int, gMul_int, gMul_tup, gMul_lst, gMod_int, gDiv_int, gPow_int, gLt_int, gLe_int, gGt_int, gGe_int, gEq_int, gNe_int, gNeg_int, gRev_tup, gIx_tup, gIx_lst, gLen_tup, gLen_lst, gAbs_int, gMin_int, gMax_int, gInt_int, gTuple_lst, gTuple_tup, gList_lst, gList_tup, gSum_ints, gAll_bools, gAny_bools, vIxV_eq, ixK_some, ixK2_some, slotD_val, slotD_own, vLenV_eq, lenK_some, tTruV_eq, truK_some, tTru_eq, truD_bool, truD_int, truD_tup, truD_lst, truD_none, vApp_eq, appK_some, appK2_some, ownOf_own, thenK_ok, thenS_eq, sSetIx_eq, setIxK_some, setIxK2_some, setIxK3_some, sSeq_eq, seqK_nx, seqK_rt, seqK_bk, seqK_ct, sNext_eq, sBreak_eq, sCont_eq, sRet_eq, sRetN_eq, sExpr_eq, sSet_eq, sIf_eq, asgK_some, sAsg_eq, gNm_eq, gTp_tup, gAll2_nil, gAll2_cons, bNil_eq, bCons_eq, parK_two, sPar_eq, iSeq_eq, seqOf_tup, seqOf_lst, iRg_eq, vCallP_eq, callK_ret, vCallR_eq, callRK_ret, rNil_eq, rCons_eq, argOf_val, argOf_own, argOf_root, oNone_eq, oSome_eq, intOf_int, vSlice_eq, gSl_tup, gSl_lst, wipe_nil, wipe_cons, outP_val, outP_own, outP_ownT, outP_nx, outR_rt, outR_nx, vNewT_eq, vDisp1_eq, vTake_eq, takeK_some, ownTOf_own, iItemsT_eq, dictOf_own, sPutT_eq, putK1_some, putK2_some, vGetT_eq, getK1_some, getK2_some, keyOf_ints, forK_some, forK2_nx, forK2_ct, forK2_bk, forK2_rt, lcK_ok, dcK_ok, ttYes_eq, lcK3_some, dcK3_some, dcK4_some, vDrGet_eq, drgK_true, isRoot_root, vDrLen_eq, drlK_true, vDrCell_eq, drcK_true, drc2_int, drc3_some, sDrPut_eq, drpK_int, vPop_eq, popK_some, popK2_some, iKeysT_eq, gIsN_of, gNotN_of, isNone_none, isNone_int, isNone_tup, isT_bool_none, isT_int_none, forL_dr, str_ne, List.getElem?_cons_zero, List.getElem?_cons_succ, List.set_cons_zero, List.set_cons_succ, Option.map_some, Option.bind_some, if_true, if_false, ite_true, ite_false, iteM, iteMS, Bool.false_eq_true, small_eq, List.length_cons, List.length_nil, decide_eq_true_eq, eq_self, decide_true, Int.toNat_natCast, Nat.reduceLeDiff, Nat.reduceAdd, Nat.reduceMul, Nat.zero_le, Nat.zero_add, e3, q0, e6, Bool.not_true]
  unfold bTurn
  generalize sIf (tAndM (toB (vBin gLe (vLenV 5) (ret (.val (.int 10))))) (toB (vBin gNe (vCB gReprA (aCons (vCallP m_depth_of (aCons (vVar 5) aNil)) aNil)) (vCB gReprA (aCons (vVar 4) aNil)))))
      (sRet (ret (.val (.bool false)))) sNext = G1 at last ⊢
  generalize sIf (toB (vBin gEq (vCallP m__law_reduced (aCons (vVar 3) aNil)) (vTup aNil))) (sIf tOne (sRet (ret (.val (.bool false)))) sNext)
      (sIf (tNotM (toB (vCallP m__law_right (aCons (vVar 3) (aCons (vVar 4) aNil))))) (sRet (ret (.val (.bool false)))) sNext) = G2 at mid ⊢
  simp only [bnd_eq, bind_ok, ret_eq, ofO_some, toD_eq, frz_val, frz_own, toB_eq, boolOf_b, vVar_eq, varK_val, varK_root, varK_own, vBin_eq, vUn_eq, vAnd_eq, vOr_eq, vNot_eq, tAnd_eq, tOr_eq, tNot_eq, vIfE_eq, aNil_eq, aCons_eq, vTup_eq, vLst_eq, vCB_eq, chain_eq, vIsi_eq, vIsi2_eq, noDict_int, noDict_tuple, noDict_list, noDict_none, noDict_bool, noDict_str, isT_int_int, isT_bool_int, isT_tuple_tuple, isT_tuple_int, isT_int_tuple, gAdd_int, gAdd_tup, gAdd_lst, gSub_int, gMul_int, gMul_tup, gMul_lst, gMod_int, gDiv_int, gPow_int, gLt_int, gLe_int, gGt_int, gGe_int, gEq_int, gNe_int, gNeg_int, gRev_tup, gIx_tup, gIx_lst, gLen_tup, gLen_lst, gAbs_int, gMin_int, gMax_int, gInt_int, gTuple_lst, gTuple_tup, gList_lst, gList_tup, gSum_ints, gAll_bools, gAny_bools, vIxV_eq, ixK_some, ixK2_some, slotD_val, slotD_own, vLenV_eq, lenK_some, tTruV_eq, truK_some, tTru_eq, truD_bool, truD_int, truD_tup, truD_lst, truD_none, vApp_eq, appK_some, appK2_some, ownOf_own, thenK_ok, thenS_eq, sSetIx_eq, setIxK_some, setIxK2_some, setIxK3_some, sSeq_eq, seqK_nx, seqK_rt, seqK_bk, seqK_ct, sNext_eq, sBreak_eq, sCont_eq, sRet_eq, sRetN_eq, sExpr_eq, sSet_eq, sIf_eq, asgK_some, sAsg_eq, gNm_eq, gTp_tup, gAll2_nil, gAll2_cons, bNil_eq, bCons_eq, parK_two, sPar_eq, iSeq_eq, seqOf_tup, seqOf_lst, iRg_eq, vCallP_eq, callK_ret, vCallR_eq, callRK_ret, rNil_eq, rCons_eq, argOf_val, argOf_own, argOf_root, oNone_eq, oSome_eq, intOf_int, vSlice_eq, gSl_tup, gSl_lst, wipe_nil, wipe_cons, outP_val, outP_own, outP_ownT, outP_nx, outR_rt, outR_nx, vNewT_eq, vDisp1_eq, vTake_eq, takeK_some, ownTOf_own, iItemsT_eq, dictOf_own, sPutT_eq, putK1_some, putK2_some, vGetT_eq, getK1_some, getK2_some, keyOf_ints, forK_some, forK2_nx, forK2_ct, forK2_bk, forK2_rt, lcK_ok, dcK_ok, ttYes_eq, lcK3_some, dcK3_some, dcK4_some, vDrGet_eq, drgK_true, isRoot_root, vDrLen_eq, drlK_true, vDrCell_eq, drcK_true, drc2_int, drc3_some, sDrPut_eq, drpK_int, vPop_eq, popK_some, popK2_some, iKeysT_eq, gIsN_of, gNotN_of, isNone_none, isNone_int, isNone_tup, isT_bool_none, isT_int_none, forL_dr, str_ne, List.getElem?_cons_zero, List.getElem?_cons_succ, List.set_cons_zero, List.set_cons_succ, Option.map_some, Option.bind_some, if_true, if_false, ite_true, ite_false, iteM, iteMS, Bool.false_eq_true, small_eq, List.length_cons, List.length_nil, decide_eq_true_eq, eq_self, decide_true, Int.toNat_natCast, Nat.reduceLeDiff, Nat.reduceAdd, Nat.reduceMul, Nat.zero_le, Nat.zero_add, e1, pm, e2, mid, e4, e5, er, ne, a1, a2, last]
theorem law_val : ∀ d : Dr, DrOk d → ∃ r', c_law (Slot.emp :: Slot.root :: List.replicate (n_law - 2) Slot.emp) d = .rt (.val (.bool true)) r' := by
  intro d h0
  have hg : rg1 [.int 6] = some (rangeD 0 6) := rg1_nat (n := 6) (by decide)
  obtain ⟨d', e, _⟩ := forL_dr (js := [2, 3, 4, 5]) (t := gNm 2) (body := bTurn) (st := [.emp, .root, .emp, .emp, .emp, .emp]) (fun x d hd => by
    obtain ⟨s3, s4, s5, d', e, h'⟩ := law_turn x d hd
    exact ⟨_, rfl, _, d', .inl e, rfl, h'⟩) (rangeD 0 6) [.emp, .root, .emp, .emp, .emp, .emp] d rfl h0
  refine ⟨d', ?_⟩
  show c_law [.emp, .root, .emp, .emp, .emp, .emp] d = _
  rw [law_eq]
  simp only [bnd_eq, bind_ok, ret_eq, ofO_some, toD_eq, frz_val, frz_own, toB_eq, boolOf_b, vVar_eq, varK_val, varK_root, varK_own, vBin_eq, vUn_eq, vAnd_eq, vOr_eq, vNot_eq, tAnd_eq, tOr_eq, tNot_eq, vIfE_eq, aNil_eq, aCons_eq, vTup_eq, vLst_eq, vCB_eq, chain_eq, vIsi_eq, vIsi2_eq, noDict_int, noDict_tuple, noDict_list, noDict_none, noDict_bool, noDict_str, isT_int_int, isT_bool_int, isT_tuple_tuple, isT_tuple_int, isT_int_tuple, gAdd_int, gAdd_tup, gAdd_lst, gSub_int, gMul_int, gMul_tup, gMul_lst, gMod_int, gDiv_int, gPow_int, gLt_int, gLe_int, gGt_int, gGe_int, gEq_int, gNe_int, gNeg_int, gRev_tup, gIx_tup, gIx_lst, gLen_tup, gLen_lst, gAbs_int, gMin_int, gMax_int, gInt_int, gTuple_lst, gTuple_tup, gList_lst, gList_tup, gSum_ints, gAll_bools, gAny_bools, vIxV_eq, ixK_some, ixK2_some, slotD_val, slotD_own, vLenV_eq, lenK_some, tTruV_eq, truK_some, tTru_eq, truD_bool, truD_int, truD_tup, truD_lst, truD_none, vApp_eq, appK_some, appK2_some, ownOf_own, thenK_ok, thenS_eq, sSetIx_eq, setIxK_some, setIxK2_some, setIxK3_some, sSeq_eq, seqK_nx, seqK_rt, seqK_bk, seqK_ct, sNext_eq, sBreak_eq, sCont_eq, sRet_eq, sRetN_eq, sExpr_eq, sSet_eq, sIf_eq, asgK_some, sAsg_eq, gNm_eq, gTp_tup, gAll2_nil, gAll2_cons, bNil_eq, bCons_eq, parK_two, sPar_eq, iSeq_eq, seqOf_tup, seqOf_lst, iRg_eq, vCallP_eq, callK_ret, vCallR_eq, callRK_ret, rNil_eq, rCons_eq, argOf_val, argOf_own, argOf_root, oNone_eq, oSome_eq, intOf_int, vSlice_eq, gSl_tup, gSl_lst, wipe_nil, wipe_cons, outP_val, outP_own, outP_ownT, outP_nx, outR_rt, outR_nx, vNewT_eq, vDisp1_eq, vTake_eq, takeK_some, ownTOf_own, iItemsT_eq, dictOf_own, sPutT_eq, putK1_some, putK2_some, vGetT_eq, getK1_some, getK2_some, keyOf_ints, forK_some, forK2_nx, forK2_ct, forK2_bk, forK2_rt, lcK_ok, dcK_ok, ttYes_eq, lcK3_some, dcK3_some, dcK4_some, vDrGet_eq, drgK_true, isRoot_root, vDrLen_eq, drlK_true, vDrCell_eq, drcK_true, drc2_int, drc3_some, sDrPut_eq, drpK_int, vPop_eq, popK_some, popK2_some, iKeysT_eq, gIsN_of, gNotN_of, isNone_none, isNone_int, isNone_tup, isT_bool_none, isT_int_none, forL_dr, str_ne, List.getElem?_cons_zero, List.getElem?_cons_succ, List.set_cons_zero, List.set_cons_succ, Option.map_some, Option.bind_some, if_true, if_false, ite_true, ite_false, iteM, iteMS, Bool.false_eq_true, small_eq, List.length_cons, List.length_nil, decide_eq_true_eq, eq_self, decide_true, Int.toNat_natCast, Nat.reduceLeDiff, Nat.reduceAdd, Nat.reduceMul, Nat.zero_le, Nat.zero_add, sFor_eq, hg, e]
end L2.VL.K77

open PySem PySem.W PyProof.Rows
set_option maxRecDepth 100000 in
set_option maxHeartbeats 0 in
theorem PySem.Challenge.cw_wholelayers_k77_whole_depths_holds : PySem.Challenge.rw_wholelayers_k77_whole_depths.Holds := by
  w_on; o_law; k_head; (case hw => w_witness2)
  k_fill
  refine L2.VL.walk_ofG (l := PySem.Challenge.rw_wholelayers_k77_whole_depths) (k := 6) (n := 63) (sp := L2.VL.spLaw) (x := "script") (by decide +kernel) (by rw [sizeLine_eq]; decide) rfl ⟨rfl, by decide, by decide⟩ (fun w h Y => PySem.W.kIn_of Y) ?F (fun K H a ns h1 h2 h3 => ⟨a, ns, rfl, h3, h1, fun _ => rfl⟩)
  case F =>
    intro w mg fa h KX G hmg
    refine' L2.VL.K77.fin KX G hmg ?a__law_begin ?l__law_begin ?c__law_begin' ?k__law_begin ?a__law_draw ?l__law_draw ?c__law_draw' ?k__law_draw ?a_is_integer ?l_is_integer ?c_is_integer' ?k_is_integer ?a_is_natural ?l_is_natural ?c_is_natural' ?k_is_natural ?t_is_natural ?a_are_integers ?l_are_integers ?c_are_integers' ?k_are_integers ?a_check_between ?l_check_between ?c_check_between' ?k_check_between ?a_check_word ?l_check_word ?c_check_word' ?k_check_word ?a_left_out ?l_left_out ?c_left_out' ?k_left_out ?a_leaving_out ?l_leaving_out ?c_leaving_out' ?k_leaving_out ?a_expansion_in ?l_expansion_in ?c_expansion_in' ?k_expansion_in ?a_expansion ?l_expansion ?c_expansion' ?k_expansion ?a_depth_of ?l_depth_of ?c_depth_of' ?k_depth_of ?a__law_back ?l__law_back ?c__law_back' ?k__law_back ?a__law_commuted ?l__law_commuted ?c__law_commuted' ?k__law_commuted ?a__law_word ?l__law_word ?c__law_word' ?k__law_word ?a__law_reduced ?l__law_reduced ?c__law_reduced' ?k__law_reduced ?a__law_drawn ?l__law_drawn ?c__law_drawn' ?k__law_drawn ?a__law_right ?l__law_right ?c__law_right' ?k__law_right ?a_law ?l_law ?c_law' ?k_law ?b_int ?b_sum ?b_len ?b_isinstance ?b_bool ?b_tuple ?b_all ?b_range ?b_min ?b_abs ?b_sorted ?b_any ?b_repr ?hval
    (case a__law_begin => k_is)
    (case l__law_begin => k_is)
    (case c__law_begin' => k_is)
    (case k__law_begin => k_is)
    (case a__law_draw => k_is)
    (case l__law_draw => k_is)
    (case c__law_draw' => k_is)
    (case k__law_draw => k_is)
    (case a_is_integer => k_is)
    (case l_is_integer => k_is)
    (case c_is_integer' => k_is)
    (case k_is_integer => k_is)
    (case a_is_natural => k_is)
    (case l_is_natural => k_is)
    (case c_is_natural' => k_is)
    (case k_is_natural => k_is)
    (case t_is_natural => k_is)
    (case a_are_integers => k_is)
    (case l_are_integers => k_is)
    (case c_are_integers' => k_is)
    (case k_are_integers => k_is)
    (case a_check_between => k_is)
    (case l_check_between => k_is)
    (case c_check_between' => k_is)
    (case k_check_between => k_is)
    (case a_check_word => k_is)
    (case l_check_word => k_is)
    (case c_check_word' => k_is)
    (case k_check_word => k_is)
    (case a_left_out => k_is)
    (case l_left_out => k_is)
    (case c_left_out' => k_is)
    (case k_left_out => k_is)
    (case a_leaving_out => k_is)
    (case l_leaving_out => k_is)
    (case c_leaving_out' => k_is)
    (case k_leaving_out => k_is)
    (case a_expansion_in => k_is)
    (case l_expansion_in => k_is)
    (case c_expansion_in' => k_is)
    (case k_expansion_in => k_is)
    (case a_expansion => k_is)
    (case l_expansion => k_is)
    (case c_expansion' => k_is)
    (case k_expansion => k_is)
    (case a_depth_of => k_is)
    (case l_depth_of => k_is)
    (case c_depth_of' => k_is)
    (case k_depth_of => k_is)
    (case a__law_back => k_is)
    (case l__law_back => k_is)
    (case c__law_back' => k_is)
    (case k__law_back => k_is)
    (case a__law_commuted => k_is)
    (case l__law_commuted => k_is)
    (case c__law_commuted' => k_is)
    (case k__law_commuted => k_is)
    (case a__law_word => k_is)
    (case l__law_word => k_is)
    (case c__law_word' => k_is)
    (case k__law_word => k_is)
    (case a__law_reduced => k_is)
    (case l__law_reduced => k_is)
    (case c__law_reduced' => k_is)
    (case k__law_reduced => k_is)
    (case a__law_drawn => k_is)
    (case l__law_drawn => k_is)
    (case c__law_drawn' => k_is)
    (case k__law_drawn => k_is)
    (case a__law_right => k_is)
    (case l__law_right => k_is)
    (case c__law_right' => k_is)
    (case k__law_right => k_is)
    (case a_law => k_is)
    (case l_law => k_is)
    (case c_law' => k_is)
    (case k_law => k_is)
    (case b_int => k_is)
    (case b_sum => k_is)
    (case b_len => k_is)
    (case b_isinstance => k_is)
    (case b_bool => k_is)
    (case b_tuple => k_is)
    (case b_all => k_is)
    (case b_range => k_is)
    (case b_min => k_is)
    (case b_abs => k_is)
    (case b_sorted => k_is)
    (case b_any => k_is)
    (case b_repr => k_is)
    exact L2.VL.K77.law_val
