import PyProof.Rows.All
import Wide.All
import OpenK.AllK
import Wide.FinOn
import HandS.ForMost
import HandS.Defaults
import HandS.TupAny
import HandS.Wide
import HandS.WideBits
import HandS.IsInst
import HandS.Walk
import HandS.Small
import HandS.Rev
import KE.SortData
import HandS.Conv
import HandS.More
import KE.KDictSum
import KE.KDictPairs
import KE.KDictKeyed
import HandS.RevTup
import HandS.Deep
import HandS.DeepEq
import HandS.Style
import HandS.Words
import HandS.HeadHook2
import HandS.Ends
import HandS.HeadEnd
import HandS.TryOnly
import HandS.Zip
import HandS.StrMore
import PyProof.Rows.RuleB_pow
import PyProof.StrBlock2
import HandS.TupMul
import HandS.Dict
import KE.KStateDown
import Lean
import HandS.Base
import HandS.Call
import HandS.WordsExc
import HandS.Head0
import HandS.Head1
import HandS.Head2
import HandS.HeadHook1
import KE.KIntText
import PySem.Challenge.RW_baselots_k17_whole_main_flats_by_ranks
set_option Elab.async false
set_option linter.all false
set_option maxRecDepth 100000
set_option maxHeartbeats 4000000
set_option autoImplicit false
/-! VS: programs over plain data. A layer of our own over the hand layer: values are trees (PyData), lists that a def fills are owned by one slot, the law's bag of draws is one state. -/
namespace VS
open PySem PySem.Spec L2
open PyProof.Rows hiding St

/-- what is frozen (never stored into again), where the bag stands -/
structure Gh where
  F : Addr → Prop
  bag : Option (Addr × Addr)
/-- the law's bag: cells still to come, digits of the present one, a mixed number -/
structure Bag where
  cells : List Int
  dig : Int
  mix : Int
  on : Bool
/-- the datum that stands for the bag itself -/
abbrev bagD : PyData := .dict [(.none, .none)]
/-- the datum that stands for the script -/
abbrev scrD (ns : List Int) : PyData := .dict [(.none, .list (ns.map .int))]
/-- a dict of tuples, a dict of ints and texts: told by their first pair -/
abbrev dictT (kvs : List (PyData × PyData)) : PyData := .dict ((.bool true, .none) :: kvs)
abbrev dictK (kvs : List (PyData × PyData)) : PyData := .dict ((.bool false, .none) :: kvs)
def keyD : Key → PyData
  | .inl i => .int i
  | .inr x => .str x

mutual
inductive Sees (K : PySem.W.Frag) (g : Gh) (H : Hp) : V → PyData → Prop
  | non : Sees K g H .non .none
  | bl (b : Bool) : Sees K g H (.bl b) (.bool b)
  | int (i : Int) : Sees K g H (.int i) (.int i)
  | str (x : Str) : Sees K g H (.str x) (.str x)
  | lst {a : Addr} {xs : List V} {ds : List PyData} : g.F a → H a = some (.lst xs) → SeesAll K g H xs ds → Sees K g H (.ref a) (.list ds)
  | tup {a : Addr} {xs : List V} {ds : List PyData} : H a = some (.tup xs) → SeesAll K g H xs ds → Sees K g H (.ref a) (.tuple ds)
  | dicT {a : Addr} {ks : List (List Key × V)} {kvs : List (PyData × PyData)} : g.F a → H a = some (.dT ks) → SeesT K g H ks kvs → Sees K g H (.ref a) (dictT kvs)
  | dicK {a : Addr} {ks : List (Key × V)} {kvs : List (PyData × PyData)} : g.F a → H a = some (.dK ks) → SeesK K g H ks kvs → Sees K g H (.ref a) (dictK kvs)
  | bag {b c : Addr} : g.bag = some (b, c) → Sees K g H (.ref b) bagD
  | scr {a : Addr} {ns : List Int} : (∀ H' : Hp, (∀ b o u, H b = some (.frz o u) → H' b = some (.frz o u)) → SqL K H' a (ns.map V.int)) → Sees K g H (.ref a) (scrD ns)
inductive SeesAll (K : PySem.W.Frag) (g : Gh) (H : Hp) : List V → List PyData → Prop
  | nil : SeesAll K g H [] []
  | cons {v : V} {vs : List V} {d : PyData} {ds : List PyData} : Sees K g H v d → SeesAll K g H vs ds → SeesAll K g H (v :: vs) (d :: ds)
inductive SeesT (K : PySem.W.Frag) (g : Gh) (H : Hp) : List (List Key × V) → List (PyData × PyData) → Prop
  | nil : SeesT K g H [] []
  | cons {k : List Key} {v : V} {d : PyData} {ks : List (List Key × V)} {kvs : List (PyData × PyData)} : Sees K g H v d → SeesT K g H ks kvs → SeesT K g H ((k, v) :: ks) ((.tuple (k.map keyD), d) :: kvs)
inductive SeesK (K : PySem.W.Frag) (g : Gh) (H : Hp) : List (Key × V) → List (PyData × PyData) → Prop
  | nil : SeesK K g H [] []
  | cons {k : Key} {v : V} {d : PyData} {ks : List (Key × V)} {kvs : List (PyData × PyData)} : Sees K g H v d → SeesK K g H ks kvs → SeesK K g H ((k, v) :: ks) ((keyD k, d) :: kvs)
end

/-- from one state to a later one: T may have been stored into -/
structure Ext (T : Addr → Prop) (g : Gh) (H : Hp) (g' : Gh) (H' : Hp) : Prop where
  keep : ∀ a o, H a = some o → ¬ T a → H' a = some o
  there : ∀ a, H a ≠ none → H' a ≠ none
  mono : ∀ a, g.F a → g'.F a
  new : ∀ a, g'.F a → ¬ g.F a → H a = none ∨ T a
  newt : ∀ a, g'.F a → ¬ g.F a → H' a ≠ none
  bag : ∀ p, g.bag = some p → g'.bag = some p
  bagn : ∀ b c, g'.bag = some (b, c) → g.bag = none → H b = none ∧ H c = none
/-- what may be stored into is no tuple and not frozen -/
structure TOk (T : Addr → Prop) (g : Gh) (H : Hp) : Prop where
  mu : ∀ a, T a → Mut (H a)
  nf : ∀ a, T a → ¬ g.F a

section
variable {K : PySem.W.Frag} {g g' : Gh} {H H' : Hp} {T : Addr → Prop}
/-- what is needed that data stand -/
structure Stay (g : Gh) (H : Hp) (g' : Gh) (H' : Hp) : Prop where
  f : ∀ a, g.F a → g'.F a
  k : ∀ a o, g.F a → H a = some o → H' a = some o
  t : ∀ a xs, H a = some (.tup xs) → H' a = some (.tup xs)
  z : ∀ a ob u, H a = some (.frz ob u) → H' a = some (.frz ob u)
  b : ∀ p, g.bag = some p → g'.bag = some p
theorem Ext.stay (e : Ext T g H g' H') (o : TOk T g H) : Stay g H g' H' where
  f := e.mono
  k := fun a ob f h => e.keep a ob h fun t => o.nf a t f
  t := fun a xs h => e.keep a _ h fun t => by
    have := o.mu a t
    rw [h] at this
    exact this
  z := fun a ob u h => e.keep a _ h fun t => by
    have := o.mu a t
    rw [h] at this
    exact this
  b := e.bag
mutual
theorem Sees.stay (s : Stay g H g' H') : ∀ {v : V} {d : PyData}, Sees K g H v d → Sees K g' H' v d
  | _, _, .non => .non
  | _, _, .bl b => .bl b
  | _, _, .int i => .int i
  | _, _, .str x => .str x
  | _, _, .lst f q r => .lst (s.f _ f) (s.k _ _ f q) (SeesAll.stay s r)
  | _, _, .tup q r => .tup (s.t _ _ q) (SeesAll.stay s r)
  | _, _, .dicT f q r => .dicT (s.f _ f) (s.k _ _ f q) (SeesT.stay s r)
  | _, _, .dicK f q r => .dicK (s.f _ f) (s.k _ _ f q) (SeesK.stay s r)
  | _, _, .bag h => .bag (s.b _ h)
  | _, _, .scr h => .scr fun H2 z => h H2 fun b o u e => z b o u (s.z b o u e)
theorem SeesAll.stay (s : Stay g H g' H') : ∀ {vs : List V} {ds : List PyData}, SeesAll K g H vs ds → SeesAll K g' H' vs ds
  | _, _, .nil => .nil
  | _, _, .cons h r => .cons (Sees.stay s h) (SeesAll.stay s r)
theorem SeesT.stay (s : Stay g H g' H') : ∀ {vs : List (List Key × V)} {ds : List (PyData × PyData)}, SeesT K g H vs ds → SeesT K g' H' vs ds
  | _, _, .nil => .nil
  | _, _, .cons h r => .cons (Sees.stay s h) (SeesT.stay s r)
theorem SeesK.stay (s : Stay g H g' H') : ∀ {vs : List (Key × V)} {ds : List (PyData × PyData)}, SeesK K g H vs ds → SeesK K g' H' vs ds
  | _, _, .nil => .nil
  | _, _, .cons h r => .cons (Sees.stay s h) (SeesK.stay s r)
end
end
end VS
namespace VS
open PySem PySem.Spec L2
open PyProof.Rows hiding St

/-! ### a def's slots over data -/
inductive Slot where
  | un
  | sh (d : PyData)
  | ow (d : PyData)
structure S where
  ρ : List Slot
  β : Bag
def OwnAt (K : PySem.W.Frag) (g : Gh) (H : Hp) (a : Addr) (d : PyData) : Prop :=
  (∃ xs ds, d = .list ds ∧ H a = some (.lst xs) ∧ SeesAll K g H xs ds) ∨
  (∃ ks kvs, d = dictT kvs ∧ H a = some (.dT ks) ∧ SeesT K g H ks kvs) ∨
  (∃ ks kvs, d = dictK kvs ∧ H a = some (.dK ks) ∧ SeesK K g H ks kvs)
def SlotOk (K : PySem.W.Frag) (g : Gh) (H : Hp) : Slot → Option (Option V) → Prop
  | .un, _ => True
  | .sh d, o => ∃ v, o = some (some v) ∧ Sees K g H v d
  | .ow d, o => ∃ a, o = some (some (.ref a)) ∧ OwnAt K g H a d
def BagOk (g : Gh) (β : Bag) (H : Hp) : Prop := (β.on = false → g.bag = none) ∧ ∀ b c, g.bag = some (b, c) →
  H b = some (.lst [.ref c, .int β.dig, .int β.mix]) ∧ H c = some (.lst (β.cells.map V.int)) ∧ b ≠ c ∧ ¬ g.F b ∧ ¬ g.F c
def BagC (g : Gh) (a : Addr) : Prop := ∃ b c, g.bag = some (b, c) ∧ (a = b ∨ a = c)
def OwnC (ρ : List Slot) (σ : St) (a : Addr) : Prop := ∃ (i : Nat) (d : PyData), ρ[i]? = some (Slot.ow d) ∧ σ[i]? = some (some (V.ref a))
def Touch (g : Gh) (ρ : List Slot) (σ : St) (a : Addr) : Prop := BagC g a ∨ OwnC ρ σ a

structure Rel (K : PySem.W.Frag) (g0 : Gh) (H0 : Hp) (g : Gh) (s : S) (σ : St) (H : Hp) : Prop where
  len : s.ρ.length = σ.length
  slot : ∀ (i : Nat) (sl : Slot), s.ρ[i]? = some sl → SlotOk K g H sl σ[i]?
  apart : ∀ (i j : Nat) (d e : PyData) (a : Addr), s.ρ[i]? = some (Slot.ow d) → s.ρ[j]? = some (Slot.ow e) → σ[i]? = some (some (V.ref a)) → σ[j]? = some (some (V.ref a)) → i = j
  nf : ∀ a, OwnC s.ρ σ a → ¬ g.F a ∧ ¬ BagC g a ∧ H0 a = none
  bag : BagOk g s.β H
  grow : Ext (BagC g0) g0 H0 g H
  ft : ∀ a, g.F a → H a ≠ none

theorem OwnAt.mut {K : PySem.W.Frag} {g : Gh} {H : Hp} {a : Addr} {d : PyData} (h : OwnAt K g H a d) : Mut (H a) := by
  rcases h with ⟨xs, ds, _, e, _⟩ | ⟨ks, kvs, _, e, _⟩ | ⟨ks, kvs, _, e, _⟩ <;> (rw [e]; trivial)
theorem mutSome {o : Option HO} (h : Mut o) : o ≠ none := by
  rintro rfl
  exact h
theorem OwnAt.stay {K : PySem.W.Frag} {g g' : Gh} {H H' : Hp} {a : Addr} {d : PyData} (h : OwnAt K g H a d) (s : Stay g H g' H') (k : ∀ o, H a = some o → H' a = some o) : OwnAt K g' H' a d := by
  rcases h with ⟨xs, ds, e, q, r⟩ | ⟨ks, kvs, e, q, r⟩ | ⟨ks, kvs, e, q, r⟩
  · exact .inl ⟨xs, ds, e, k _ q, r.stay s⟩
  · exact .inr (.inl ⟨ks, kvs, e, k _ q, r.stay s⟩)
  · exact .inr (.inr ⟨ks, kvs, e, k _ q, r.stay s⟩)
theorem BagOk.mut {g : Gh} {β : Bag} {H : Hp} (h : BagOk g β H) {a : Addr} (z : BagC g a) : Mut (H a) := by
  obtain ⟨b, c, e, z⟩ := z
  obtain ⟨h1, h2, _⟩ := h.2 b c e
  rcases z with rfl | rfl
  · rw [h1]; trivial
  · rw [h2]; trivial
theorem BagOk.nf {g : Gh} {β : Bag} {H : Hp} (h : BagOk g β H) {a : Addr} (z : BagC g a) : ¬ g.F a := by
  obtain ⟨b, c, e, z⟩ := z
  obtain ⟨_, _, _, h1, h2⟩ := h.2 b c e
  rcases z with rfl | rfl
  · exact h1
  · exact h2
section
variable {K : PySem.W.Frag} {g0 g g1 g2 : Gh} {H0 H H1 H2 : Hp} {s s1 s2 : S} {σ : St} {T T1 T2 : Addr → Prop}
theorem Rel.ownAt (r : Rel K g0 H0 g s σ H) {a : Addr} (h : OwnC s.ρ σ a) : ∃ d, OwnAt K g H a d := by
  obtain ⟨i, d, h1, h2⟩ := h
  obtain ⟨b, e, q⟩ := r.slot i _ h1
  rw [h2] at e
  cases e
  exact ⟨d, q⟩
theorem Rel.tok (r : Rel K g0 H0 g s σ H) : TOk (Touch g s.ρ σ) g H where
  mu := fun a h => by
    rcases h with h | h
    · exact r.bag.mut h
    · obtain ⟨d, q⟩ := r.ownAt h
      exact q.mut
  nf := fun a h => by
    rcases h with h | h
    · exact r.bag.nf h
    · exact (r.nf a h).1
theorem Ext.refl : Ext T g H g H := ⟨fun _ _ h _ => h, fun _ h => h, fun _ h => h, fun _ h n => absurd h n, fun _ h n => absurd h n, fun _ h => h, fun _ _ h n => by rw [n] at h; cases h⟩
theorem Ext.trans (a : Ext T g H g1 H1) (b : Ext T1 g1 H1 g2 H2) (h : ∀ a, T1 a → T a ∨ H a = none) : Ext T g H g2 H2 where
  keep := fun c o e n => b.keep c o (a.keep c o e n) fun t => by
    rcases h c t with z | z
    · exact n z
    · rw [z] at e; cases e
  there := fun c n => b.there c (a.there c n)
  mono := fun c f => b.mono c (a.mono c f)
  new := fun c f n => by
    by_cases f1 : g1.F c
    · exact a.new c f1 n
    · rcases b.new c f f1 with z | z
      · left
        exact Classical.byContradiction fun q => a.there c q z
      · exact (h c z).symm
  newt := fun c f n => by
    by_cases f1 : g1.F c
    · exact b.there c (a.newt c f1 n)
    · exact b.newt c f f1
  bag := fun p e => b.bag p (a.bag p e)
  bagn := fun x y e n => by
    cases q : g1.bag with
    | none =>
      obtain ⟨z1, z2⟩ := b.bagn x y e q
      exact ⟨Classical.byContradiction fun u => a.there x u z1, Classical.byContradiction fun u => a.there y u z2⟩
    | some p =>
      have := b.bag p q
      rw [e] at this
      cases this
      exact a.bagn x y q n
theorem Ext.bagc (e : Ext T g H g1 H1) {a : Addr} (h : BagC g1 a) : BagC g a ∨ H a = none := by
  obtain ⟨b, c, q, z⟩ := h
  cases n : g.bag with
  | none =>
    obtain ⟨n1, n2⟩ := e.bagn b c q n
    rcases z with rfl | rfl
    · exact .inr n1
    · exact .inr n2
  | some p =>
    have := e.bag p n
    rw [q] at this
    cases this
    exact .inl ⟨b, c, n, z⟩
theorem Ext.bagc' (e : Ext T g H g1 H1) {a : Addr} (h : BagC g a) : BagC g1 a := by
  obtain ⟨b, c, q, z⟩ := h
  exact ⟨b, c, e.bag _ q, z⟩

/-- one step of an expression -/
structure Step (K : PySem.W.Frag) (g0 : Gh) (H0 : Hp) (g : Gh) (s : S) (σ : St) (H : Hp) (g' : Gh) (s' : S) (H' : Hp) : Prop where
  rel : Rel K g0 H0 g' s' σ H'
  ext : Ext (Touch g s.ρ σ) g H g' H'
  own : ∀ a, OwnC s'.ρ σ a → OwnC s.ρ σ a
theorem Step.refl (r : Rel K g0 H0 g s σ H) : Step K g0 H0 g s σ H g s H := ⟨r, .refl, fun _ h => h⟩
theorem Step.trans (a : Step K g0 H0 g s σ H g1 s1 H1) (b : Step K g0 H0 g1 s1 σ H1 g2 s2 H2) : Step K g0 H0 g s σ H g2 s2 H2 where
  rel := b.rel
  ext := a.ext.trans b.ext fun c t => by
    rcases t with t | t
    · rcases a.ext.bagc t with z | z
      · exact .inl (.inl z)
      · exact .inr z
    · exact .inl (.inr (a.own c t))
  own := fun c h => a.own c (b.own c h)
theorem Step.stay (r : Rel K g0 H0 g s σ H) (a : Step K g0 H0 g s σ H g1 s1 H1) : Stay g H g1 H1 := a.ext.stay r.tok
theorem Sees.step {v : V} {d : PyData} (h : Sees K g H v d) (r : Rel K g0 H0 g s σ H) (a : Step K g0 H0 g s σ H g1 s1 H1) : Sees K g1 H1 v d := Sees.stay (a.stay r) h

/-- only new objects -/
structure Fresh (g : Gh) (H : Hp) (g' : Gh) (H' : Hp) : Prop where
  ext : Ext (fun _ => False) g H g' H'
  same : g'.bag = g.bag
theorem Fresh.refl : Fresh g H g H := ⟨.refl, rfl⟩
theorem Fresh.trans (a : Fresh g H g1 H1) (b : Fresh g1 H1 g2 H2) : Fresh g H g2 H2 := ⟨a.ext.trans b.ext fun _ z => z.elim, b.same.trans a.same⟩
theorem Fresh.tok : TOk (fun _ => False) g H := ⟨fun _ z => z.elim, fun _ z => z.elim⟩
theorem Fresh.stay (a : Fresh g H g1 H1) : Stay g H g1 H1 := a.ext.stay Fresh.tok
theorem Fresh.bagc (a : Fresh g H g1 H1) {x : Addr} : BagC g1 x ↔ BagC g x := by
  unfold BagC
  rw [a.same]
theorem Ext.weak (e : Ext (fun _ => False) g H g1 H1) : Ext T g H g1 H1 :=
  ⟨fun a o h _ => e.keep a o h fun z => z, e.there, e.mono, fun a f n => .inl ((e.new a f n).resolve_right fun z => z), e.newt, e.bag, e.bagn⟩
theorem SlotOk.stay {sl : Slot} {o : Option (Option V)} (h : SlotOk K g H sl o) (st : Stay g H g1 H1) (k : ∀ a, (∃ d, sl = .ow d ∧ o = some (some (.ref a))) → ∀ u, H a = some u → H1 a = some u) : SlotOk K g1 H1 sl o := by
  cases sl with
  | un => trivial
  | sh d =>
    obtain ⟨v, e, q⟩ := h
    exact ⟨v, e, q.stay st⟩
  | ow d =>
    obtain ⟨a, e, q⟩ := h
    exact ⟨a, e, q.stay st (k a ⟨d, rfl, e⟩)⟩
theorem Fresh.step (a : Fresh g H g1 H1) (r : Rel K g0 H0 g s σ H) : Step K g0 H0 g s σ H g1 s H1 where
  rel := by
    refine ⟨r.len, fun i sl e => (r.slot i sl e).stay a.stay fun b _ u h => a.ext.keep b u h fun z => z, r.apart, fun b h => ?_, ⟨fun q => by rw [a.same]; exact r.bag.1 q, fun b c e => ?_⟩, ?_, fun b h => ?_⟩
    · obtain ⟨h1, h2, h3⟩ := r.nf b h
      refine ⟨fun f => ?_, fun z => h2 (a.bagc.mp z), h3⟩
      rcases a.ext.new b f h1 with z | z
      · obtain ⟨d, q⟩ := r.ownAt h
        exact mutSome q.mut z
      · exact z
    · obtain ⟨h1, h2, h3, h4, h5⟩ := r.bag.2 b c (by rw [← a.same]; exact e)
      refine ⟨a.ext.keep _ _ h1 fun z => z, a.ext.keep _ _ h2 fun z => z, h3, fun f => ?_, fun f => ?_⟩
      · rcases a.ext.new b f h4 with z | z
        · rw [h1] at z; cases z
        · exact z
      · rcases a.ext.new c f h5 with z | z
        · rw [h2] at z; cases z
        · exact z
    · exact r.grow.trans a.ext fun _ z => z.elim
    · by_cases f1 : g.F b
      · exact a.ext.there b (r.ft b f1)
      · exact a.ext.newt b h f1
  ext := a.ext.weak
  own := fun _ h => h
/-- a new object at p, not a frozen list -/
theorem Fresh.laid {p : Addr} {o : HO} (h : H p = none) : Fresh g H g (upd H p o) :=
  ⟨⟨fun a u e _ => by rw [upd_ne (ne_of_none e h)]; exact e, fun a n => by
    by_cases q : a = p
    · rw [q, upd_same]; exact fun z => by cases z
    · rw [upd_ne q]; exact n, fun _ f => f, fun _ f n => absurd f n, fun _ f n => absurd f n, fun _ e => e, fun _ _ e n => by rw [n] at e; cases e⟩, rfl⟩
/-- p is frozen -/
def Gh.frz (g : Gh) (p : Addr) : Gh := ⟨fun a => g.F a ∨ a = p, g.bag⟩
theorem Fresh.frz {p : Addr} (a : Fresh g H g1 H1) (h : H p = none) (h1 : H1 p ≠ none) : Fresh g H (g1.frz p) H1 :=
  ⟨⟨a.ext.keep, a.ext.there, fun b f => .inl (a.ext.mono b f), fun b f n => by
    rcases f with f | rfl
    · exact a.ext.new b f n
    · exact .inl h, fun b f n => by
    rcases f with f | rfl
    · exact a.ext.newt b f n
    · exact h1, a.ext.bag, a.ext.bagn⟩, a.same⟩
theorem Stay.frz {p : Addr} : Stay g H (g.frz p) H := ⟨fun _ f => .inl f, fun _ _ _ h => h, fun _ _ h => h, fun _ _ _ h => h, fun _ h => h⟩
theorem OwnAt.frz {a : Addr} {d : PyData} (h : OwnAt K g H a d) : Sees K (g.frz a) H (.ref a) d := by
  rcases h with ⟨xs, ds, rfl, e, q⟩ | ⟨ks, kvs, rfl, e, q⟩ | ⟨ks, kvs, rfl, e, q⟩
  · exact .lst (.inr rfl) e (q.stay .frz)
  · exact .dicT (.inr rfl) e (q.stay .frz)
  · exact .dicK (.inr rfl) e (q.stay .frz)
end
end VS
namespace VS
open PySem PySem.Spec L2
open PyProof.Rows hiding St

/-! ### readings over data -/
abbrev DE := S → (PyData → S → Prop) → Prop
abbrev DT := S → (Bool → S → Prop) → Prop
abbrev DA := S → (List PyData → S → Prop) → Prop
/-- what lies behind: a slot's list is not frozen, is no other's -/
def NewAt (K : PySem.W.Frag) (H0 : Hp) (g' : Gh) (s' : S) (σ : St) (H H' : Hp) (a : Addr) (d : PyData) : Prop :=
  OwnAt K g' H' a d ∧ ¬ g'.F a ∧ ¬ BagC g' a ∧ H a = none ∧ ¬ OwnC s'.ρ σ a ∧ H0 a = none
def AdqE (K : PySem.W.Frag) (te : TE) (t : DE) : Prop := ∀ (g0 : Gh) (H0 : Hp) (g : Gh) (s : S) (σ : St) (H : Hp) (P : PyData → S → Prop) (Q : VK), Rel K g0 H0 g s σ H → t s P →
  (∀ v H' g' s' d, Step K g0 H0 g s σ H g' s' H' → Sees K g' H' v d → P d s' → Q v H') → te σ H Q
/-- a new list, a new dict -/
def AdqO (K : PySem.W.Frag) (te : TE) (t : DE) : Prop := ∀ (g0 : Gh) (H0 : Hp) (g : Gh) (s : S) (σ : St) (H : Hp) (P : PyData → S → Prop) (Q : VK), Rel K g0 H0 g s σ H → t s P →
  (∀ a H' g' s' d, Step K g0 H0 g s σ H g' s' H' → NewAt K H0 g' s' σ H H' a d → P d s' → Q (.ref a) H') → te σ H Q
def AdqT (K : PySem.W.Frag) (te : TT) (t : DT) : Prop := ∀ (g0 : Gh) (H0 : Hp) (g : Gh) (s : S) (σ : St) (H : Hp) (P : Bool → S → Prop) (Q : Bool → Hp → Prop), Rel K g0 H0 g s σ H → t s P →
  (∀ b H' g' s', Step K g0 H0 g s σ H g' s' H' → P b s' → Q b H') → te σ H Q
def AdqA (K : PySem.W.Frag) (te : TA) (t : DA) : Prop := ∀ (g0 : Gh) (H0 : Hp) (g : Gh) (s : S) (σ : St) (H : Hp) (P : List PyData → S → Prop) (Q : List V → Hp → Prop), Rel K g0 H0 g s σ H → t s P →
  (∀ vs H' g' s' ds, Step K g0 H0 g s σ H g' s' H' → SeesAll K g' H' vs ds → P ds s' → Q vs H') → te σ H Q

structure VE (X : Cx) (e : Expr) (te : TE) (t : DE) : Prop where
  pe : PE X e te
  adq : AdqE X.K te t
structure VO (X : Cx) (e : Expr) (te : TE) (t : DE) : Prop where
  pe : PE X e te
  adq : AdqO X.K te t
structure VT (X : Cx) (e : Expr) (te : TT) (t : DT) : Prop where
  pt : PT X e te
  adq : AdqT X.K te t
/-- a test in and, or -/
structure VW (X : Cx) (e : Expr) (te : TT) (t : DT) : Prop where
  pw : PW X e te
  adq : AdqT X.K te t
structure VA (X : Cx) (es : List Expr) (te : TA) (t : DA) : Prop where
  pa : PA X es te
  adq : AdqA X.K te t

section
variable {K : PySem.W.Frag} {g0 g g1 g2 : Gh} {H0 H H1 H2 : Hp} {s s1 s2 : S} {σ : St}
/-- what is new is frozen -/
theorem Step.frz {a : Addr} {d : PyData} (st : Step K g0 H0 g s σ H g1 s1 H1) (n : NewAt K H0 g1 s1 σ H H1 a d) : Step K g0 H0 g s σ H (g1.frz a) s1 H1 ∧ Sees K (g1.frz a) H1 (.ref a) d := by
  obtain ⟨n1, n2, n3, n4, n5, n6⟩ := n
  obtain ⟨r, e, o⟩ := st
  refine ⟨⟨⟨r.len, fun i sl q => (r.slot i sl q).stay .frz fun _ _ _ h => h, r.apart, fun b h => ?_, ⟨fun q => r.bag.1 q, fun b c q => ?_⟩, ?_, ?_⟩, ?_, o⟩, n1.frz⟩
  · obtain ⟨h1, h2, h3⟩ := r.nf b h
    refine ⟨?_, h2, h3⟩
    rintro (f | rfl)
    · exact h1 f
    · exact n5 h
  · obtain ⟨h1, h2, h3, h4, h5⟩ := r.bag.2 b c q
    refine ⟨h1, h2, h3, ?_, ?_⟩
    · rintro (f | rfl)
      · exact h4 f
      · exact n3 ⟨_, _, q, .inl rfl⟩
    · rintro (f | rfl)
      · exact h5 f
      · exact n3 ⟨_, _, q, .inr rfl⟩
  · refine ⟨r.grow.keep, r.grow.there, fun b f => .inl (r.grow.mono b f), ?_, ?_, r.grow.bag, r.grow.bagn⟩
    · rintro b (f | rfl) n
      · exact r.grow.new b f n
      · exact .inl n6
    · rintro b (f | rfl) n
      · exact r.grow.newt b f n
      · exact mutSome n1.mut
  · rintro b (f | rfl)
    · exact r.ft b f
    · exact mutSome n1.mut
  · refine ⟨e.keep, e.there, fun b f => .inl (e.mono b f), ?_, ?_, e.bag, e.bagn⟩
    · rintro b (f | rfl) n
      · exact e.new b f n
      · exact .inl n4
    · rintro b (f | rfl) n
      · exact e.newt b f n
      · exact mutSome n1.mut
theorem AdqO.e {te : TE} {t : DE} (h : AdqO K te t) : AdqE K te t := fun g0 H0 g s σ H P Q r p k =>
  h g0 H0 g s σ H P Q r p fun a H' g' s' d st n q => k _ H' (g'.frz a) s' d (st.frz n).1 (st.frz n).2 q
theorem VO.e {X : Cx} {e : Expr} {te : TE} {t : DE} (h : VO X e te t) : VE X e te t := ⟨h.pe, h.adq.e⟩
end

/-! ### names and constants -/
def dC (d : PyData) : DE := fun s P => P d s
theorem adq_c {K : PySem.W.Frag} {v : V} {d : PyData} (h : ∀ g H, Sees K g H v d) : AdqE K (tC v) (dC d) := fun g0 H0 g s σ H P Q r p k => k v H g s d (.refl r) (h g H) p
section
variable {X : Cx} {pos : Pos}
theorem v_int {i : Int} {j : Nat} : VE X (.Constant (.int i) j pos) (tC (.int i)) (dC (.int i)) := ⟨pe_int, adq_c fun _ _ => .int i⟩
theorem v_bl {b : Bool} {j : Nat} : VE X (.Constant (.bool b) j pos) (tC (.bl b)) (dC (.bool b)) := ⟨pe_bl, adq_c fun _ _ => .bl b⟩
theorem v_non {j : Nat} : VE X (.Constant .none j pos) (tC .non) (dC .none) := ⟨pe_non, adq_c fun _ _ => .non⟩
theorem v_str {x : Str} {j : Nat} : VE X (.Constant (.str x) j pos) (tC (.str x)) (dC (.str x)) := ⟨pe_str, adq_c fun _ _ => .str x⟩
end
/-- a slot given up: its list is frozen -/
def dem (ρ : List Slot) (i : Nat) (d : PyData) : List Slot := ρ.set i (.sh d)
def dVar (i : Nat) : DE := fun s P => match s.ρ[i]? with
  | some (.sh d) => P d s
  | some (.ow d) => P d ⟨dem s.ρ i d, s.β⟩
  | _ => False
/-- read, kept -/
def dBor (i : Nat) : DE := fun s P => match s.ρ[i]? with
  | some (.sh d) => P d s
  | some (.ow d) => P d s
  | _ => False
section
variable {K : PySem.W.Frag} {g0 g g1 g2 : Gh} {H0 H H1 H2 : Hp} {s s1 s2 : S} {σ : St}
theorem own_dem {ρ : List Slot} {i : Nat} {d : PyData} {a : Addr} (h : OwnC (dem ρ i d) σ a) : OwnC ρ σ a ∧ ∃ j e, j ≠ i ∧ ρ[j]? = some (.ow e) ∧ σ[j]? = some (some (.ref a)) := by
  obtain ⟨j, e, h1, h2⟩ := h
  unfold dem at h1
  by_cases q : j = i
  · subst q
    by_cases z : j < ρ.length
    · rw [List.getElem?_set_self z] at h1
      cases h1
    · rw [List.getElem?_eq_none (by simpa using z)] at h1
      cases h1
  · rw [List.getElem?_set_ne (Ne.symm q)] at h1
    exact ⟨⟨j, e, h1, h2⟩, j, e, q, h1, h2⟩
theorem Rel.dem (r : Rel K g0 H0 g s σ H) {i : Nat} {d : PyData} (h : s.ρ[i]? = some (.ow d)) : ∃ a, σ[i]? = some (some (.ref a)) ∧ OwnAt K g H a d ∧ Step K g0 H0 g s σ H (g.frz a) ⟨dem s.ρ i d, s.β⟩ H := by
  obtain ⟨a, e, q⟩ := r.slot i _ h
  have oc : OwnC s.ρ σ a := ⟨i, d, h, e⟩
  obtain ⟨n1, n2, n3⟩ := r.nf a oc
  refine ⟨a, e, q, ⟨⟨by simpa [VS.dem] using r.len, fun j sl q' => ?_, fun j k d' e' b h1 h2 h3 h4 => ?_, fun b hb => ?_, ⟨fun q => r.bag.1 q, fun b c z => ?_⟩, ?_, ?_⟩, ?_, fun b hb => (own_dem hb).1⟩⟩
  · have q' : (s.ρ.set i (.sh d))[j]? = some sl := q'
    by_cases z : j = i
    · subst z
      rw [List.getElem?_set_self (List.getElem?_eq_some_iff.mp h).1] at q'
      cases q'
      exact ⟨_, e, q.frz⟩
    · rw [List.getElem?_set_ne (Ne.symm z)] at q'
      exact (r.slot j sl q').stay .frz fun _ _ _ h => h
  · have h1 : (s.ρ.set i (.sh d))[j]? = some (.ow d') := h1
    have h2 : (s.ρ.set i (.sh d))[k]? = some (.ow e') := h2
    have hi := (List.getElem?_eq_some_iff.mp h).1
    by_cases z : j = i
    · subst z
      rw [List.getElem?_set_self hi] at h1
      cases h1
    · by_cases z' : k = i
      · subst z'
        rw [List.getElem?_set_self hi] at h2
        cases h2
      · rw [List.getElem?_set_ne (Ne.symm z)] at h1
        rw [List.getElem?_set_ne (Ne.symm z')] at h2
        exact r.apart j k d' e' b h1 h2 h3 h4
  · obtain ⟨ob, j, e', ne, h1, h2⟩ := own_dem hb
    obtain ⟨h3, h4, h5⟩ := r.nf b ob
    refine ⟨?_, h4, h5⟩
    rintro (f | rfl)
    · exact h3 f
    · exact ne (r.apart j i _ _ _ h1 h h2 e)
  · obtain ⟨h1, h2, h3, h4, h5⟩ := r.bag.2 b c z
    refine ⟨h1, h2, h3, ?_, ?_⟩
    · rintro (f | rfl)
      · exact h4 f
      · exact n2 ⟨_, _, z, .inl rfl⟩
    · rintro (f | rfl)
      · exact h5 f
      · exact n2 ⟨_, _, z, .inr rfl⟩
  · refine ⟨r.grow.keep, r.grow.there, fun b f => .inl (r.grow.mono b f), ?_, ?_, r.grow.bag, r.grow.bagn⟩
    · rintro b (f | rfl) n
      · exact r.grow.new b f n
      · exact .inl n3
    · rintro b (f | rfl) n
      · exact r.grow.newt b f n
      · exact mutSome q.mut
  · rintro b (f | rfl)
    · exact r.ft b f
    · exact mutSome q.mut
  · refine ⟨fun _ _ h _ => h, fun _ h => h, fun _ f => .inl f, ?_, ?_, fun _ h => h, fun _ _ h n => ?_⟩
    · rintro b (f | rfl) n
      · exact absurd f n
      · exact .inr (.inr oc)
    · rintro b (f | rfl) n
      · exact absurd f n
      · exact mutSome q.mut
    · have h : g.bag = some _ := h
      rw [n] at h
      cases h
theorem adq_var (i : Nat) : AdqE K (tVar i) (dVar i) := by
  intro g0 H0 g s σ H P Q r p k
  unfold dVar at p
  split at p
  · rename_i d h
    obtain ⟨v, e, q⟩ := r.slot i _ h
    exact ⟨v, e, k v H g s d (.refl r) q p⟩
  · rename_i d h
    obtain ⟨a, e, q, st⟩ := r.dem h
    exact ⟨_, e, k _ H _ _ d st q.frz p⟩
  · exact p.elim
theorem v_var {X : Cx} {x : Str} {pos : Pos} (i : Nat) (h : PE X (.Name x pos) (tVar i)) : VE X (.Name x pos) (tVar i) (dVar i) := ⟨h, adq_var i⟩
end

/-! ### argument lists, displays -/
def dNil : DA := fun s P => P [] s
def dCons (t : DE) (u : DA) : DA := fun s P => t s fun d s1 => u s1 fun ds s2 => P (d :: ds) s2
section
variable {X : Cx} {K : PySem.W.Frag} {e : Expr} {es : List Expr} {te : TE} {ta : TA} {t : DE} {u : DA}
theorem SeesAll.step {vs : List V} {ds : List PyData} {g0 g g1 : Gh} {H0 H H1 : Hp} {s s1 : S} {σ : St} (h : SeesAll K g H vs ds) (r : Rel K g0 H0 g s σ H) (a : Step K g0 H0 g s σ H g1 s1 H1) : SeesAll K g1 H1 vs ds := SeesAll.stay (a.stay r) h
theorem adq_nil : AdqA K tNil dNil := fun g0 H0 g s σ H P Q r p k => k [] H g s [] (.refl r) .nil p
theorem adq_cons (h : AdqE K te t) (hr : AdqA K ta u) : AdqA K (tCons te ta) (dCons t u) := fun g0 H0 g s σ H P Q r p k =>
  h g0 H0 g s σ H _ _ r p fun v H1 g1 s1 d st1 z1 p1 => hr g0 H0 g1 s1 σ H1 _ _ st1.rel p1 fun vs H2 g2 s2 ds st2 z2 p2 =>
    k _ H2 g2 s2 _ (st1.trans st2) (.cons (z1.step st1.rel st2) z2) p2
theorem va_nil : VA X [] tNil dNil := ⟨pa_nil, adq_nil⟩
theorem va_cons (h : VE X e te t) (hr : VA X es ta u) (hs : starEach (e :: es) X.env = (false, eval e X.env) :: starEach es X.env := by rfl) : VA X (e :: es) (tCons te ta) (dCons t u) := ⟨pa_cons h.pe hr.pa hs, adq_cons h.adq hr.adq⟩
def dTup (u : DA) : DE := fun s P => u s fun ds s1 => ds.length ≤ sizeLine ∧ P (.tuple ds) s1
def dLst (u : DA) : DE := fun s P => u s fun ds s1 => ds.length ≤ sizeLine ∧ P (.list ds) s1
theorem SeesAll.length {g : Gh} {H : Hp} : ∀ {vs : List V} {ds : List PyData}, SeesAll K g H vs ds → vs.length = ds.length
  | _, _, .nil => rfl
  | _, _, .cons _ r => by simp [SeesAll.length r]
/-- what a new object at p becomes -/
theorem Step.laid {g0 g g1 : Gh} {H0 H H1 : Hp} {s s1 : S} {σ : St} {p : Addr} {o : HO} (st : Step K g0 H0 g s σ H g1 s1 H1) (hp : H1 p = none) : Step K g0 H0 g s σ H g1 s1 (upd H1 p o) :=
  st.trans ((Fresh.laid hp).step st.rel)
theorem none_back {g0 g g1 : Gh} {H0 H H1 : Hp} {s s1 : S} {σ : St} {p : Addr} (st : Step K g0 H0 g s σ H g1 s1 H1) (hp : H1 p = none) : H p = none := Classical.byContradiction fun z => st.ext.there p z hp
theorem none_root {g0 g : Gh} {H0 H : Hp} {s : S} {σ : St} {p : Addr} (r : Rel K g0 H0 g s σ H) (hp : H p = none) : H0 p = none := Classical.byContradiction fun z => r.grow.there p z hp
/-- a frozen address is a tracked one -/
theorem Step.new {g0 g g1 : Gh} {H0 H H1 : Hp} {s s1 : S} {σ : St} {p : Addr} {o : HO} {d : PyData} (st : Step K g0 H0 g s σ H g1 s1 H1) (hp : H1 p = none) (own : OwnAt K g1 (upd H1 p o) p d) : NewAt K H0 g1 s1 σ H (upd H1 p o) p d := by
  refine ⟨own, fun f => st.rel.ft p f hp, fun z => mutSome (st.rel.bag.mut z) hp, none_back st hp, fun z => ?_, none_root st.rel hp⟩
  obtain ⟨e, q⟩ := st.rel.ownAt z
  exact mutSome q.mut hp
theorem adq_tup (h : AdqA K ta u) : AdqE K (tTup ta) (dTup u) := fun g0 H0 g s σ H P Q r p k =>
  h g0 H0 g s σ H _ _ r p fun vs H1 g1 s1 ds st z ⟨hl, p1⟩ => ⟨by rw [z.length]; exact hl, fun q hq =>
    k _ _ g1 s1 _ (st.laid hq) (.tup upd_same (SeesAll.stay (Fresh.laid hq).stay z)) p1⟩
theorem adq_lst (h : AdqA K ta u) : AdqO K (tLst ta) (dLst u) := fun g0 H0 g s σ H P Q r p k =>
  h g0 H0 g s σ H _ _ r p fun vs H1 g1 s1 ds st z ⟨hl, p1⟩ => ⟨by rw [z.length]; exact hl, fun q hq =>
    k q _ g1 s1 _ (st.laid hq) (st.new hq (.inl ⟨_, _, rfl, upd_same, SeesAll.stay (Fresh.laid hq).stay z⟩)) p1⟩
theorem v_tup {x1 : Nat} {pos : Pos} (h : VA X es ta u) : VE X (.Tuple es x1 pos) (tTup ta) (dTup u) := ⟨pe_tup h.pa, adq_tup h.adq⟩
theorem v_lst {pos : Pos} (h : VA X es ta u) : VO X (.List es pos) (tLst ta) (dLst u) := ⟨pe_lst h.pa, adq_lst h.adq⟩
end
end VS
namespace VS
open PySem PySem.Spec L2
open PyProof.Rows hiding St

/-! ### operations by values -/
abbrev D2 := PyData → PyData → (PyData → Prop) → Prop
abbrev D1 := List PyData → (PyData → Prop) → Prop
def Ft (g : Gh) (H : Hp) : Prop := ∀ a, g.F a → H a ≠ none
def OpV (K : PySem.W.Frag) (r : R2) (rd : D2) : Prop := ∀ (g : Gh) (H : Hp) (x y : V) (d e : PyData) (P : PyData → Prop) (Q : VK), Ft g H → Sees K g H x d → Sees K g H y e → rd d e P →
  (∀ v H' g' c, Fresh g H g' H' → Sees K g' H' v c → P c → Q v H') → r x y H Q
def OpVO (K : PySem.W.Frag) (r : R2) (rd : D2) : Prop := ∀ (g : Gh) (H : Hp) (x y : V) (d e : PyData) (P : PyData → Prop) (Q : VK), Ft g H → Sees K g H x d → Sees K g H y e → rd d e P →
  (∀ a H' g' c, Fresh g H g' H' → H a = none → ¬ g'.F a → OwnAt K g' H' a c → P c → Q (.ref a) H') → r x y H Q
def CallV (K : PySem.W.Frag) (r : List V → Hp → VK → Prop) (rd : D1) : Prop := ∀ (g : Gh) (H : Hp) (xs : List V) (ds : List PyData) (P : PyData → Prop) (Q : VK), Ft g H → SeesAll K g H xs ds → rd ds P →
  (∀ v H' g' c, Fresh g H g' H' → Sees K g' H' v c → P c → Q v H') → r xs H Q
def CallVO (K : PySem.W.Frag) (r : List V → Hp → VK → Prop) (rd : D1) : Prop := ∀ (g : Gh) (H : Hp) (xs : List V) (ds : List PyData) (P : PyData → Prop) (Q : VK), Ft g H → SeesAll K g H xs ds → rd ds P →
  (∀ a H' g' c, Fresh g H g' H' → H a = none → ¬ g'.F a → OwnAt K g' H' a c → P c → Q (.ref a) H') → r xs H Q
def dOp (rd : D2) (t u : DE) : DE := fun s P => t s fun d s1 => u s1 fun e s2 => rd d e fun c => P c s2
def dCall (rd : D1) (t : DA) : DE := fun s P => t s fun ds s1 => rd ds fun c => P c s1
section
variable {K : PySem.W.Frag} {r : R2} {rd : D2} {rl : List V → Hp → VK → Prop} {rdl : D1} {ta tb : TE} {da db : DE} {tl : TA} {dl : DA}
theorem Fresh.new {g0 g g1 g2 : Gh} {H0 H H1 H2 : Hp} {s s1 : S} {σ : St} {a : Addr} {d : PyData} (f : Fresh g1 H1 g2 H2) (st : Step K g0 H0 g s σ H g1 s1 H1) (hn : H1 a = none) (nf : ¬ g2.F a) (o : OwnAt K g2 H2 a d) : NewAt K H0 g2 s1 σ H H2 a d := by
  refine ⟨o, nf, fun z => mutSome (st.rel.bag.mut (f.bagc.mp z)) hn, none_back st hn, fun z => ?_, none_root st.rel hn⟩
  obtain ⟨e, q⟩ := st.rel.ownAt z
  exact mutSome q.mut hn
theorem OpVO.e (h : OpVO K r rd) : OpV K r rd := fun g H x y d e P Q ft hx hy hr k => h g H x y d e P Q ft hx hy hr fun a H' g' c f hn nf o p =>
  k _ H' (g'.frz a) c (f.frz hn (mutSome o.mut)) o.frz p
theorem CallVO.e (h : CallVO K rl rdl) : CallV K rl rdl := fun g H xs ds P Q ft hx hr k => h g H xs ds P Q ft hx hr fun a H' g' c f hn nf o p =>
  k _ H' (g'.frz a) c (f.frz hn (mutSome o.mut)) o.frz p
theorem adq_op (h : OpV K r rd) (ha : AdqE K ta da) (hb : AdqE K tb db) : AdqE K (tOp r ta tb) (dOp rd da db) := fun g0 H0 g s σ H P Q q p k =>
  ha g0 H0 g s σ H _ _ q p fun x H1 g1 s1 d st1 z1 p1 => hb g0 H0 g1 s1 σ H1 _ _ st1.rel p1 fun y H2 g2 s2 e st2 z2 p2 =>
    h g2 H2 x y d e _ _ st2.rel.ft (z1.step st1.rel st2) z2 p2 fun v H3 g3 c f z3 p3 => k v H3 g3 s2 c ((st1.trans st2).trans (f.step st2.rel)) z3 p3
theorem adq_opO (h : OpVO K r rd) (ha : AdqE K ta da) (hb : AdqE K tb db) : AdqO K (tOp r ta tb) (dOp rd da db) := fun g0 H0 g s σ H P Q q p k =>
  ha g0 H0 g s σ H _ _ q p fun x H1 g1 s1 d st1 z1 p1 => hb g0 H0 g1 s1 σ H1 _ _ st1.rel p1 fun y H2 g2 s2 e st2 z2 p2 =>
    h g2 H2 x y d e _ _ st2.rel.ft (z1.step st1.rel st2) z2 p2 fun a H3 g3 c f hn nf o p3 => k a H3 g3 s2 c ((st1.trans st2).trans (f.step st2.rel)) (f.new (st1.trans st2) hn nf o) p3
theorem adq_call (h : CallV K rl rdl) (ha : AdqA K tl dl) : AdqE K (tCB rl tl) (dCall rdl dl) := fun g0 H0 g s σ H P Q q p k =>
  ha g0 H0 g s σ H _ _ q p fun xs H1 g1 s1 ds st1 z1 p1 => h g1 H1 xs ds _ _ st1.rel.ft z1 p1 fun v H3 g3 c f z3 p3 => k v H3 g3 s1 c (st1.trans (f.step st1.rel)) z3 p3
theorem adq_callO (h : CallVO K rl rdl) (ha : AdqA K tl dl) : AdqO K (tCB rl tl) (dCall rdl dl) := fun g0 H0 g s σ H P Q q p k =>
  ha g0 H0 g s σ H _ _ q p fun xs H1 g1 s1 ds st1 z1 p1 => h g1 H1 xs ds _ _ st1.rel.ft z1 p1 fun a H3 g3 c f hn nf o p3 => k a H3 g3 s1 c (st1.trans (f.step st1.rel)) (f.new st1 hn nf o) p3
/-- a new list laid at once -/
theorem OpVO.lay {g : Gh} {H : Hp} {Q : VK} {P : PyData → Prop} {xs : List V} {ds : List PyData} (ft : Ft g H) (z : SeesAll K g H xs ds) (p : P (.list ds)) (k : ∀ a H' g' c, Fresh g H g' H' → H a = none → ¬ g'.F a → OwnAt K g' H' a c → P c → Q (.ref a) H')
    (q : Addr) (hq : H q = none) : Q (.ref q) (upd H q (.lst xs)) :=
  k q _ g _ (Fresh.laid hq) hq (fun f => ft q f hq) (.inl ⟨_, _, rfl, upd_same, SeesAll.stay (Fresh.laid hq).stay z⟩) p
theorem OpV.layT {g : Gh} {H : Hp} {Q : VK} {P : PyData → Prop} {xs : List V} {ds : List PyData} (z : SeesAll K g H xs ds) (p : P (.tuple ds)) (k : ∀ v H' g' c, Fresh g H g' H' → Sees K g' H' v c → P c → Q v H')
    (q : Addr) (hq : H q = none) : Q (.ref q) (upd H q (.tup xs)) :=
  k _ _ g _ (Fresh.laid hq) (.tup upd_same (SeesAll.stay (Fresh.laid hq).stay z)) p
theorem SeesAll.app {g : Gh} {H : Hp} : ∀ {xs ys : List V} {ds es : List PyData}, SeesAll K g H xs ds → SeesAll K g H ys es → SeesAll K g H (xs ++ ys) (ds ++ es)
  | _, _, _, _, .nil, h => h
  | _, _, _, _, .cons a r, h => .cons a (SeesAll.app r h)
theorem SeesAll.tk {g : Gh} {H : Hp} : ∀ {xs : List V} {ds : List PyData} (n : Nat), SeesAll K g H xs ds → SeesAll K g H (xs.take n) (ds.take n)
  | _, _, 0, _ => .nil
  | _, _, _ + 1, .nil => .nil
  | _, _, n + 1, .cons a r => .cons a (SeesAll.tk n r)
theorem SeesAll.dr {g : Gh} {H : Hp} : ∀ {xs : List V} {ds : List PyData} (n : Nat), SeesAll K g H xs ds → SeesAll K g H (xs.drop n) (ds.drop n)
  | _, _, 0, h => h
  | _, _, _ + 1, .nil => .nil
  | _, _, n + 1, .cons _ r => SeesAll.dr n r
theorem SeesAll.at {g : Gh} {H : Hp} : ∀ {xs : List V} {ds : List PyData} {j : Nat} {d : PyData}, SeesAll K g H xs ds → ds[j]? = some d → ∃ v, xs[j]? = some v ∧ Sees K g H v d
  | _, _, _, _, .nil, h => by simp at h
  | _, _, 0, _, .cons a r, h => by
    simp only [List.getElem?_cons_zero, Option.some.injEq] at h
    subst h
    exact ⟨_, rfl, a⟩
  | _, _, j + 1, _, .cons a r, h => by
    obtain ⟨v, e, q⟩ := SeesAll.at (j := j) r (by simpa using h)
    exact ⟨v, by simpa using e, q⟩
theorem SeesAll.ints {g : Gh} {H : Hp} : ∀ {xs : List V} {ns : List Int}, SeesAll K g H xs (ns.map .int) → xs = ns.map V.int
  | _, [], h => by cases h; rfl
  | _, n :: ns, h => by
    cases h with
    | cons a r =>
      cases a
      rw [SeesAll.ints r]
      rfl
theorem SeesAll.bls {g : Gh} {H : Hp} : ∀ {xs : List V} {ns : List Bool}, SeesAll K g H xs (ns.map .bool) → xs = ns.map V.bl
  | _, [], h => by cases h; rfl
  | _, n :: ns, h => by
    cases h with
    | cons a r =>
      cases a
      rw [SeesAll.bls r]
      rfl
theorem seesAll_ints {g : Gh} {H : Hp} : ∀ (ns : List Int), SeesAll K g H (ns.map V.int) (ns.map .int)
  | [] => .nil
  | n :: ns => .cons (.int n) (seesAll_ints ns)
theorem SeesAll.set {g : Gh} {H : Hp} {v : V} {d : PyData} (h : Sees K g H v d) : ∀ {xs : List V} {ds : List PyData} (j : Nat), SeesAll K g H xs ds → SeesAll K g H (xs.set j v) (ds.set j d)
  | _, _, _, .nil => .nil
  | _, _, 0, .cons _ r => .cons h r
  | _, _, j + 1, .cons a r => .cons a (SeesAll.set h j r)
theorem SeesAll.erase {g : Gh} {H : Hp} : ∀ {xs : List V} {ds : List PyData} (j : Nat), SeesAll K g H xs ds → SeesAll K g H (xs.eraseIdx j) (ds.eraseIdx j)
  | _, _, _, .nil => .nil
  | _, _, 0, .cons _ r => r
  | _, _, j + 1, .cons a r => .cons a (SeesAll.erase j r)
theorem SeesAll.back {g : Gh} {H : Hp} : ∀ {xs : List V} {ds : List PyData}, SeesAll K g H xs ds → SeesAll K g H xs.dropLast ds.dropLast
  | _, _, .nil => .nil
  | _, _, .cons _ .nil => .nil
  | _, _, .cons a (.cons b r) => .cons a (SeesAll.back (.cons b r))
theorem SeesAll.rep {g : Gh} {H : Hp} {xs : List V} {ds : List PyData} (h : SeesAll K g H xs ds) : ∀ n : Nat, SeesAll K g H (List.replicate n xs).flatten (List.replicate n ds).flatten
  | 0 => .nil
  | n + 1 => by
    rw [List.replicate_succ, List.replicate_succ, List.flatten_cons, List.flatten_cons]
    exact h.app (SeesAll.rep h n)
theorem SeesAll.rev {g : Gh} {H : Hp} : ∀ {xs : List V} {ds : List PyData}, SeesAll K g H xs ds → SeesAll K g H xs.reverse ds.reverse
  | _, _, .nil => .nil
  | _, _, .cons a r => by
    rw [List.reverse_cons, List.reverse_cons]
    exact (SeesAll.rev r).app (.cons a .nil)
end

/-! ### ints -/
def dI (C : Int → Int → Prop) (f : Int → Int → PyData) : D2 := fun d e P => match d, e with
  | .int i, .int j => C i j ∧ P (f i j)
  | _, _ => False
def dI0 (f : Int → Int → PyData) : D2 := fun d e P => match d, e with
  | .int i, .int j => P (f i j)
  | _, _ => False
section
variable {K : PySem.W.Frag}
theorem opv_I {C : Int → Int → Prop} {f : Int → Int → V} {f' : Int → Int → PyData} (h : ∀ g H i j, Sees K g H (f i j) (f' i j)) : OpV K (rI C f) (dI C f') := by
  intro g H x y d e P Q ft hx hy hr k
  cases d <;> cases e <;> first | exact hr.elim | skip
  cases hx
  cases hy
  exact ⟨_, _, rfl, rfl, hr.1, k _ _ g _ .refl (h _ _ _ _) hr.2⟩
theorem opv_I0 {f : Int → Int → V} {f' : Int → Int → PyData} (h : ∀ g H i j, Sees K g H (f i j) (f' i j)) : OpV K (rI0 f) (dI0 f') := by
  intro g H x y d e P Q ft hx hy hr k
  cases d <;> cases e <;> first | exact hr.elim | skip
  cases hx
  cases hy
  exact ⟨_, _, rfl, rfl, k _ _ g _ .refl (h _ _ _ _) hr⟩
abbrev dSub : D2 := dI0 fun i j => .int (i - j)
abbrev dMul : D2 := dI CMul fun i j => .int (i * j)
abbrev dFdiv : D2 := dI CDiv fun i j => .int (i / j)
abbrev dMod : D2 := dI (fun _ j => 0 < j) fun i j => .int (i % j)
abbrev dPow : D2 := dI CPow fun i j => .int (i ^ j.toNat)
abbrev dShl : D2 := dI CPow fun i j => .int (i * 2 ^ j.toNat)
abbrev dShr : D2 := dI (fun _ j => 0 ≤ j) fun i j => .int (i / 2 ^ j.toNat)
abbrev dAnd : D2 := dI0 fun i j => .int (Builtin.bitAnd i j)
abbrev dOr : D2 := dI0 fun i j => .int (Builtin.bitOr i j)
abbrev dXor : D2 := dI0 fun i j => .int (Builtin.bitXor i j)
abbrev dLt : D2 := dI0 fun i j => .bool (decide (i < j))
abbrev dLe : D2 := dI0 fun i j => .bool (decide (i ≤ j))
abbrev dGt : D2 := dI0 fun i j => .bool (decide (j < i))
abbrev dGe : D2 := dI0 fun i j => .bool (decide (j ≤ i))
/-- + of ints, lists, tuples, texts -/
def dAdd : D2 := fun d e P => match d, e with
  | .int i, .int j => P (.int (i + j))
  | .list xs, .list ys => xs.length + ys.length ≤ sizeLine ∧ P (.list (xs ++ ys))
  | .tuple xs, .tuple ys => xs.length + ys.length ≤ sizeLine ∧ P (.tuple (xs ++ ys))
  | .str x, .str y => x.length + y.length ≤ sizeLine ∧ P (.str (x ++ y))
  | _, _ => False
def rAddA (K : PySem.W.Frag) : R2 := fun x y H Q => rI0 (fun i j => .int (i + j)) x y H Q ∨ (rCat x y H Q ∨ (rCatA K x y H Q ∨ ∃ i j, x = .str i ∧ y = .str j ∧ i.length + j.length ≤ sizeLine ∧ Q (.str (i ++ j)) H))
theorem op_addA {X : Cx} : OpR X (binaryOp .Add) (rAddA X.K) := op_add.or (op_cat.or (op_catA.or op_add_str))
theorem opv_add : OpV K (rAddA K) dAdd := by
  intro g H x y d e P Q ft hx hy hr k
  cases d <;> cases e <;> first | exact hr.elim | skip
  · cases hx
    cases hy
    exact .inl ⟨_, _, rfl, rfl, k _ _ g _ .refl (.int _) hr⟩
  · cases hx
    cases hy
    exact .inr (.inr (.inr ⟨_, _, rfl, rfl, hr.1, k _ _ g _ .refl (.str _) hr.2⟩))
  · cases hx with
    | lst f1 e1 a1 =>
      cases hy with
      | lst f2 e2 a2 =>
        refine .inr (.inl ⟨_, _, _, _, rfl, rfl, e1, e2, by rw [a1.length, a2.length]; exact hr.1, ?_⟩)
        exact OpVO.lay (P := P) ft (a1.app a2) hr.2 fun a H' g' c f hn nf o p => k _ H' (g'.frz a) c (f.frz hn (mutSome o.mut)) o.frz p
  · cases hx with
    | tup e1 a1 =>
      cases hy with
      | tup e2 a2 =>
        refine .inr (.inr (.inl ⟨_, _, _, _, rfl, rfl, .of e1, .of e2, by rw [a1.length, a2.length]; exact hr.1, fun z => ?_, fun _ z => ?_, fun _ _ => ?_⟩))
        · subst z
          cases a1
          exact k _ _ g _ .refl (.tup e2 a2) hr.2
        · subst z
          cases a2
          have q := hr.2
          rw [List.append_nil] at q
          exact k _ _ g _ .refl (.tup e1 a1) q
        · exact OpV.layT (P := P) (a1.app a2) hr.2 k
/-- list + list, owned -/
def dCat : D2 := fun d e P => match d, e with
  | .list xs, .list ys => xs.length + ys.length ≤ sizeLine ∧ P (.list (xs ++ ys))
  | _, _ => False
theorem opv_cat : OpVO K rCat dCat := by
  intro g H x y d e P Q ft hx hy hr k
  cases d <;> cases e <;> first | exact hr.elim | skip
  cases hx with
  | lst f1 e1 a1 =>
    cases hy with
    | lst f2 e2 a2 => exact ⟨_, _, _, _, rfl, rfl, e1, e2, by rw [a1.length, a2.length]; exact hr.1, OpVO.lay (P := P) ft (a1.app a2) hr.2 k⟩
/-- list * int -/
def dRep : D2 := fun d e P => match d, e with
  | .list xs, .int n => -(2 ^ 63) ≤ n ∧ n < 2 ^ 63 ∧ xs.length * n.toNat ≤ sizeLine ∧ P (.list (List.replicate n.toNat xs).flatten)
  | _, _ => False
theorem opv_rep : OpVO K rRep dRep := by
  intro g H x y d e P Q ft hx hy hr k
  cases d <;> cases e <;> first | exact hr.elim | skip
  cases hx with
  | lst f1 e1 a1 =>
    cases hy
    exact ⟨_, _, _, rfl, rfl, e1, hr.1, hr.2.1, by rw [a1.length]; exact hr.2.2.1, OpVO.lay (P := P) ft (a1.rep _) hr.2.2.2 k⟩
/-! ### == and != -/
mutual
theorem Sees.dp {g : Gh} {H : Hp} : ∀ {v : V} {d : PyData}, Sees K g H v d → d.canLay0 = true → Dp K H v d
  | _, _, .non, _ => .non
  | _, _, .bl b, _ => .bl b
  | _, _, .int i, _ => .int i
  | _, _, .str x, _ => .str x
  | _, _, .lst _ e a, h => .lst (.of e) (SeesAll.dp a h)
  | _, _, .tup e a, h => .tup (.of e) (SeesAll.dp a h)
  | _, _, .dicT _ _ _, h => nomatch h
  | _, _, .dicK _ _ _, h => nomatch h
  | _, _, .bag _, h => nomatch h
  | _, _, .scr _, h => nomatch h
theorem SeesAll.dp {g : Gh} {H : Hp} : ∀ {vs : List V} {ds : List PyData}, SeesAll K g H vs ds → PyData.canLayAll0 ds = true → DpAll K H vs ds
  | _, _, .nil, _ => .nil
  | v :: vs, d :: ds, .cons a r, h => by
    have h' : d.canLay0 = true ∧ PyData.canLayAll0 ds = true := by simpa [PyData.canLayAll0] using h
    exact .cons (Sees.dp a h'.1) (SeesAll.dp r h'.2)
end
theorem lay_of_shaped {d : PyData} (h : SeqAt.shaped d = true) : d.canLay0 = true := by
  unfold SeqAt.shaped at h
  exact (Bool.and_eq_true_iff.mp h).1
def dEq : D2 := fun d e P => SeqAt.shaped d = true ∧ SeqAt.shaped e = true ∧ P (.bool (PyData.eqv d e))
def dNe : D2 := fun d e P => SeqAt.shaped d = true ∧ SeqAt.shaped e = true ∧ P (.bool (!PyData.eqv d e))
theorem opv_eq : OpV K (rEqD K) dEq := fun g H x y d e P Q ft hx hy hr k => ⟨d, e, hx.dp (lay_of_shaped hr.1), hy.dp (lay_of_shaped hr.2.1), hr.1, hr.2.1, k _ _ g _ .refl (.bl _) hr.2.2⟩
theorem opv_ne : OpV K (rNeD K) dNe := fun g H x y d e P Q ft hx hy hr k => ⟨d, e, hx.dp (lay_of_shaped hr.1), hy.dp (lay_of_shaped hr.2.1), hr.1, hr.2.1, k _ _ g _ .refl (.bl _) hr.2.2⟩
/-- is None, is not None -/
def isNo : PyData → Bool
  | .none => true
  | _ => false
def dIsN : D2 := fun d e P => match e with
  | .none => P (.bool (isNo d))
  | _ => False
def dNotN : D2 := fun d e P => match e with
  | .none => P (.bool (!isNo d))
  | _ => False
theorem Sees.non_iff {g : Gh} {H : Hp} {v : V} {d : PyData} (h : Sees K g H v d) : decide (v = .non) = isNo d := by
  cases h <;> first | rfl | (exact decide_eq_false (by intro z; cases z))
theorem opv_isN : OpV K (fun x y H Q => y = .non ∧ Q (.bl (decide (x = .non))) H) dIsN := by
  intro g H x y d e P Q ft hx hy hr k
  cases e <;> first | exact hr.elim | skip
  cases hy
  refine ⟨rfl, ?_⟩
  rw [hx.non_iff]
  exact k _ _ g _ .refl (.bl _) hr
theorem opv_notN : OpV K (fun x y H Q => y = .non ∧ Q (.bl (!decide (x = .non))) H) dNotN := by
  intro g H x y d e P Q ft hx hy hr k
  cases e <;> first | exact hr.elim | skip
  cases hy
  refine ⟨rfl, ?_⟩
  rw [hx.non_iff]
  exact k _ _ g _ .refl (.bl _) hr
end

/-! ### expressions by operations -/
section
variable {X : Cx} {a b c : Expr} {ta tb tc : TE} {da db dc : DE} {pos : Pos} {r r' : R2} {rd rd' : D2}
theorem v_op {op : Operator} (ho : OpR X (binaryOp op) r) (hv : OpV X.K r rd) (ha : VE X a ta da) (hb : VE X b tb db) : VE X (.BinOp a op b pos) (tOp r ta tb) (dOp rd da db) := ⟨pe_op ho ha.pe hb.pe, adq_op hv ha.adq hb.adq⟩
theorem v_opO {op : Operator} (ho : OpR X (binaryOp op) r) (hv : OpVO X.K r rd) (ha : VE X a ta da) (hb : VE X b tb db) : VO X (.BinOp a op b pos) (tOp r ta tb) (dOp rd da db) := ⟨pe_op ho ha.pe hb.pe, adq_opO hv ha.adq hb.adq⟩
theorem v_cmp {op : CmpOp} (ho : OpR X (compareOp op) r) (hv : OpV X.K r rd) (ha : VE X a ta da) (hb : VE X b tb db) (hm : behindInMarks op b = false) : VE X (.Compare a [op] [b] pos) (tOp r ta tb) (dOp rd da db) := ⟨pe_cmpR ho ha.pe hb.pe hm, adq_op hv ha.adq hb.adq⟩
def dTest (t : DE) : DT := fun s P => t s fun d s1 => match d with
  | .bool k => P k s1
  | _ => False
theorem adq_test (h : AdqE X.K ta da) : AdqT X.K (tTest ta) (dTest da) := fun g0 H0 g s σ H P Q q p k =>
  h g0 H0 g s σ H _ _ q p fun x H1 g1 s1 d st z p1 => by
    cases d <;> first | exact p1.elim | skip
    cases z
    exact ⟨_, rfl, k _ H1 g1 s1 st p1⟩
theorem vt_cmp {op : CmpOp} (ho : OpR X (compareOp op) r) (hv : OpV X.K r rd) (ha : VE X a ta da) (hb : VE X b tb db) (hm : behindInMarks op b = false) : VT X (.Compare a [op] [b] pos) (tTest (tOp r ta tb)) (dTest (dOp rd da db)) := ⟨pt_cmpR ho ha.pe hb.pe hm, adq_test (adq_op hv ha.adq hb.adq)⟩
/-- a op b op' c -/
def dChain (rd rd' : D2) (t u w : DE) : DE := fun s P => t s fun d s1 => u s1 fun e s2 => rd d e fun k => match k with
  | .bool b => if b = true then w s2 fun f s3 => rd' e f fun c => P c s3 else P (.bool false) s2
  | _ => False
theorem adq_chain {K : PySem.W.Frag} (h : OpV K r rd) (h' : OpV K r' rd') (ha : AdqE K ta da) (hb : AdqE K tb db) (hc : AdqE K tc dc) : AdqE K (tChain r r' ta tb tc) (dChain rd rd' da db dc) := fun g0 H0 g s σ H P Q q p k =>
  ha g0 H0 g s σ H _ _ q p fun x H1 g1 s1 d st1 z1 p1 => hb g0 H0 g1 s1 σ H1 _ _ st1.rel p1 fun y H2 g2 s2 e st2 z2 p2 =>
    h g2 H2 x y d e _ _ st2.rel.ft (z1.step st1.rel st2) z2 p2 fun v H3 g3 c f z3 p3 => by
      have st3 := f.step st2.rel
      cases c <;> first | exact p3.elim | skip
      rename_i b
      cases z3
      refine ⟨b, rfl, ?_⟩
      cases b with
      | false => exact k _ H3 g3 s2 _ ((st1.trans st2).trans st3) (.bl _) p3
      | true =>
        refine hc g0 H0 g3 s2 σ H3 _ _ st3.rel p3 fun w' H4 g4 s4 f' st4 z4 p4 => ?_
        exact h' g4 H4 y w' e f' _ _ st4.rel.ft ((z2.step st2.rel st3).step st3.rel st4) z4 p4 fun v5 H5 g5 c5 f5 z5 p5 =>
          k v5 H5 g5 s4 c5 ((((st1.trans st2).trans st3).trans st4).trans (f5.step st4.rel)) z5 p5
theorem v_chain {op op' : CmpOp} (ho : OpR X (compareOp op) r) (hv : OpV X.K r rd) (ho' : OpR X (compareOp op') r') (hv' : OpV X.K r' rd') (ha : VE X a ta da) (hb : VE X b tb db) (hc : VE X c tc dc)
    (hm : lastMarks [op, op'] [b, c] = false := by with_unfolding_all rfl) : VE X (.Compare a [op, op'] [b, c] pos) (tChain r r' ta tb tc) (dChain rd rd' da db dc) := ⟨pe_chain ho ho' ha.pe hb.pe hc.pe hm, adq_chain hv hv' ha.adq hb.adq hc.adq⟩
theorem vt_chain {op op' : CmpOp} (ho : OpR X (compareOp op) r) (hv : OpV X.K r rd) (ho' : OpR X (compareOp op') r') (hv' : OpV X.K r' rd') (ha : VE X a ta da) (hb : VE X b tb db) (hc : VE X c tc dc)
    (hm : lastMarks [op, op'] [b, c] = false := by with_unfolding_all rfl) : VT X (.Compare a [op, op'] [b, c] pos) (tTest (tChain r r' ta tb tc)) (dTest (dChain rd rd' da db dc)) := ⟨pt_chain ho ho' ha.pe hb.pe hc.pe hm, adq_test (adq_chain hv hv' ha.adq hb.adq hc.adq)⟩
/-! ### truth -/
def truD (d : PyData) (P : Bool → Prop) : Prop := match d with
  | .none => P false
  | .bool b => P b
  | .int i => P (i != 0)
  | .list xs => P (!xs.isEmpty)
  | .tuple xs => P (!xs.isEmpty)
  | _ => False
def dTru (t : DE) : DT := fun s P => t s fun d s1 => truD d fun k => P k s1
theorem empty_all {K : PySem.W.Frag} {g : Gh} {H : Hp} {xs : List V} {ds : List PyData} (h : SeesAll K g H xs ds) : (!xs.isEmpty) = !ds.isEmpty := by
  cases h <;> rfl
theorem adq_tru {K : PySem.W.Frag} (h : AdqE K ta da) : AdqT K (fun σ H Q => ta σ H fun x H' => ∃ k, TruV K x H' k ∧ Q k H') (dTru da) := fun g0 H0 g s σ H P Q q p k =>
  h g0 H0 g s σ H _ _ q p fun x H1 g1 s1 d st z p1 => by
    cases z with
    | non => exact ⟨_, rfl, k _ H1 g1 s1 st p1⟩
    | bl b => exact ⟨_, rfl, k _ H1 g1 s1 st p1⟩
    | int i => exact ⟨_, rfl, k _ H1 g1 s1 st p1⟩
    | str x => exact p1.elim
    | lst f e a => exact ⟨_, .inl ⟨_, .of e, (empty_all a).symm⟩, k _ H1 g1 s1 st p1⟩
    | tup e a => exact ⟨_, .inr (.inl ⟨_, .of e, (empty_all a).symm⟩), k _ H1 g1 s1 st p1⟩
    | dicT _ _ _ => exact p1.elim
    | dicK _ _ _ => exact p1.elim
    | bag _ => exact p1.elim
    | scr _ => exact p1.elim
theorem vt_tru (ha : VE X a ta da) (he : ∀ whole, isTrue a X.env whole = (do let v ← whole; standAt a.pos; holding [v] (truthy v)) := by intro _; rfl) : VT X a (fun σ H Q => ta σ H fun x H' => ∃ k, TruV X.K x H' k ∧ Q k H') (dTru da) := ⟨pt_truth ha.pe he, adq_tru ha.adq⟩
/-! ### and, or, not, a if c else b -/
variable {tA tB : TT} {dA dB : DT} {rest : List Expr}
def dAndT (t u : DT) : DT := fun s P => t s fun b s1 => if b = true then u s1 P else P false s1
def dOrT (t u : DT) : DT := fun s P => t s fun b s1 => if b = true then P true s1 else u s1 P
def dNotT (t : DT) : DT := fun s P => t s fun b s1 => P (!b) s1
theorem vw_and1 (h : VT X a tA dA) : VW X (.BoolOp .And [a] pos) tA dA := ⟨pw_and1 h.pt, h.adq⟩
theorem vw_or1 (h : VT X a tA dA) : VW X (.BoolOp .Or [a] pos) tA dA := ⟨pw_or1 h.pt, h.adq⟩
theorem vw_and (h : VT X a tA dA) (h2 : VW X (.BoolOp .And (b :: rest) pos) tB dB) : VW X (.BoolOp .And (a :: b :: rest) pos) (tAnd tA tB) (dAndT dA dB) := ⟨pw_and h.pt h2.pw, fun g0 H0 g s σ H P Q q p k =>
  h.adq g0 H0 g s σ H _ _ q p fun c H1 g1 s1 st1 p1 => by
    cases c with
    | true => exact h2.adq g0 H0 g1 s1 σ H1 _ _ st1.rel p1 fun c2 H2 g2 s2 st2 p2 => k c2 H2 g2 s2 (st1.trans st2) p2
    | false => exact k _ H1 g1 s1 st1 p1⟩
theorem vw_or (h : VT X a tA dA) (h2 : VW X (.BoolOp .Or (b :: rest) pos) tB dB) : VW X (.BoolOp .Or (a :: b :: rest) pos) (tOr tA tB) (dOrT dA dB) := ⟨pw_or h.pt h2.pw, fun g0 H0 g s σ H P Q q p k =>
  h.adq g0 H0 g s σ H _ _ q p fun c H1 g1 s1 st1 p1 => by
    cases c with
    | false => exact h2.adq g0 H0 g1 s1 σ H1 _ _ st1.rel p1 fun c2 H2 g2 s2 st2 p2 => k c2 H2 g2 s2 (st1.trans st2) p2
    | true => exact k _ H1 g1 s1 st1 p1⟩
theorem VW.t (h : VW X a tA dA) : VT X a tA dA := ⟨h.pw.pt, h.adq⟩
theorem vt_not (h : VT X a tA dA) : VT X (.UnaryOp .Not a pos) (tNot tA) (dNotT dA) := ⟨pt_not h.pt, fun g0 H0 g s σ H P Q q p k => h.adq g0 H0 g s σ H _ _ q p fun c H1 g1 s1 st1 p1 => k _ H1 g1 s1 st1 p1⟩
/-- .. as values of bools -/
def dAndV (t u : DE) : DE := fun s P => t s fun d s1 => match d with
  | .bool b => if b = true then u s1 P else P (.bool false) s1
  | _ => False
def dOrV (t u : DE) : DE := fun s P => t s fun d s1 => match d with
  | .bool b => if b = true then P (.bool true) s1 else u s1 P
  | _ => False
def dNotV (t : DE) : DE := fun s P => t s fun d s1 => match d with
  | .bool b => P (.bool (!b)) s1
  | _ => False
theorem v_one {op : BoolOp} (h : VE X a ta da) : VE X (.BoolOp op [a] pos) ta da := ⟨pe_one h.pe, h.adq⟩
theorem v_and (h : VE X a ta da) (h2 : VE X (.BoolOp .And (b :: rest) pos) tb db) : VE X (.BoolOp .And (a :: b :: rest) pos) (tAndV ta tb) (dAndV da db) := ⟨pe_and h.pe h2.pe, fun g0 H0 g s σ H P Q q p k =>
  h.adq g0 H0 g s σ H _ _ q p fun x H1 g1 s1 d st1 z p1 => by
    cases d <;> first | exact p1.elim | skip
    rename_i c
    cases z
    refine ⟨_, rfl, ?_⟩
    cases c with
    | true => exact h2.adq g0 H0 g1 s1 σ H1 _ _ st1.rel p1 fun v H2 g2 s2 d2 st2 z2 p2 => k v H2 g2 s2 d2 (st1.trans st2) z2 p2
    | false => exact k _ H1 g1 s1 _ st1 (.bl _) p1⟩
theorem v_or (h : VE X a ta da) (h2 : VE X (.BoolOp .Or (b :: rest) pos) tb db) : VE X (.BoolOp .Or (a :: b :: rest) pos) (tOrV ta tb) (dOrV da db) := ⟨pe_or h.pe h2.pe, fun g0 H0 g s σ H P Q q p k =>
  h.adq g0 H0 g s σ H _ _ q p fun x H1 g1 s1 d st1 z p1 => by
    cases d <;> first | exact p1.elim | skip
    rename_i c
    cases z
    refine ⟨_, rfl, ?_⟩
    cases c with
    | false => exact h2.adq g0 H0 g1 s1 σ H1 _ _ st1.rel p1 fun v H2 g2 s2 d2 st2 z2 p2 => k v H2 g2 s2 d2 (st1.trans st2) z2 p2
    | true => exact k _ H1 g1 s1 _ st1 (.bl _) p1⟩
theorem v_not (h : VE X a ta da) : VE X (.UnaryOp .Not a pos) (tNotV ta) (dNotV da) := ⟨pe_not h.pe, fun g0 H0 g s σ H P Q q p k =>
  h.adq g0 H0 g s σ H _ _ q p fun x H1 g1 s1 d st1 z p1 => by
    cases d <;> first | exact p1.elim | skip
    cases z
    exact ⟨_, rfl, k _ H1 g1 s1 _ st1 (.bl _) p1⟩⟩
def dIf (t : DT) (u w : DE) : DE := fun s P => t s fun b s1 => if b = true then u s1 P else w s1 P
theorem v_ifExp (hc : VT X c tA dA) (ha : VE X a ta da) (hb : VE X b tb db) : VE X (.IfExp c a b pos) (tIf tA ta tb) (dIf dA da db) := ⟨pe_ifExp hc.pt ha.pe hb.pe, fun g0 H0 g s σ H P Q q p k =>
  hc.adq g0 H0 g s σ H _ _ q p fun w H1 g1 s1 st1 p1 => by
    cases w with
    | true => exact ha.adq g0 H0 g1 s1 σ H1 _ _ st1.rel p1 fun v H2 g2 s2 d2 st2 z2 p2 => k v H2 g2 s2 d2 (st1.trans st2) z2 p2
    | false => exact hb.adq g0 H0 g1 s1 σ H1 _ _ st1.rel p1 fun v H2 g2 s2 d2 st2 z2 p2 => k v H2 g2 s2 d2 (st1.trans st2) z2 p2⟩
end
end VS
namespace VS
open PySem PySem.Spec L2
open PyProof.Rows hiding St

section
variable {K : PySem.W.Frag} {g0 g g1 g2 : Gh} {H0 H H1 H2 : Hp} {s s1 s2 : S} {σ : St}
theorem ne_lst {a b : Addr} {xs ys : List V} (h : H a = some (.lst xs)) (h' : H b = some (.tup ys)) : b ≠ a := by
  rintro rfl
  rw [h] at h'; cases h'
/-- a cell that no datum leans on is stored into -/
theorem Stay.upd {a : Addr} {o : HO} (hm : Mut (H a)) (nf : ¬ g.F a) : Stay g H g (upd H a o) where
  f := fun _ f => f
  k := fun b u f h => by
    rw [upd_ne (by rintro rfl; exact nf f)]
    exact h
  t := fun b xs h => by
    rw [upd_ne (by rintro rfl; rw [h] at hm; exact hm)]
    exact h
  z := fun b ob u h => by
    rw [upd_ne (by rintro rfl; rw [h] at hm; exact hm)]
    exact h
  b := fun _ h => h
theorem BagOk.mono {β : Bag} (h : BagOk g β H) (e : g1.bag = g.bag) (k : ∀ a, BagC g a → ∀ o, H a = some o → H1 a = some o) (nf : ∀ a, BagC g a → ¬ g1.F a) : BagOk g1 β H1 := by
  refine ⟨fun z => by rw [e]; exact h.1 z, fun b c q => ?_⟩
  rw [e] at q
  obtain ⟨h1, h2, h3, h4, h5⟩ := h.2 b c q
  exact ⟨k b ⟨b, c, q, .inl rfl⟩ _ h1, k c ⟨b, c, q, .inr rfl⟩ _ h2, h3, nf b ⟨b, c, q, .inl rfl⟩, nf c ⟨b, c, q, .inr rfl⟩⟩
/-- a list that nobody else knows grows -/
theorem Rel.upd {a : Addr} {o : HO} (r : Rel K g0 H0 g s σ H) (hm : Mut (H a)) (nf : ¬ g.F a) (nb : ¬ BagC g a) (no : ¬ OwnC s.ρ σ a) (n0 : H0 a = none) : Rel K g0 H0 g s σ (upd H a o) := by
  have st : Stay g H g (L2.upd H a o) := .upd hm nf
  refine ⟨r.len, fun i sl e => (r.slot i sl e).stay st fun b ⟨d, z1, z2⟩ u h => ?_, r.apart, r.nf, r.bag.mono rfl (fun b z u h => ?_) fun b z => r.bag.nf z, ?_, fun b f => ?_⟩
  · subst z1
    rw [upd_ne (by rintro rfl; exact no ⟨i, d, e, z2⟩)]
    exact h
  · rw [upd_ne (by rintro rfl; exact nb z)]
    exact h
  · refine ⟨fun b u h n => ?_, fun b n => ?_, r.grow.mono, r.grow.new, fun b f n => ?_, r.grow.bag, r.grow.bagn⟩
    · rw [upd_ne (by rintro rfl; rw [n0] at h; cases h)]
      exact r.grow.keep b u h n
    · by_cases q : b = a
      · rw [q, upd_same]
        exact fun z => by cases z
      · rw [upd_ne q]
        exact r.grow.there b n
    · by_cases q : b = a
      · rw [q, upd_same]
        exact fun z => by cases z
      · rw [upd_ne q]
        exact r.grow.newt b f n
  · rw [upd_ne (by rintro rfl; exact nf f)]
    exact r.ft b f
/-- a slot's own list changes -/
theorem Step.put {a : Addr} {o : HO} {i : Nat} {d d' : PyData} (r : Rel K g0 H0 g s σ H) (h : s.ρ[i]? = some (.ow d)) (e : σ[i]? = some (some (.ref a))) (q : OwnAt K g (L2.upd H a o) a d') :
    Step K g0 H0 g s σ H g ⟨s.ρ.set i (.ow d'), s.β⟩ (L2.upd H a o) := by
  have oc : OwnC s.ρ σ a := ⟨i, d, h, e⟩
  obtain ⟨nf, nb, n0⟩ := r.nf a oc
  obtain ⟨_, qa⟩ := r.ownAt oc
  have st : Stay g H g (L2.upd H a o) := .upd qa.mut nf
  have hi := (List.getElem?_eq_some_iff.mp h).1
  have own : ∀ b, OwnC (s.ρ.set i (.ow d')) σ b → OwnC s.ρ σ b := by
    rintro b ⟨j, f, h1, h2⟩
    by_cases z : j = i
    · subst z
      exact ⟨j, d, h, h2⟩
    · rw [List.getElem?_set_ne (Ne.symm z)] at h1
      exact ⟨j, f, h1, h2⟩
  refine ⟨⟨by simpa using r.len, fun j sl z => ?_, fun j k f f' b h1 h2 h3 h4 => ?_, fun b z => r.nf b (own b z), r.bag.mono rfl (fun b z u h => ?_) fun b z => r.bag.nf z, ?_, fun b f => ?_⟩, ?_, own⟩
  · have z : (s.ρ.set i (.ow d'))[j]? = some sl := z
    by_cases w : j = i
    · subst w
      rw [List.getElem?_set_self hi] at z
      cases z
      exact ⟨a, e, q⟩
    · rw [List.getElem?_set_ne (Ne.symm w)] at z
      refine (r.slot j sl z).stay st fun b ⟨f, z1, z2⟩ u hu => ?_
      subst z1
      rw [upd_ne]
      · exact hu
      · rintro rfl
        exact w (r.apart j i f d b z h z2 e)
  · obtain ⟨f1, h1⟩ : ∃ f1, s.ρ[j]? = some (.ow f1) := by
      have h1 : (s.ρ.set i (.ow d'))[j]? = some (.ow f) := h1
      by_cases w : j = i
      · exact ⟨d, w ▸ h⟩
      · rw [List.getElem?_set_ne (Ne.symm w)] at h1
        exact ⟨_, h1⟩
    obtain ⟨f2, h2⟩ : ∃ f2, s.ρ[k]? = some (.ow f2) := by
      have h2 : (s.ρ.set i (.ow d'))[k]? = some (.ow f') := h2
      by_cases w : k = i
      · exact ⟨d, w ▸ h⟩
      · rw [List.getElem?_set_ne (Ne.symm w)] at h2
        exact ⟨_, h2⟩
    exact r.apart j k f1 f2 b h1 h2 h3 h4
  · rw [upd_ne (by rintro rfl; exact nb z)]
    exact h
  · refine ⟨fun b u h n => ?_, fun b n => ?_, r.grow.mono, r.grow.new, fun b f n => ?_, r.grow.bag, r.grow.bagn⟩
    · rw [upd_ne (by rintro rfl; rw [n0] at h; cases h)]
      exact r.grow.keep b u h n
    · by_cases q : b = a
      · rw [q, upd_same]
        exact fun z => by cases z
      · rw [upd_ne q]
        exact r.grow.there b n
    · by_cases q : b = a
      · rw [q, upd_same]
        exact fun z => by cases z
      · rw [upd_ne q]
        exact r.grow.newt b f n
  · rw [upd_ne (by rintro rfl; exact nf f)]
    exact r.ft b f
  · refine ⟨fun b u h n => ?_, fun b n => ?_, fun _ f => f, fun _ f n => absurd f n, fun _ f n => absurd f n, fun _ h => h, fun _ _ h n => ?_⟩
    · rw [upd_ne (by rintro rfl; exact n (.inr oc))]
      exact h
    · by_cases q : b = a
      · rw [q, upd_same]
        exact fun z => by cases z
      · rw [upd_ne q]
        exact n
    · have h : g.bag = some _ := h
      rw [n] at h
      cases h
/-- a name is stored -/
theorem Rel.sto {i : Nat} {v : V} {d : PyData} (r : Rel K g0 H0 g s σ H) (z : Sees K g H v d) : Rel K g0 H0 g ⟨s.ρ.set i (.sh d), s.β⟩ (σ.set i (some v)) H := by
  have own : ∀ b, OwnC (s.ρ.set i (.sh d)) (σ.set i (some v)) b → ∃ j f, j ≠ i ∧ s.ρ[j]? = some (.ow f) ∧ σ[j]? = some (some (.ref b)) := by
    rintro b ⟨j, f, h1, h2⟩
    by_cases w : j = i
    · subst w
      by_cases hi : j < s.ρ.length
      · rw [List.getElem?_set_self hi] at h1
        cases h1
      · rw [List.getElem?_eq_none (by simpa using hi)] at h1
        cases h1
    · rw [List.getElem?_set_ne (Ne.symm w)] at h1 h2
      exact ⟨j, f, w, h1, h2⟩
  refine ⟨by simpa using r.len, fun j sl e => ?_, fun j k f f' b h1 h2 h3 h4 => ?_, fun b h => ?_, r.bag, r.grow, r.ft⟩
  · have e : (s.ρ.set i (.sh d))[j]? = some sl := e
    by_cases w : j = i
    · subst w
      have hi : j < s.ρ.length := by
        have := (List.getElem?_eq_some_iff.mp e).1
        simpa using this
      rw [List.getElem?_set_self hi] at e
      cases e
      exact ⟨v, by rw [List.getElem?_set_self (by rw [← r.len]; exact hi)], z⟩
    · rw [List.getElem?_set_ne (Ne.symm w)] at e ⊢
      exact r.slot j sl e
  · obtain ⟨_, _, n1, _, _⟩ := own b ⟨j, f, h1, h3⟩
    have w1 : j ≠ i := by
      rintro rfl
      have h1 : (s.ρ.set j (.sh d))[j]? = some (.ow f) := h1
      by_cases hi : j < s.ρ.length
      · rw [List.getElem?_set_self hi] at h1
        cases h1
      · rw [List.getElem?_eq_none (by simpa using hi)] at h1
        cases h1
    have w2 : k ≠ i := by
      rintro rfl
      have h2 : (s.ρ.set k (.sh d))[k]? = some (.ow f') := h2
      by_cases hi : k < s.ρ.length
      · rw [List.getElem?_set_self hi] at h2
        cases h2
      · rw [List.getElem?_eq_none (by simpa using hi)] at h2
        cases h2
    have h1 : (s.ρ.set i (.sh d))[j]? = some (.ow f) := h1
    have h2 : (s.ρ.set i (.sh d))[k]? = some (.ow f') := h2
    rw [List.getElem?_set_ne (Ne.symm w1)] at h1 h3
    rw [List.getElem?_set_ne (Ne.symm w2)] at h2 h4
    exact r.apart j k f f' b h1 h2 h3 h4
  · obtain ⟨j, f, _, h1, h2⟩ := own b h
    exact r.nf b ⟨j, f, h1, h2⟩
/-- a new list is stored at a name that owns it -/
theorem Rel.stoO {i : Nat} {a : Addr} {d : PyData} {Hb : Hp} (r : Rel K g0 H0 g s σ H) (n : NewAt K H0 g s σ Hb H a d) : Rel K g0 H0 g ⟨s.ρ.set i (.ow d), s.β⟩ (σ.set i (some (.ref a))) H := by
  obtain ⟨n1, n2, n3, _, n5, n6⟩ := n
  have at_ : ∀ j f b, (s.ρ.set i (.ow d))[j]? = some (.ow f) → (σ.set i (some (V.ref a)))[j]? = some (some (V.ref b)) → (j = i ∧ b = a) ∨ (j ≠ i ∧ s.ρ[j]? = some (.ow f) ∧ σ[j]? = some (some (.ref b))) := by
    intro j f b h1 h2
    by_cases w : j = i
    · subst w
      have hi : j < s.ρ.length := by
        have := (List.getElem?_eq_some_iff.mp h1).1
        simpa using this
      rw [List.getElem?_set_self (by rw [← r.len]; exact hi)] at h2
      cases h2
      exact .inl ⟨rfl, rfl⟩
    · rw [List.getElem?_set_ne (Ne.symm w)] at h1 h2
      exact .inr ⟨w, h1, h2⟩
  refine ⟨by simpa using r.len, fun j sl e => ?_, fun j k f f' b h1 h2 h3 h4 => ?_, fun b h => ?_, r.bag, r.grow, r.ft⟩
  · have e : (s.ρ.set i (.ow d))[j]? = some sl := e
    by_cases w : j = i
    · subst w
      have hi : j < s.ρ.length := by
        have := (List.getElem?_eq_some_iff.mp e).1
        simpa using this
      rw [List.getElem?_set_self hi] at e
      cases e
      exact ⟨a, by rw [List.getElem?_set_self (by rw [← r.len]; exact hi)], n1⟩
    · rw [List.getElem?_set_ne (Ne.symm w)] at e ⊢
      exact r.slot j sl e
  · rcases at_ j f b h1 h3 with ⟨z1, z2⟩ | ⟨z1, z2, z3⟩
    · rcases at_ k f' b h2 h4 with ⟨w1, w2⟩ | ⟨w1, w2, w3⟩
      · rw [z1, w1]
      · subst z2
        exact absurd ⟨k, f', w2, w3⟩ n5
    · rcases at_ k f' b h2 h4 with ⟨w1, w2⟩ | ⟨w1, w2, w3⟩
      · subst w2
        exact absurd ⟨j, f, z2, z3⟩ n5
      · exact r.apart j k f f' b z2 w2 z3 w3
  · obtain ⟨j, f, h1, h2⟩ := h
    rcases at_ j f b h1 h2 with ⟨_, rfl⟩ | ⟨_, z2, z3⟩
    · exact ⟨n2, n3, n6⟩
    · exact r.nf b ⟨j, f, z2, z3⟩
/-- slots forgotten -/
theorem Rel.forget {ρ' : List Slot} {σ' : St} (r : Rel K g0 H0 g s σ H) (hl : ρ'.length = σ'.length) (h : ∀ (j : Nat) sl, ρ'[j]? = some sl → sl = .un ∨ (s.ρ[j]? = some sl ∧ σ'[j]? = σ[j]?)) : Rel K g0 H0 g ⟨ρ', s.β⟩ σ' H := by
  have own : ∀ (j : Nat) (f : PyData), ρ'[j]? = some (Slot.ow f) → s.ρ[j]? = some (Slot.ow f) ∧ σ'[j]? = σ[j]? := fun j f e => by
    rcases h j _ e with z | z
    · cases z
    · exact z
  refine ⟨hl, fun j sl e => ?_, fun j k f f' b h1 h2 h3 h4 => ?_, fun b ⟨j, f, h1, h2⟩ => ?_, r.bag, r.grow, r.ft⟩
  · rcases h j sl e with rfl | ⟨z1, z2⟩
    · trivial
    · rw [z2]
      exact r.slot j sl z1
  · obtain ⟨a1, a2⟩ := own j f h1
    obtain ⟨b1, b2⟩ := own k f' h2
    exact r.apart j k f f' b a1 b1 (a2 ▸ h3) (b2 ▸ h4)
  · obtain ⟨a1, a2⟩ := own j f h1
    exact r.nf b ⟨j, f, a1, a2 ▸ h2⟩
end
end VS
namespace VS
open PySem PySem.Spec L2
open PyProof.Rows hiding St

theorem Stay.refl {g : Gh} {H : Hp} : Stay g H g H := ⟨fun _ f => f, fun _ _ _ h => h, fun _ _ h => h, fun _ _ _ h => h, fun _ h => h⟩
theorem Stay.trans {g g1 g2 : Gh} {H H1 H2 : Hp} (a : Stay g H g1 H1) (b : Stay g1 H1 g2 H2) : Stay g H g2 H2 :=
  ⟨fun x f => b.f x (a.f x f), fun x o f h => b.k x o (a.f x f) (a.k x o f h), fun x xs h => b.t x xs (a.t x xs h), fun x o u h => b.z x o u (a.z x o u h), fun p h => b.b p (a.b p h)⟩

/-! ### what is walked -/
abbrev DI := S → (List PyData → S → Prop) → Prop
structure WalkD (K : PySem.W.Frag) (J : It) (G : Gh → Hp → Prop) (ds : List PyData) : Prop where
  go : ∀ i g H, i < ds.length → G g H → J.go i H
  yl : ∀ i g H x H', i < ds.length → G g H → J.yld i H x H' → ∃ g' d, Fresh g H g' H' ∧ ds[i]? = some d ∧ Sees K g' H' x d
  st : ∀ g H, G g H → J.stop ds.length H
def AdqI (K : PySem.W.Frag) (wi : TI) (di : DI) : Prop := ∀ (g0 : Gh) (H0 : Hp) (g : Gh) (s : S) (σ : St) (H : Hp) (P : List PyData → S → Prop) (R : It → Hp → Prop), Rel K g0 H0 g s σ H → di s P →
  (∀ J H' g' s' ds (G : Gh → Hp → Prop), Step K g0 H0 g s σ H g' s' H' → WalkD K J G ds → G g' H' → (∀ ga Ha gb Hb, Stay ga Ha gb Hb → G ga Ha → G gb Hb) → P ds s' → R J H') → wi σ H R
/-- a slot's own list is walked, kept -/
def AdqB (K : PySem.W.Frag) (wi : TI) (i : Nat) : Prop := ∀ (g0 : Gh) (H0 : Hp) (g : Gh) (s : S) (σ : St) (H : Hp) (R : It → Hp → Prop) (ds : List PyData), Rel K g0 H0 g s σ H → s.ρ[i]? = some (.ow (.list ds)) →
  (∀ J (a : Addr), σ[i]? = some (some (.ref a)) → WalkD K J (fun g H => ∃ xs, H a = some (.lst xs) ∧ SeesAll K g H xs ds) ds → R J H) → wi σ H R
structure VI (X : Cx) (tg iter : Expr) (wi : TI) (di : DI) : Prop where
  pi : PI X tg iter wi
  adq : AdqI X.K wi di
section
variable {K : PySem.W.Frag} {J : It} {n : Nat}
theorem SeesAll.at' {g : Gh} {H : Hp} {xs : List V} {ds : List PyData} (h : SeesAll K g H xs ds) {j : Nat} {v : V} (e : xs[j]? = some v) : ∃ d, ds[j]? = some d ∧ Sees K g H v d := by
  have hj : j < ds.length := by
    rw [← h.length]
    exact (List.getElem?_eq_some_iff.mp e).1
  obtain ⟨w, q1, q2⟩ := SeesAll.at (d := ds[j]) h (List.getElem?_eq_getElem hj)
  rw [e] at q1
  cases q1
  exact ⟨ds[j], List.getElem?_eq_getElem hj, q2⟩
theorem walkD_list (a : Addr) (ds : List PyData) : WalkD K (Itl K a) (fun g H => ∃ xs, H a = some (.lst xs) ∧ SeesAll K g H xs ds) ds where
  go := fun i g H hi ⟨xs, e, z⟩ => walk_list.goes i H (by rw [z.length]; exact hi) (.of e)
  yl := fun i g H x H' hi ⟨xs, e, z⟩ y => by
    obtain ⟨rfl, h⟩ := walk_list.yields i H x H' (by rw [z.length]; exact hi) (.of e) y
    obtain ⟨d, h1, h2⟩ := z.at' h
    exact ⟨g, d, .refl, h1, h2⟩
  st := fun g H ⟨xs, e, z⟩ => by
    rw [← z.length]
    exact walk_list.stops H (.of e)
theorem walkD_rev (a : Addr) (n : Nat) (ds : List PyData) (hn : n = ds.length) : WalkD K (Itv K a n) (fun g H => ∃ xs, H a = some (.lst xs) ∧ SeesAll K g H xs ds) ds.reverse where
  go := fun i g H hi ⟨xs, e, z⟩ => by
    have l : xs.length = n := by rw [z.length, hn]
    subst l
    exact walk_rev.goes i H (by rw [z.length]; simpa using hi) (.of e)
  yl := fun i g H x H' hi ⟨xs, e, z⟩ y => by
    have l : xs.length = n := by rw [z.length, hn]
    subst l
    have hi : i < ds.length := by simpa using hi
    obtain ⟨rfl, h⟩ := walk_rev.yields i H x H' (by rw [z.length]; exact hi) (.of e) y
    obtain ⟨d, h1, h2⟩ := z.at' h
    exact ⟨g, d, .refl, by rw [List.getElem?_reverse hi, ← z.length]; exact h1, h2⟩
  st := fun g H ⟨xs, e, z⟩ => by
    have l : xs.length = n := by rw [z.length, hn]
    subst l
    rw [List.length_reverse, ← z.length]
    exact walk_rev.stops H (.of e)
theorem walkD_tup (a : Addr) (ds : List PyData) : WalkD K (Itt K a) (fun g H => ∃ xs, H a = some (.tup xs) ∧ SeesAll K g H xs ds) ds where
  go := fun i g H hi ⟨xs, e, z⟩ => walk_tup.goes i H (by rw [z.length]; exact hi) (.of e)
  yl := fun i g H x H' hi ⟨xs, e, z⟩ y => by
    obtain ⟨rfl, h⟩ := walk_tup.yields i H x H' (by rw [z.length]; exact hi) (.of e) y
    obtain ⟨d, h1, h2⟩ := z.at' h
    exact ⟨g, d, .refl, h1, h2⟩
  st := fun g H ⟨xs, e, z⟩ => by
    rw [← z.length]
    exact walk_tup.stops H (.of e)
def rangeD (lo : Int) (n : Nat) : List PyData := (List.range n).map fun (i : Nat) => PyData.int (lo + (i : Int))
theorem walkD_range (lo : Int) (n : Nat) : WalkD K (Itr lo n) (fun _ _ => True) (rangeD lo n) where
  go := fun i g H hi _ => walk_range.goes i H (by simpa [rangeD] using hi) trivial
  yl := fun i g H x H' hi _ y => by
    have hi : i < n := by simpa [rangeD] using hi
    obtain ⟨rfl, rfl⟩ := walk_range.yields i H x H' hi trivial y
    exact ⟨g, .int (lo + i), .refl, by simp [rangeD, hi], .int _⟩
  st := fun g H _ => by
    rw [show (rangeD lo n).length = n by simp [rangeD]]
    exact walk_range.stops H trivial
def enumD : Nat → List PyData → List PyData
  | _, [] => []
  | k, d :: ds => .tuple [.int k, d] :: enumD (k + 1) ds
theorem enumD_length : ∀ (ds : List PyData) (k : Nat), (enumD k ds).length = ds.length
  | [], _ => rfl
  | d :: ds, k => by simp [enumD, enumD_length ds]
theorem enumD_at : ∀ (ds : List PyData) (k i : Nat) (d : PyData), ds[i]? = some d → (enumD k ds)[i]? = some (.tuple [.int ((k + i : Nat) : Int), d])
  | [], _, _, _, h => by simp at h
  | e :: ds, k, 0, d, h => by
    simp only [List.getElem?_cons_zero, Option.some.injEq] at h
    subst h
    rfl
  | e :: ds, k, i + 1, d, h => by
    have := enumD_at ds (k + 1) i d (by simpa using h)
    simp only [enumD, List.getElem?_cons_succ, this]
    congr 5
    omega
theorem walkD_enum (a : Addr) (ds : List PyData) : WalkD K (Ite K a) (fun g H => ∃ xs, H a = some (.lst xs) ∧ SeesAll K g H xs ds) (enumD 0 ds) where
  go := fun i g H hi ⟨xs, e, z⟩ => walk_enum.goes i H (by rw [z.length, ← enumD_length ds 0]; exact hi) (.of e)
  yl := fun i g H x H' hi ⟨xs, e, z⟩ y => by
    obtain ⟨T, a1, a2, h1, h2, h3, h4, h5⟩ := walk_enum.yields i H x H' (by rw [z.length, ← enumD_length ds 0]; exact hi) (.of e) y
    cases h4
    obtain ⟨d, q1, q2⟩ := z.at' h5
    subst h1 h3
    have f : Fresh g H g (upd H T (.tup [.int (i : Nat), a2])) := .laid h2
    refine ⟨g, .tuple [.int (i : Nat), d], f, ?_, .tup upd_same (.cons (.int _) (.cons (q2.stay f.stay) .nil))⟩
    have := enumD_at ds 0 i d q1
    simpa using this
  st := fun g H ⟨xs, e, z⟩ => by
    rw [enumD_length, ← z.length]
    exact walk_enum.stops H (.of e)
def zipD (xs ys : List PyData) : List PyData := List.zipWith (fun x y => .tuple [x, y]) xs ys
theorem walkD_zip (a b : Addr) (ds es : List PyData) : WalkD K (Itz K a b) (fun g H => (∃ xs, H a = some (.lst xs) ∧ SeesAll K g H xs ds) ∧ ∃ ys, H b = some (.lst ys) ∧ SeesAll K g H ys es) (zipD ds es) where
  go := fun i g H hi ⟨⟨xs, e, z⟩, ys, e', z'⟩ => (walk_zip rfl).goes i H (by rw [z.length, z'.length]; simpa [zipD] using hi) ⟨.of e, .of e'⟩
  yl := fun i g H x H' hi ⟨⟨xs, e, z⟩, ys, e', z'⟩ y => by
    obtain ⟨T, a1, a2, h1, h2, h3, h4, h5⟩ := (walk_zip rfl).yields i H x H' (by rw [z.length, z'.length]; simpa [zipD] using hi) ⟨.of e, .of e'⟩ y
    obtain ⟨d, q1, q2⟩ := z.at' h4
    obtain ⟨f', r1, r2⟩ := z'.at' h5
    subst h1 h3
    have f : Fresh g H g (upd H T (.tup [a1, a2])) := .laid h2
    refine ⟨g, .tuple [d, f'], f, ?_, .tup upd_same (.cons (q2.stay f.stay) (.cons (r2.stay f.stay) .nil))⟩
    simp [zipD, List.getElem?_zipWith, q1, r1]
  st := fun g H ⟨⟨xs, e, z⟩, ys, e', z'⟩ => by
    rw [show (zipD ds es).length = min xs.length ys.length by simp [zipD, z.length, z'.length]]
    exact (walk_zip rfl).stops H ⟨.of e, .of e'⟩
def dItL (t : DE) : DI := fun s P => t s fun d s1 => match d with
  | .list ds => P ds s1
  | _ => False
def dItT (t : DE) : DI := fun s P => t s fun d s1 => match d with
  | .tuple ds => P ds s1
  | _ => False
def dIt (t : DE) : DI := fun s P => t s fun d s1 => match d with
  | .list ds => P ds s1
  | .tuple ds => P ds s1
  | _ => False
variable {tl : TE} {t : DE} {ta : TA} {da : DA}
theorem frozen_list {a : Addr} {ds : List PyData} (f : Gh → Prop) (ga : Gh) (Ha : Hp) (gb : Gh) (Hb : Hp) (s : Stay ga Ha gb Hb) (h : ga.F a ∧ ∃ xs, Ha a = some (.lst xs) ∧ SeesAll K ga Ha xs ds) : gb.F a ∧ ∃ xs, Hb a = some (.lst xs) ∧ SeesAll K gb Hb xs ds := by
  obtain ⟨h1, xs, h2, h3⟩ := h
  exact ⟨s.f a h1, xs, s.k _ _ h1 h2, SeesAll.stay s h3⟩
theorem WalkD.imp {G G' : Gh → Hp → Prop} {ds : List PyData} (w : WalkD K J G ds) (h : ∀ g H, G' g H → G g H) : WalkD K J G' ds :=
  ⟨fun i g H hi q => w.go i g H hi (h _ _ q), fun i g H x H' hi q y => w.yl i g H x H' hi (h _ _ q) y, fun g H q => w.st g H (h _ _ q)⟩
theorem adq_itL (h : AdqE K tl t) : AdqI K (iList K tl) (dItL t) := fun g0 H0 g s σ H P R r p k =>
  h g0 H0 g s σ H _ _ r p fun v H1 g1 s1 d st z p1 => by
    cases d <;> first | exact p1.elim | skip
    cases z with
    | lst f e a =>
      refine ⟨_, rfl, ⟨_, .of e⟩, k _ H1 g1 s1 _ (fun g H => g.F _ ∧ ∃ xs, H _ = some (.lst xs) ∧ SeesAll K g H xs _) st ((walkD_list _ _).imp fun _ _ q => q.2) ⟨f, _, e, a⟩ (fun ga Ha gb Hb s h => frozen_list (fun _ => True) ga Ha gb Hb s h) p1⟩
theorem adq_itT (h : AdqE K tl t) : AdqI K (iTup K tl) (dItT t) := fun g0 H0 g s σ H P R r p k =>
  h g0 H0 g s σ H _ _ r p fun v H1 g1 s1 d st z p1 => by
    cases d <;> first | exact p1.elim | skip
    cases z with
    | tup e a =>
      refine ⟨_, rfl, ⟨_, .of e⟩, k _ H1 g1 s1 _ (fun g H => ∃ xs, H _ = some (.tup xs) ∧ SeesAll K g H xs _) st (walkD_tup _ _) ⟨_, e, a⟩ (fun ga Ha gb Hb s h => ?_) p1⟩
      obtain ⟨xs, h2, h3⟩ := h
      exact ⟨xs, s.t _ _ h2, SeesAll.stay s h3⟩
theorem adq_rev (h : AdqA K ta da) : AdqI K (iRev K ta) (fun s P => da s fun ds s1 => match ds with
    | [.list es] => P es.reverse s1
    | _ => False) := fun g0 H0 g s σ H P R r p k =>
  h g0 H0 g s σ H _ _ r p fun vs H1 g1 s1 ds st z p1 => by
    cases z with
    | nil => exact p1.elim
    | cons z1 z2 =>
      cases z1 <;> first | (cases z2 <;> exact p1.elim) | skip
      cases z2 with
      | cons _ _ => exact p1.elim
      | nil =>
        rename_i f e a
        exact ⟨_, _, rfl, .of e, k _ H1 g1 s1 _ (fun g H => g.F _ ∧ ∃ xs, H _ = some (.lst xs) ∧ SeesAll K g H xs _) st ((walkD_rev _ _ _ a.length).imp fun _ _ q => q.2) ⟨f, _, e, a⟩ (fun ga Ha gb Hb s h => frozen_list (fun _ => True) ga Ha gb Hb s h) p1⟩
theorem adq_enum (h : AdqA K ta da) : AdqI K (iEnum K ta) (fun s P => da s fun ds s1 => match ds with
    | [.list es] => P (enumD 0 es) s1
    | _ => False) := fun g0 H0 g s σ H P R r p k =>
  h g0 H0 g s σ H _ _ r p fun vs H1 g1 s1 ds st z p1 => by
    cases z with
    | nil => exact p1.elim
    | cons z1 z2 =>
      cases z1 <;> first | (cases z2 <;> exact p1.elim) | skip
      cases z2 with
      | cons _ _ => exact p1.elim
      | nil =>
        rename_i f e a
        exact ⟨_, _, rfl, .of e, k _ H1 g1 s1 _ (fun g H => g.F _ ∧ ∃ xs, H _ = some (.lst xs) ∧ SeesAll K g H xs _) st ((walkD_enum _ _).imp fun _ _ q => q.2) ⟨f, _, e, a⟩ (fun ga Ha gb Hb s h => frozen_list (fun _ => True) ga Ha gb Hb s h) p1⟩
def dRange1 (t : DA) : DI := fun s P => t s fun ds s1 => match ds with
  | [.int j] => -(2 ^ 62) ≤ j ∧ j < 2 ^ 62 ∧ P (rangeD 0 j.toNat) s1
  | _ => False
def dRange2 (t : DA) : DI := fun s P => t s fun ds s1 => match ds with
  | [.int i, .int j] => (-(2 ^ 62) ≤ i ∧ i < 2 ^ 62 ∧ -(2 ^ 62) ≤ j ∧ j < 2 ^ 62) ∧ P (rangeD i (j - i).toNat) s1
  | _ => False
theorem adq_range1 (h : AdqA K ta da) : AdqI K (iRng1 ta) (dRange1 da) := fun g0 H0 g s σ H P R r p k =>
  h g0 H0 g s σ H _ _ r p fun vs H1 g1 s1 ds st z p1 => by
    cases z with
    | nil => exact p1.elim
    | cons z1 z2 =>
      cases z1 <;> first | (cases z2 <;> exact p1.elim) | skip
      cases z2 with
      | cons _ _ => exact p1.elim
      | nil => exact ⟨_, rfl, p1.1, p1.2.1, k _ H1 g1 s1 _ (fun _ _ => True) st (walkD_range _ _) trivial (fun _ _ _ _ _ _ => trivial) p1.2.2⟩
theorem adq_range2 (h : AdqA K ta da) : AdqI K (iRng2 ta) (dRange2 da) := fun g0 H0 g s σ H P R r p k =>
  h g0 H0 g s σ H _ _ r p fun vs H1 g1 s1 ds st z p1 => by
    cases z with
    | nil => exact p1.elim
    | cons z1 z2 =>
      cases z1 <;> first | (cases z2 <;> exact p1.elim) | skip
      cases z2 with
      | nil => exact p1.elim
      | cons z3 z4 =>
        cases z3 <;> first | (cases z4 <;> exact p1.elim) | skip
        cases z4 with
        | cons _ _ => exact p1.elim
        | nil => exact ⟨_, _, rfl, p1.1, k _ H1 g1 s1 _ (fun _ _ => True) st (walkD_range _ _) trivial (fun _ _ _ _ _ _ => trivial) p1.2⟩
theorem adq_zip (h : AdqA K ta da) : AdqI K (iZip K ta) (fun s P => da s fun ds s1 => match ds with
    | [.list xs, .list ys] => P (zipD xs ys) s1
    | _ => False) := fun g0 H0 g s σ H P R r p k =>
  h g0 H0 g s σ H _ _ r p fun vs H1 g1 s1 ds st z p1 => by
    cases z with
    | nil => exact p1.elim
    | cons z1 z2 =>
      cases z1 <;> first | (cases z2 <;> exact p1.elim) | skip
      cases z2 with
      | nil => exact p1.elim
      | cons z3 z4 =>
        cases z3 <;> first | (cases z4 <;> exact p1.elim) | skip
        cases z4 with
        | cons _ _ => exact p1.elim
        | nil =>
          rename_i f1 e1 a1 _ _ _ f2 e2 a2
          refine ⟨_, _, _, _, rfl, .of e1, .of e2, k _ H1 g1 s1 _ (fun g H => (g.F _ ∧ ∃ xs, H _ = some (.lst xs) ∧ SeesAll K g H xs _) ∧ g.F _ ∧ ∃ xs, H _ = some (.lst xs) ∧ SeesAll K g H xs _) st ((walkD_zip _ _ _ _).imp fun _ _ q => ⟨q.1.2, q.2.2⟩) ⟨⟨f1, _, e1, a1⟩, f2, _, e2, a2⟩ (fun ga Ha gb Hb s h => ⟨frozen_list (fun _ => True) ga Ha gb Hb s h.1, frozen_list (fun _ => True) ga Ha gb Hb s h.2⟩) p1⟩
theorem adqB_list (i : Nat) : AdqB K (iList K (tVar i)) i := by
  intro g0 H0 g s σ H R ds r e k
  obtain ⟨a, e1, q⟩ := r.slot i _ e
  rcases q with ⟨xs, es, h1, h2, h3⟩ | ⟨ks, kvs, h1, _⟩ | ⟨ks, kvs, h1, _⟩
  · cases h1
    exact ⟨_, e1, a, rfl, ⟨_, .of h2⟩, k _ a e1 (walkD_list a ds)⟩
  · cases h1
  · cases h1
end
section
variable {X : Cx} {tg e : Expr} {te : TE} {t : DE} {ta : TA} {da : DA} {p pos : Pos}
theorem vi_list (h : VE X e te t) : VI X tg e (iList X.K te) (dItL t) := ⟨pi_list h.pe, adq_itL h.adq⟩
theorem vi_tup (h : VE X e te t) : VI X tg e (iTup X.K te) (dItT t) := ⟨pi_tup h.pe, adq_itT h.adq⟩
end

/-! ### targets -/
abbrev DG := PyData → S → (S → Prop) → Prop
abbrev DGs := List PyData → S → (S → Prop) → Prop
def SetBy {α : Type} (L : List Nat) (l l' : List α) : Prop := l'.length = l.length ∧ ∀ j, j ∉ L → l'[j]? = l[j]?
theorem SetBy.refl {α : Type} {L : List Nat} {l : List α} : SetBy L l l := ⟨rfl, fun _ _ => rfl⟩
theorem SetBy.set {α : Type} {l : List α} {i : Nat} {x : α} : SetBy [i] l (l.set i x) := ⟨by simp, fun j h => by
  rw [List.getElem?_set_ne]
  intro z
  exact h (by simp [z])⟩
theorem SetBy.trans {α : Type} {L M : List Nat} {l l' l'' : List α} (a : SetBy L l l') (b : SetBy M l' l'') : SetBy (L ++ M) l l'' := ⟨b.1.trans a.1, fun j h => by
  rw [List.mem_append, not_or] at h
  rw [b.2 j h.2, a.2 j h.1]⟩
def AdqG (K : PySem.W.Frag) (L : List Nat) (tg : TG) (b : DG) : Prop := ∀ (g0 : Gh) (H0 : Hp) (g : Gh) (s : S) (σ : St) (H : Hp) (v : V) (d : PyData) (P : S → Prop) (Q : St → Hp → Prop), Rel K g0 H0 g s σ H → Sees K g H v d → b d s P →
  (∀ σ' s', Rel K g0 H0 g s' σ' H → SetBy L σ σ' → SetBy L s.ρ s'.ρ → s'.β = s.β → (∀ a, OwnC s'.ρ σ' a → OwnC s.ρ σ a) → P s' → Q σ' H) → tg v σ H Q
def AdqGs (K : PySem.W.Frag) (L : List Nat) (tg : TGs) (b : DGs) : Prop := ∀ (g0 : Gh) (H0 : Hp) (g : Gh) (s : S) (σ : St) (H : Hp) (vs : List V) (ds : List PyData) (P : S → Prop) (Q : St → Hp → Prop), Rel K g0 H0 g s σ H → SeesAll K g H vs ds → b ds s P →
  (∀ σ' s', Rel K g0 H0 g s' σ' H → SetBy L σ σ' → SetBy L s.ρ s'.ρ → s'.β = s.β → (∀ a, OwnC s'.ρ σ' a → OwnC s.ρ σ a) → P s' → Q σ' H) → tg vs σ H Q
structure VG (X : Cx) (tg : Expr) (L : List Nat) (g : TG) (b : DG) : Prop where
  pg : PG X tg g
  adq : AdqG X.K L g b
structure VGs (X : Cx) (tgs : List Expr) (L : List Nat) (g : TGs) (b : DGs) : Prop where
  pgs : PGs X tgs g
  adq : AdqGs X.K L g b
def bName (i : Nat) : DG := fun d s P => P ⟨s.ρ.set i (.sh d), s.β⟩
def bNil : DGs := fun ds s P => match ds with
  | [] => P s
  | _ => False
def bCons (b : DG) (c : DGs) : DGs := fun ds s P => match ds with
  | d :: r => b d s fun s' => c r s' P
  | _ => False
def bTup (n : Nat) (c : DGs) : DG := fun d s P => match d with
  | .tuple ds => ds.length = n ∧ c ds s P
  | _ => False
section
variable {X : Cx} {K : PySem.W.Frag} {pos : Pos} {L M : List Nat} {tg : TG} {tgs : TGs} {b : DG} {c : DGs}
theorem own_sto {ρ : List Slot} {σ : St} {i : Nat} {v : V} {d : PyData} {a : Addr} (h : OwnC (ρ.set i (.sh d)) (σ.set i (some v)) a) : OwnC ρ σ a := by
  obtain ⟨j, f, h1, h2⟩ := h
  by_cases w : j = i
  · subst w
    by_cases hi : j < ρ.length
    · rw [List.getElem?_set_self hi] at h1
      cases h1
    · rw [List.getElem?_eq_none (by simpa using hi)] at h1
      cases h1
  · rw [List.getElem?_set_ne (Ne.symm w)] at h1 h2
    exact ⟨j, f, h1, h2⟩
theorem adq_name (i : Nat) : AdqG K [i] (gName i) (bName i) := fun g0 H0 g s σ H v d P Q r z p k => k _ _ (r.sto z) .set .set rfl (fun a h => own_sto h) p
theorem adq_gnil : AdqGs K [] gNil bNil := fun g0 H0 g s σ H vs ds P Q r z p k => by
  cases z with
  | nil => exact ⟨rfl, k σ s r .refl .refl rfl (fun _ h => h) p⟩
  | cons _ _ => exact p.elim
theorem adq_gcons (h : AdqG K L tg b) (h2 : AdqGs K M tgs c) : AdqGs K (L ++ M) (gCons tg tgs) (bCons b c) := fun g0 H0 g s σ H vs ds P Q r z p k => by
  cases z with
  | nil => exact p.elim
  | cons z1 z2 => exact ⟨_, _, rfl, h g0 H0 g s σ H _ _ _ _ r z1 p fun σ1 s1 r1 a1 a2 a3 a4 p1 => h2 g0 H0 g s1 σ1 H _ _ _ _ r1 z2 p1 fun σ2 s2 r2 b1 b2 b3 b4 p2 => k σ2 s2 r2 (a1.trans b1) (a2.trans b2) (b3.trans a3) (fun a h => a4 a (b4 a h)) p2⟩
theorem adq_gtup {n : Nat} (h : AdqGs K L tgs c) : AdqG K L (gTup K n tgs) (bTup n c) := fun g0 H0 g s σ H v d P Q r z p k => by
  cases d <;> first | exact p.elim | skip
  cases z with
  | tup e a => exact ⟨_, _, rfl, .of e, by rw [a.length]; exact p.1, h g0 H0 g s σ H _ _ _ _ r a p.2 k⟩
theorem vg_name {i : Nat} {x : Str} (h : PG X (.Name x pos) (gName i)) : VG X (.Name x pos) [i] (gName i) (bName i) := ⟨h, adq_name i⟩
theorem vgs_nil : VGs X [] [] gNil bNil := ⟨pgs_nil, adq_gnil⟩
theorem vgs_cons {e : Expr} {es : List Expr} (h1 : VG X e L tg b) (h2 : VGs X es M tgs c) (hs : (assignEach (e :: es) X.env).map (·.2) = assign e X.env :: (assignEach es X.env).map (·.2) := by rfl) : VGs X (e :: es) (L ++ M) (gCons tg tgs) (bCons b c) := ⟨pgs_cons h1.pg h2.pgs hs, adq_gcons h1.adq h2.adq⟩
theorem vg_tup {es : List Expr} {k n : Nat} (hc : X.calm = true) (h : VGs X es L tgs c) (hn : (assignEach es X.env).length = n := by rfl) (hst : (assignEach es X.env).findIdx? (·.1) = none := by rfl) : VG X (.Tuple es k pos) L (gTup X.K n tgs) (bTup n c) := ⟨pg_tup hc h.pgs hn hst, adq_gtup h.adq⟩
end

/-! ### statements -/
structure DEnds where
  nx : S → Prop
  rt : PyData → Bag → Prop
  bk : S → Prop := fun _ => False
  ct : S → Prop := fun _ => False
abbrev DS := DEnds → S → Prop
structure EndsOk (K : PySem.W.Frag) (g0 : Gh) (H0 : Hp) (g : Gh) (H : Hp) (D : DEnds) (D' : Ends) : Prop where
  nx : ∀ g' s' σ' H', Rel K g0 H0 g' s' σ' H' → Stay g H g' H' → D.nx s' → D'.nx σ' H'
  bk : ∀ g' s' σ' H', Rel K g0 H0 g' s' σ' H' → Stay g H g' H' → D.bk s' → D'.bk σ' H'
  ct : ∀ g' s' σ' H', Rel K g0 H0 g' s' σ' H' → Stay g H g' H' → D.ct s' → D'.ct σ' H'
  rt : ∀ g' H' v d β, Ext (BagC g0) g0 H0 g' H' → Sees K g' H' v d → BagOk g' β H' → Ft g' H' → D.rt d β → D'.rt v H'
theorem EndsOk.later {K : PySem.W.Frag} {g0 g g1 : Gh} {H0 H H1 : Hp} {D : DEnds} {D' : Ends} (e : EndsOk K g0 H0 g H D D') (s : Stay g H g1 H1) : EndsOk K g0 H0 g1 H1 D D' :=
  ⟨fun g' s' σ' H' r t p => e.nx g' s' σ' H' r (s.trans t) p, fun g' s' σ' H' r t p => e.bk g' s' σ' H' r (s.trans t) p, fun g' s' σ' H' r t p => e.ct g' s' σ' H' r (s.trans t) p, e.rt⟩
def AdqS (K : PySem.W.Frag) (ts : TS) (t : DS) : Prop := ∀ (g0 : Gh) (H0 : Hp) (g : Gh) (s : S) (σ : St) (H : Hp) (D : DEnds) (D' : Ends), Rel K g0 H0 g s σ H → t D s → EndsOk K g0 H0 g H D D' → ts D' σ H
structure VS (X : Cx) (st : Stmt) (ts : TS) (t : DS) : Prop where
  ps : PS X st ts
  adq : AdqS X.K ts t
structure VB (X : Cx) (st : List Stmt) (ts : TS) (t : DS) : Prop where
  pss : PSs X st ts
  adq : AdqS X.K ts t
def sNext : DS := fun D s => D.nx s
def sSeq (t u : DS) : DS := fun D s => t { D with nx := u D } s
def sRet (t : DE) : DS := fun D s => t s fun d s1 => D.rt d s1.β
def sRetN : DS := fun D s => D.rt .none s.β
def sDrop (t : DE) : DS := fun D s => t s fun _ s1 => D.nx s1
def sIf (t : DT) (u w : DS) : DS := fun D s => t s fun b s1 => if b = true then u D s1 else w D s1
def sAsg (t : DE) (b : DG) : DS := fun D s => t s fun d s1 => b d s1 D.nx
/-- a name that owns -/
def sOwn (t : DE) (i : Nat) : DS := fun D s => t s fun d s1 => D.nx ⟨s1.ρ.set i (.ow d), s1.β⟩
section
variable {X : Cx} {K : PySem.W.Frag} {pos : Pos} {st : Stmt} {rest a b : List Stmt} {e c : Expr} {t u : TS} {dt du : DS} {te : TE} {de : DE} {tt : TT} {dt' : DT} {g : TG} {bg : DG} {L : List Nat}
theorem adq_next : AdqS K tNext sNext := fun g0 H0 g s σ H D D' r p e => e.nx g s σ H r .refl p
theorem adq_seq (h : AdqS K t dt) (h2 : AdqS K u du) : AdqS K (tSeq t u) (sSeq dt du) := fun g0 H0 g s σ H D D' r p e =>
  h g0 H0 g s σ H _ _ r p ⟨fun g' s' σ' H' r' y q => h2 g0 H0 g' s' σ' H' D D' r' q (e.later y), e.bk, e.ct, e.rt⟩
theorem vb_nil : VB X [] tNext sNext := ⟨pss_nil, adq_next⟩
theorem vb_cons (h : VS X st t dt) (h2 : VB X rest u du) : VB X (st :: rest) (tSeq t u) (sSeq dt du) := ⟨pss_cons h.ps h2.pss, adq_seq h.adq h2.adq⟩
theorem vb_one (h : VS X st t dt) : VB X [st] t dt := ⟨pss_one h.ps, h.adq⟩
theorem vs_ret (h : VE X e te de) : VS X (.Return (some e) pos) (tRet te) (sRet de) := ⟨ps_ret h.pe, fun g0 H0 g s σ H D D' r p k =>
  h.adq g0 H0 g s σ H _ _ r p fun v H1 g1 s1 d st z q => k.rt g1 H1 v d s1.β st.rel.grow z st.rel.bag st.rel.ft q⟩
theorem vs_retN : VS X (.Return none pos) tRetN sRetN := ⟨ps_retN, fun g0 H0 g s σ H D D' r p k => k.rt g H .non .none s.β r.grow .non r.bag r.ft p⟩
theorem vs_expr (h : VE X e te de) (hs : swapsWith e none pos.line X.env = pure false := by rfl) : VS X (.Expr e pos) (tDrop te) (sDrop de) := ⟨ps_expr h.pe hs, fun g0 H0 g s σ H D D' r p k =>
  h.adq g0 H0 g s σ H _ _ r p fun v H1 g1 s1 d st z q => k.nx g1 s1 σ H1 st.rel (st.stay r) q⟩
theorem vs_if (hc : VT X c tt dt') (ha : VB X a t dt) (hb : VB X b u du) : VS X (.If c a b pos) (tIfS tt t u) (sIf dt' dt du) := ⟨ps_if hc.pt ha.pss hb.pss, fun g0 H0 g s σ H D D' r p k =>
  hc.adq g0 H0 g s σ H _ _ r p fun w H1 g1 s1 st q => by
    cases w with
    | true => exact ha.adq g0 H0 g1 s1 σ H1 D D' st.rel q (k.later (st.stay r))
    | false => exact hb.adq g0 H0 g1 s1 σ H1 D D' st.rel q (k.later (st.stay r))⟩
theorem adq_asg (h : AdqE K te de) (hg : AdqG K L g bg) : AdqS K (tAsg te g) (sAsg de bg) := fun g0 H0 g s σ H D D' r p k =>
  h g0 H0 g s σ H _ _ r p fun v H1 g1 s1 d st z q => hg g0 H0 g1 s1 σ H1 v d _ _ st.rel z q fun σ2 s2 r2 _ _ _ _ q2 => k.nx g1 s2 σ2 H1 r2 (st.stay r) q2
theorem adq_own (i : Nat) (h : AdqO K te de) : AdqS K (tAsg te (gName i)) (sOwn de i) := fun g0 H0 g s σ H D D' r p k =>
  h g0 H0 g s σ H _ _ r p fun a H1 g1 s1 d st n q => k.nx g1 _ _ H1 (st.rel.stoO n) (st.stay r) q
theorem vs_set {i : Nat} {x : Str} {pos' : Pos} (h : AdqE X.K te de) (hp : PS X (.Assign [.Name x pos'] e pos) (tAsg te (gName i))) : VS X (.Assign [.Name x pos'] e pos) (tAsg te (gName i)) (sAsg de (bName i)) := ⟨hp, adq_asg h (adq_name i)⟩
theorem vs_own {i : Nat} {x : Str} {pos' : Pos} (h : AdqO X.K te de) (hp : PS X (.Assign [.Name x pos'] e pos) (tAsg te (gName i))) : VS X (.Assign [.Name x pos'] e pos) (tAsg te (gName i)) (sOwn de i) := ⟨hp, adq_own i h⟩
theorem vs_asg {tg : Expr} (he : VE X e te de) (hg : VG X tg L g bg) (hs : swapsWithSole [tg] e pos.line X.env = pure false := by rfl) (hw : swappedStores [tg] e X.env = pure none := by rfl)
    (h1 : (assignEach [tg] X.env).map (·.2) = [assign tg X.env] := by rfl) : VS X (.Assign [tg] e pos) (tAsg te g) (sAsg de bg) := ⟨ps_asg he.pe hg.pg hs hw h1, adq_asg he.adq hg.adq⟩
/-! ### for -/
def forW (b : DG) (body : DS) (D : DEnds) : List PyData → S → Prop
  | [], s => D.nx s
  | d :: ds, s => b d s fun s' => body { D with nx := forW b body D ds, ct := forW b body D ds, bk := D.nx } s'
def sFor (di : DI) (b : DG) (body : DS) : DS := fun D s => di s fun ds s1 => forW b body D ds s1
theorem adq_for {wi : TI} {di : DI} (hi : AdqI K wi di) (hg : AdqG K L g bg) (hb : AdqS K t dt) : AdqS K (tFor wi g t) (sFor di bg dt) := fun g0 H0 gs s σ H D D' r p k =>
  hi g0 H0 gs s σ H _ _ r p fun J H1 g1 s1 ds G st w q0 per p1 => by
    refine ⟨fun i m σ2 H2 => ∃ gi si, Rel K g0 H0 gi si σ2 H2 ∧ Stay gs H gi H2 ∧ G gi H2 ∧ i ≤ ds.length ∧ m = ds.length - i ∧ forW bg dt D (ds.drop i) si, ⟨_, g1, s1, st.rel, st.stay r, q0, Nat.zero_le _, rfl, p1⟩, ?_⟩
    rintro i m σ2 H2 ⟨gi, si, ri, yi, qi, hi, rfl, pi⟩
    by_cases hl : i < ds.length
    · refine .inr ⟨w.go i gi H2 hl qi, fun σ' H' => ∃ gi si, Rel K g0 H0 gi si σ' H' ∧ Stay gs H gi H' ∧ G gi H' ∧ forW bg dt D (ds.drop (i + 1)) si, ?_, ?_⟩
      · rintro σ' H' ⟨gj, sj, rj, yj, qj, pj⟩
        exact ⟨ds.length - (i + 1), by omega, gj, sj, rj, yj, qj, hl, rfl, pj⟩
      · intro x H3 y
        obtain ⟨g3, d, f, e, z⟩ := w.yl i gi H2 x H3 hl qi y
        have r3 := (f.step ri).rel
        have ed : ds.drop i = d :: ds.drop (i + 1) := by
          rw [List.drop_eq_getElem_cons hl]
          congr 1
          rw [List.getElem?_eq_getElem hl] at e
          exact Option.some.inj e
        rw [ed] at pi
        refine hg g0 H0 g3 si σ2 H3 x d _ _ r3 z pi fun σ4 s4 r4 _ _ _ _ p4 => ?_
        refine hb g0 H0 g3 s4 σ4 H3 _ _ r4 p4 ⟨fun g5 s5 σ5 H5 r5 y5 p5 => ?_, fun g5 s5 σ5 H5 r5 y5 p5 => ?_, fun g5 s5 σ5 H5 r5 y5 p5 => ?_, k.rt⟩
        · exact ⟨g5, s5, r5, (yi.trans f.stay).trans y5, per _ _ _ _ (f.stay.trans y5) qi, p5⟩
        · exact k.nx g5 s5 σ5 H5 r5 ((yi.trans f.stay).trans y5) p5
        · exact ⟨g5, s5, r5, (yi.trans f.stay).trans y5, per _ _ _ _ (f.stay.trans y5) qi, p5⟩
    · have e : i = ds.length := by omega
      subst e
      rw [List.drop_length] at pi
      exact .inl ⟨w.st gi H2 qi, k.nx gi si σ2 H2 ri yi pi⟩
theorem vs_for {tg iter : Expr} {body : List Stmt} {wi : TI} {di : DI} (hp : PassesOwn (model X.prog X.w) X.A X.env X.xe) (hc : X.calm = true) (hi : VI X tg iter wi di) (hg : VG X tg L g bg) (hb : VB X body t dt)
    (hs : ∀ x, foldedSetIterable iter X.env x = pure x := by intro _; rfl) : VS X (.For tg iter body [] pos) (tFor wi g t) (sFor di bg dt) := ⟨ps_for hp hc hi.pi hg.pg hb.pss hs, adq_for hi.adq hg.adq hb.adq⟩
/-! ### while -/
def whileN (c : DT) (body : DS) (D : DEnds) : Nat → S → Prop
  | 0, _ => False
  | n + 1, s => c s fun b s1 => if b = true then body { D with nx := whileN c body D n, ct := whileN c body D n, bk := D.nx } s1 else D.nx s1
def sWhile (c : DT) (body : DS) : DS := fun D s => ∃ n, whileN c body D n s
theorem adq_while (hc : AdqT K tt dt') (hb : AdqS K t dt) : AdqS K (tWhile tt t) (sWhile dt' dt) := fun g0 H0 gs s σ H D D' r p k => by
  obtain ⟨n, p⟩ := p
  refine ⟨fun m σ2 H2 => ∃ gi si, Rel K g0 H0 gi si σ2 H2 ∧ Stay gs H gi H2 ∧ whileN dt' dt D m si, ⟨n, gs, s, r, .refl, p⟩, ?_⟩
  rintro m σ2 H2 ⟨gi, si, ri, yi, pi⟩
  cases m with
  | zero => exact pi.elim
  | succ m =>
    refine hc g0 H0 gi si σ2 H2 _ _ ri pi fun b H3 g3 s3 st p3 => ?_
    cases b with
    | false => exact k.nx g3 s3 σ2 H3 st.rel (yi.trans (st.stay ri)) p3
    | true =>
      refine ⟨fun σ' H' => ∃ gi si, Rel K g0 H0 gi si σ' H' ∧ Stay gs H gi H' ∧ whileN dt' dt D m si, fun σ' H' q => ⟨m, Nat.lt_succ_self m, q⟩, ?_⟩
      refine hb g0 H0 g3 s3 σ2 H3 _ _ st.rel p3 ⟨fun g5 s5 σ5 H5 r5 y5 p5 => ⟨g5, s5, r5, (yi.trans (st.stay ri)).trans y5, p5⟩, fun g5 s5 σ5 H5 r5 y5 p5 => k.nx g5 s5 σ5 H5 r5 ((yi.trans (st.stay ri)).trans y5) p5, fun g5 s5 σ5 H5 r5 y5 p5 => ⟨g5, s5, r5, (yi.trans (st.stay ri)).trans y5, p5⟩, k.rt⟩
theorem vs_while {body : List Stmt} (hp : PassesOwn (model X.prog X.w) X.A X.env X.xe) (hc : VT X c tt dt') (hb : VB X body t dt) : VS X (.While c body [] pos) (tWhile tt t) (sWhile dt' dt) := ⟨ps_while hp hc.pt hb.pss, adq_while hc.adq hb.adq⟩
end
end VS
namespace VS
open PySem PySem.Spec L2
open PyProof.Rows hiding St

/-! ### comprehensions -/
def wipeS (ρ : List Slot) : List Nat → List Slot
  | [] => ρ
  | v :: vs => (wipeS ρ vs).set v .un
theorem wipeS_length (ρ : List Slot) : ∀ vs, (wipeS ρ vs).length = ρ.length
  | [] => rfl
  | v :: vs => by simp [wipeS, wipeS_length ρ vs]
theorem wipeS_get (ρ : List Slot) (j : Nat) : ∀ vs, (wipeS ρ vs)[j]? = if j ∈ vs ∧ j < ρ.length then some .un else ρ[j]?
  | [] => by simp [wipeS]
  | v :: vs => by
    unfold wipeS
    by_cases h : j = v
    · subst h
      by_cases hl : j < ρ.length
      · rw [List.getElem?_set_self (by rw [wipeS_length]; exact hl)]
        simp [hl]
      · rw [List.getElem?_eq_none (by simp [wipeS_length]; omega)]
        simp [hl]
    · rw [List.getElem?_set_ne (Ne.symm h), wipeS_get ρ j vs]
      simp [h]
theorem wipe_get (σ : St) (j : Nat) : ∀ vs, (wipe σ vs)[j]? = if j ∈ vs ∧ j < σ.length then some none else σ[j]?
  | [] => by simp [wipe]
  | v :: vs => by
    unfold wipe
    by_cases h : j = v
    · subst h
      by_cases hl : j < σ.length
      · rw [List.getElem?_set_self (by rw [wipe_length]; exact hl)]
        simp [hl]
      · rw [List.getElem?_eq_none (by simp [wipe_length]; omega)]
        simp [hl]
    · rw [List.getElem?_set_ne (Ne.symm h), wipe_get σ j vs]
      simp [h]
theorem wipe_back {σ σ' : St} {L vs : List Nat} (h : SetBy L (wipe σ vs) σ') (hs : ∀ j ∈ L, j ∈ vs) : wipe σ' vs = wipe σ vs := by
  apply List.ext_getElem?
  intro j
  have hl : σ'.length = σ.length := by rw [h.1, wipe_length]
  rw [wipe_get, wipe_get, hl]
  by_cases hj : j ∈ vs
  · by_cases hk : j < σ.length
    · simp [hj, hk]
    · rw [if_neg (fun z => hk z.2), if_neg (fun z => hk z.2), List.getElem?_eq_none (by omega), List.getElem?_eq_none (by omega)]
  · rw [if_neg (fun z => hj z.1), if_neg (fun z => hj z.1), h.2 j fun z => hj (hs j z), wipe_get, if_neg (fun z => hj z.1)]
def lcW (own : List Nat) (b : DG) (tt : DT) (te : DE) (ρ : List Slot) (P : List PyData → S → Prop) : List PyData → List PyData → Bag → Prop
  | [], acc, β => P acc ⟨ρ, β⟩
  | d :: ds, acc, β => b d ⟨wipeS ρ own, β⟩ fun s2 => tt s2 fun c s3 =>
    if c = true then te s3 fun y s4 => acc.length < sizeLine ∧ s4.ρ = s2.ρ ∧ lcW own b tt te ρ P ds (acc ++ [y]) s4.β else s3.ρ = s2.ρ ∧ lcW own b tt te ρ P ds acc s3.β
def dLc (own : List Nat) (di : DI) (b : DG) (tt : DT) (te : DE) : DE := fun s P => di s fun ds s1 => lcW own b tt te s1.ρ (fun out s2 => P (.list out) s2) ds [] s1.β
/-- over a slot's own list -/
def dLcB (own : List Nat) (i : Nat) (b : DG) (tt : DT) (te : DE) : DE := fun s P => match s.ρ[i]? with
  | some (.ow (.list ds)) => lcW own b tt te s.ρ (fun out s2 => P (.list out) s2) ds [] s.β
  | _ => False
section
variable {K : PySem.W.Frag} {g0 g g1 g2 : Gh} {H0 H H1 H2 : Hp} {s s1 s2 : S} {σ : St}
theorem Ext.at {a : Addr} {o : HO} {T : Addr → Prop} (h : T a) (hn : H a ≠ none) : Ext T g H g (upd H a o) :=
  ⟨fun b u e n => by rw [upd_ne (by rintro rfl; exact n h)]; exact e, fun b n => by
    by_cases q : b = a
    · rw [q, upd_same]
      exact fun z => by cases z
    · rw [upd_ne q]
      exact n, fun _ f => f, fun _ f n => absurd f n, fun _ f n => absurd f n, fun _ e => e, fun _ _ e n => by rw [n] at e; cases e⟩
theorem own_wipe {ρ : List Slot} {vs : List Nat} {a : Addr} (h : OwnC (wipeS ρ vs) (wipe σ vs) a) : ∃ (j : Nat) (d : PyData), j ∉ vs ∧ ρ[j]? = some (Slot.ow d) ∧ σ[j]? = some (some (V.ref a)) := by
  obtain ⟨j, d, h1, h2⟩ := h
  rw [wipeS_get] at h1
  rw [wipe_get] at h2
  split at h1
  · cases h1
  · rename_i n
    split at h2
    · cases h2
    · rename_i n2
      refine ⟨j, d, fun z => n ⟨z, (List.getElem?_eq_some_iff.mp h1).1⟩, h1, h2⟩
theorem lc_main {J : It} {G : Gh → Hp → Prop} {ds : List PyData} {L vs : List Nat} {gt : TG} {b : DG} {tt : TT} {dt : DT} {te : TE} {de : DE} {D : Addr} {P : List PyData → S → Prop} {Q : VK} (r : Rel K g0 H0 g s σ H) (w : WalkD K J G ds) (q0 : G g H)
    (per : ∀ ga Ha gb β Hb, G ga Ha → Stay ga Ha gb Hb → Rel K g0 H0 gb ⟨s.ρ, β⟩ σ Hb → G gb Hb) (hg : AdqG K L gt b) (hL : ∀ j ∈ L, j ∈ vs) (ht : AdqT K tt dt) (he : AdqE K te de) (hD : H D = none)
    (p : lcW vs b dt de s.ρ P ds [] s.β)
    (k : ∀ H' g' β' acc, Step K g0 H0 g s σ H g' ⟨s.ρ, β'⟩ H' → NewAt K H0 g' ⟨s.ρ, β'⟩ σ H H' D (.list acc) → P acc ⟨s.ρ, β'⟩ → Q (.ref D) H') :
    ∃ W : Nat → Nat → Hp → Prop, (∃ m, W 0 m (upd H D (.lst []))) ∧ ∀ i m H, W i m H →
      (J.stop i H ∧ Q (.ref D) H) ∨ (J.go i H ∧ ∃ Nx : Hp → Prop, (∀ H', Nx H' → ∃ m', m' < m ∧ W (i + 1) m' H') ∧ ∀ x H', J.yld i H x H' → gt x (wipe σ vs) H' fun σ2 H2 => wipe σ2 vs = wipe σ vs ∧ tt σ2 H2 fun b H3 =>
        if b = true then te σ2 H3 fun y H4 => ∃ acc, H4 D = some (.lst acc) ∧ acc.length < sizeLine ∧ Nx (upd H4 D (.lst (acc ++ [y]))) else Nx H3) := by
  have dF : ¬ g.F D := fun f => r.ft D f hD
  have dB : ¬ BagC g D := fun z => mutSome (r.bag.mut z) hD
  have dO : ¬ OwnC s.ρ σ D := fun z => by
    obtain ⟨e, q⟩ := r.ownAt z
    exact mutSome q.mut hD
  have d0 : H0 D = none := none_root r hD
  let T : Addr → Prop := fun a => Touch g s.ρ σ a ∨ a = D
  let St_ : Nat → Nat → Hp → Prop := fun i m H' => ∃ gi β accV acc, Rel K g0 H0 gi ⟨s.ρ, β⟩ σ H' ∧ Ext T g (upd H D (.lst [])) gi H' ∧ H' D = some (.lst accV) ∧ SeesAll K gi H' accV acc ∧ ¬ gi.F D ∧ G gi H' ∧ i ≤ ds.length ∧ m = ds.length - i ∧ lcW vs b dt de s.ρ P (ds.drop i) acc β
  have f0 : Fresh g H g (upd H D (.lst [])) := .laid hD
  have r0 : Rel K g0 H0 g s σ (upd H D (.lst [])) := (f0.step r).rel
  refine ⟨St_, ⟨_, g, s.β, [], [], r0, .refl, upd_same, .nil, dF, per _ _ _ s.β _ q0 f0.stay r0, Nat.zero_le _, rfl, p⟩, ?_⟩
  rintro i m H2 ⟨gi, β, accV, acc, ri, xi, hDi, zi, nFi, qi, hi, rfl, pi⟩
  have nBi : ¬ BagC gi D := fun z => by
    rcases xi.bagc z with z | z
    · exact dB z
    · rw [upd_same] at z; cases z
  by_cases hl : i < ds.length
  · refine .inr ⟨w.go i gi H2 hl qi, St_ (i + 1) (ds.length - (i + 1)), fun H' q => ⟨_, by omega, q⟩, fun x H3 y => ?_⟩
    obtain ⟨g3, d, f, e, z⟩ := w.yl i gi H2 x H3 hl qi y
    have st3 := f.step ri
    have r3 := st3.rel
    have ed : ds.drop i = d :: ds.drop (i + 1) := by
      rw [List.drop_eq_getElem_cons hl]
      congr 1
      rw [List.getElem?_eq_getElem hl] at e
      exact Option.some.inj e
    rw [ed] at pi
    have hD3 : H3 D = some (.lst accV) := f.ext.keep D _ hDi fun z => z
    have nF3 : ¬ g3.F D := fun z => by
      rcases f.ext.new D z nFi with h | h
      · rw [hDi] at h; cases h
      · exact h
    have nB3 : ¬ BagC g3 D := fun z => nBi (f.bagc.mp z)
    have rw' : Rel K g0 H0 g3 ⟨wipeS s.ρ vs, β⟩ (wipe σ vs) H3 := r3.forget (s := ⟨s.ρ, β⟩) (by rw [wipeS_length, wipe_length]; exact r3.len) fun j sl h => by
      rw [wipeS_get] at h
      split at h
      · cases h
        exact .inl rfl
      · rename_i n
        refine .inr ⟨h, ?_⟩
        rw [wipe_get, if_neg]
        intro z
        exact n ⟨z.1, (List.getElem?_eq_some_iff.mp h).1⟩
    refine hg g0 H0 g3 ⟨wipeS s.ρ vs, β⟩ (wipe σ vs) H3 x d _ _ rw' z pi fun σ2 s2 r2 b1 b2 b3 b4 p2 => ⟨wipe_back b1 hL, ?_⟩
    have own2 : ∀ a, OwnC s2.ρ σ2 a → ∃ (j : Nat) (d : PyData), j ∉ vs ∧ s.ρ[j]? = some (Slot.ow d) ∧ σ[j]? = some (some (V.ref a)) := fun a h => own_wipe (b4 a h)
    have own2' : ∀ a, OwnC s2.ρ σ2 a → OwnC s.ρ σ a := fun a h => by
      obtain ⟨j, d, _, h1, h2⟩ := own2 a h
      exact ⟨j, d, h1, h2⟩
    have nT : ¬ Touch g3 s2.ρ σ2 D := fun h => by
      rcases h with h | h
      · exact nB3 h
      · exact dO (own2' D h)
    -- behind the turn's expressions
    have fin : ∀ {g5 : Gh} {s5 : S} {H5 : Hp}, Step K g0 H0 g3 s2 σ2 H3 g5 s5 H5 → s5.ρ = s2.ρ →
        Rel K g0 H0 g5 ⟨s.ρ, s5.β⟩ σ H5 ∧ Ext T g (upd H D (.lst [])) g5 H5 ∧ H5 D = some (.lst accV) ∧ ¬ g5.F D ∧ ¬ BagC g5 D ∧ Stay gi H2 g5 H5 ∧ Stay g3 H3 g5 H5 := by
      intro g5 s5 H5 st5 es
      have y35 := st5.stay r2
      have kp : ∀ a, OwnC s.ρ σ a → ¬ OwnC s2.ρ σ2 a → ∀ u, H3 a = some u → H5 a = some u := fun a h n u hu => st5.ext.keep a u hu fun t => by
        rcases t with t | t
        · exact (r3.nf a h).2.1 t
        · exact n t
      refine ⟨⟨r3.len, fun j sl h => ?_, r3.apart, fun a h => ?_, st5.rel.bag, st5.rel.grow, st5.rel.ft⟩, ?_, st5.ext.keep D _ hD3 nT, fun h => ?_, fun h => ?_, f.stay.trans y35, y35⟩
      · by_cases hj : j ∈ vs
        · refine (r3.slot j sl h).stay y35 fun a ⟨d, h1, h2⟩ u hu => ?_
          subst h1
          refine kp a ⟨j, d, h, h2⟩ (fun o => ?_) u hu
          obtain ⟨k, d', hk, h3, h4⟩ := own2 a o
          have := r3.apart j k d d' a h h3 h2 h4
          subst this
          exact hk hj
        · have hj2 : j ∉ L := fun z => hj (hL j z)
          have e1 : s5.ρ[j]? = some sl := by
            rw [es, b2.2 j hj2]
            show (wipeS s.ρ vs)[j]? = some sl
            rw [wipeS_get, if_neg (fun z => hj z.1)]
            exact h
          have e2 : σ2[j]? = σ[j]? := by rw [b1.2 j hj2, wipe_get, if_neg (fun z => hj z.1)]
          rw [← e2]
          exact st5.rel.slot j sl e1
      · obtain ⟨h1, h2, h3⟩ := r3.nf a h
        have tr : H3 a ≠ none := by
          obtain ⟨d, q⟩ := r3.ownAt h
          exact mutSome q.mut
        refine ⟨fun z => ?_, fun z => ?_, h3⟩
        · by_cases o : OwnC s2.ρ σ2 a
          · exact (st5.rel.nf a (by rw [es]; exact o)).1 z
          · rcases st5.ext.new a z h1 with q | q | q
            · exact tr q
            · exact h2 q
            · exact o q
        · rcases st5.ext.bagc z with q | q
          · exact h2 q
          · exact tr q
      · refine (xi.trans f.ext fun _ z => z.elim).trans st5.ext fun a t => ?_
        rcases t with t | t
        · rcases xi.bagc (f.bagc.mp t) with q | q
          · exact .inl (.inl (.inl q))
          · exact .inr q
        · exact .inl (.inl (.inr (own2' a t)))
      · rcases st5.ext.new D h nF3 with q | q
        · rw [hD3] at q; cases q
        · exact nT q
      · rcases st5.ext.bagc h with q | q
        · exact nB3 q
        · rw [hD3] at q; cases q
    refine ht g0 H0 g3 s2 σ2 H3 _ _ r2 p2 fun c H4 g4 s4 st4 p4 => ?_
    cases c with
    | false =>
      obtain ⟨es, p4⟩ := p4
      obtain ⟨r5, x5, h5, n5, _, y5, y35⟩ := fin st4 es
      exact ⟨g4, s4.β, accV, acc, r5, x5, h5, SeesAll.stay y5 zi, n5, per _ _ _ _ _ qi y5 r5, hl, rfl, p4⟩
    | true =>
      refine he g0 H0 g4 s4 σ2 H4 _ _ st4.rel p4 fun v H5 g5 s5 d5 st5 z5 p5 => ?_
      obtain ⟨hz, es, p5⟩ := p5
      obtain ⟨r5, x5, h5, n5, nb5, y5, y35⟩ := fin (st4.trans st5) es
      have al := SeesAll.stay y5 zi
      refine ⟨accV, h5, by rw [al.length]; exact hz, g5, s5.β, accV ++ [v], acc ++ [d5], ?_, ?_, upd_same, ?_, n5, ?_, hl, rfl, p5⟩
      · exact r5.upd (by rw [h5]; trivial) n5 nb5 dO d0
      · exact x5.trans (Ext.at (T := fun a => a = D) rfl (by rw [h5]; exact fun z => by cases z)) fun a z => .inl (.inr z)
      · exact (SeesAll.stay (Stay.upd (by rw [h5]; trivial) n5) al).app (.cons (z5.stay (Stay.upd (by rw [h5]; trivial) n5)) .nil)
      · exact per _ _ _ _ _ qi (y5.trans (Stay.upd (by rw [h5]; trivial) n5)) (r5.upd (by rw [h5]; trivial) n5 nb5 dO d0)
  · have e : i = ds.length := by omega
    subst e
    rw [List.drop_length] at pi
    refine .inl ⟨w.st gi H2 qi, k H2 gi β acc ⟨ri, ?_, fun _ h => h⟩ ⟨.inl ⟨accV, acc, rfl, hDi, zi⟩, nFi, nBi, hD, dO, d0⟩ pi⟩
    refine ⟨fun a u h n => ?_, fun a n => ?_, xi.mono, fun a h n => ?_, xi.newt, xi.bag, fun x y h n => ?_⟩
    · have ne : a ≠ D := by
        rintro rfl
        rw [hD] at h; cases h
      exact xi.keep a u (by rw [upd_ne ne]; exact h) fun t => by
        rcases t with t | t
        · exact n t
        · exact ne t
    · by_cases ne : a = D
      · subst ne
        rw [hDi]
        exact fun z => by cases z
      · exact xi.there a (by rw [upd_ne ne]; exact n)
    · rcases xi.new a h n with q | q | q
      · by_cases ne : a = D
        · subst ne
          exact .inl hD
        · rw [upd_ne ne] at q
          exact .inl q
      · exact .inr q
      · subst q
        exact .inl hD
    · obtain ⟨h1, h2⟩ := xi.bagn x y h n
      have back : ∀ a, (upd H D (.lst [])) a = none → H a = none := fun a q => by
        by_cases ne : a = D
        · subst ne
          rw [upd_same] at q; cases q
        · rw [upd_ne ne] at q
          exact q
      exact ⟨back _ h1, back _ h2⟩
theorem adq_lc {wi : TI} {di : DI} {L vs : List Nat} {gt : TG} {b : DG} {tt : TT} {dt : DT} {te : TE} {de : DE} (hi : AdqI K wi di) (hg : AdqG K L gt b) (hL : ∀ j ∈ L, j ∈ vs) (ht : AdqT K tt dt) (he : AdqE K te de) : AdqO K (tLc wi gt tt te vs) (dLc vs di b dt de) := fun g0 H0 g s σ H P Q r p k =>
  hi g0 H0 g s σ H _ _ r p fun J H1 g1 s1 ds G st w q0 per p1 D hD => by
    refine lc_main st.rel w q0 (fun ga Ha gb β Hb q y _ => per ga Ha gb Hb y q) hg hL ht he hD p1 fun H' g' β' acc st' n p' => k D H' g' _ _ (st.trans st') ?_ p'
    obtain ⟨n1, n2, n3, n4, n5, n6⟩ := n
    exact ⟨n1, n2, n3, none_back st n4, n5, n6⟩
theorem adq_lcB {wi : TI} {i : Nat} {L vs : List Nat} {gt : TG} {b : DG} {tt : TT} {dt : DT} {te : TE} {de : DE} (hi : AdqB K wi i) (hg : AdqG K L gt b) (hL : ∀ j ∈ L, j ∈ vs) (ht : AdqT K tt dt) (he : AdqE K te de) : AdqO K (tLc wi gt tt te vs) (dLcB vs i b dt de) := by
  intro g0 H0 g s σ H P Q r p k
  unfold dLcB at p
  split at p
  · rename_i ds e
    refine hi g0 H0 g s σ H _ ds r e fun J a ea w D hD => ?_
    have q0 : ∀ gb β Hb, Rel K g0 H0 gb ⟨s.ρ, β⟩ σ Hb → ∃ xs, Hb a = some (.lst xs) ∧ SeesAll K gb Hb xs ds := fun gb β Hb rb => by
      obtain ⟨a', e', q⟩ := rb.slot i _ e
      rw [ea] at e'
      cases e'
      rcases q with ⟨xs, es, h1, h2, h3⟩ | ⟨ks, kvs, h1, _⟩ | ⟨ks, kvs, h1, _⟩
      · cases h1
        exact ⟨xs, h2, h3⟩
      · cases h1
      · cases h1
    exact lc_main r w (q0 g s.β H r) (fun ga Ha gb β Hb q y rb => q0 gb β Hb rb) hg hL ht he hD p fun H' g' β' acc st' n p' => k D H' g' _ _ st' n p'
  · exact p.elim
end
end VS
namespace VS
open PySem PySem.Spec L2
open PyProof.Rows hiding St

structure VTs (X : Cx) (ifs : List Expr) (tt : TT) (dt : DT) : Prop where
  pts : PTs X ifs tt
  adq : AdqT X.K tt dt
def dYes : DT := fun s P => P true s
theorem vts_nil {X : Cx} : VTs X [] tYes dYes := ⟨pts_nil, fun g0 H0 g s σ H P Q r p k => k true H g s (.refl r) p⟩
theorem vts_one {X : Cx} {c : Expr} {tt : TT} {dt : DT} (h : VT X c tt dt) : VTs X [c] tt dt := ⟨pts_one h.pt, h.adq⟩
section
variable {X : Cx} {elt tg iter : Expr} {ifs : List Expr} {scope : Scope} {own : List (Str × Nat)} {pos spos : Pos} {wi : TI} {di : DI} {L : List Nat} {g : TG} {b : DG} {tt : TT} {dt : DT} {te : TE} {de : DE}
/-- a family over a comprehension's blocks -/
abbrev Blk (X : Cx) (scope : Scope) (f : Cx → Prop) : Prop := ∀ (s : Shared) (H : Hp) (C : Addr) (cl : List (Str × Addr)) (fp : List Addr), f (X.blk s H scope (compEnvC scope cl C X.env) fp)
theorem v_lc (hc : X.calm = true) (hN : X.N.Nodup) (hi : VI X tg iter wi di) (ok : BlkOk X.N X.env.scope scope own) (hg : Blk X scope fun Y => VG Y tg L g b) (ht : Blk X scope fun Y => VTs Y ifs tt dt) (he : Blk X scope fun Y => VE Y elt te de)
    (hL : (L.all fun j => (own.map (·.2)).contains j) = true := by rfl) (hs : ∀ x, foldedSetIterable iter X.env x = pure x := by intro _; rfl) : VO X (.ListComp elt [⟨tg, iter, ifs, 0⟩] scope pos) (tLc wi g tt te (own.map (·.2))) (dLc (own.map (·.2)) di b dt de) :=
  ⟨pe_lc hc hN hi.pi ok (fun s H C cl fp => (hg s H C cl fp).pg) (fun s H C cl fp => (ht s H C cl fp).pts) (fun s H C cl fp => (he s H C cl fp).pe) hs,
    adq_lc hi.adq (hg X.s_0 X.H_0 0 [] []).adq (fun j hj => by simpa using List.all_eq_true.mp hL j hj) (ht X.s_0 X.H_0 0 [] []).adq (he X.s_0 X.H_0 0 [] []).adq⟩
theorem v_lcB {k : Nat} (hc : X.calm = true) (hN : X.N.Nodup) (hi : PE X iter (tVar k)) (ok : BlkOk X.N X.env.scope scope own) (hg : Blk X scope fun Y => VG Y tg L g b) (ht : Blk X scope fun Y => VTs Y ifs tt dt) (he : Blk X scope fun Y => VE Y elt te de)
    (hL : (L.all fun j => (own.map (·.2)).contains j) = true := by rfl) (hs : ∀ x, foldedSetIterable iter X.env x = pure x := by intro _; rfl) : VO X (.ListComp elt [⟨tg, iter, ifs, 0⟩] scope pos) (tLc (iList X.K (tVar k)) g tt te (own.map (·.2))) (dLcB (own.map (·.2)) k b dt de) :=
  ⟨pe_lc hc hN (pi_list hi) ok (fun s H C cl fp => (hg s H C cl fp).pg) (fun s H C cl fp => (ht s H C cl fp).pts) (fun s H C cl fp => (he s H C cl fp).pe) hs,
    adq_lcB (adqB_list k) (hg X.s_0 X.H_0 0 [] []).adq (fun j hj => by simpa using List.all_eq_true.mp hL j hj) (ht X.s_0 X.H_0 0 [] []).adq (he X.s_0 X.H_0 0 [] []).adq⟩
/-- name = [..], the name a local, on one line -/
theorem ps_lcSet {i : Nat} {y : Str} {py : Pos} (hc : X.calm = true) (hN : X.N.Nodup) (hy : X.N[i]? = some y) (hyl : X.env.scope.names.lookup y = some .local)
    (hsw : swapsWith (.ListComp elt [⟨tg, iter, ifs, 0⟩] scope pos) (some (.Name y py)) spos.line X.env = pure true) (hi : VI X tg iter wi di) (ok : BlkOk X.N X.env.scope scope own) (hg : Blk X scope fun Y => VG Y tg L g b) (ht : Blk X scope fun Y => VTs Y ifs tt dt) (he : Blk X scope fun Y => VE Y elt te de)
    (hs : ∀ x, foldedSetIterable iter X.env x = pure x := by intro _; rfl) : PS X (.Assign [.Name y py] (.ListComp elt [⟨tg, iter, ifs, 0⟩] scope pos) spos) (tAsg (tLc wi g tt te (own.map (·.2))) (gName i)) :=
  ps_setLc hc hN hy hyl hsw hi.pi ok (fun s H C cl fp => (hg s H C cl fp).pg) (fun s H C cl fp => (ht s H C cl fp).pts) (fun s H C cl fp => (he s H C cl fp).pe) hs
/-- the name keeps the new list -/
theorem vs_lcOwn {i : Nat} {y : Str} {py : Pos} (hc : X.calm = true) (hN : X.N.Nodup) (hy : X.N[i]? = some y) (hyl : X.env.scope.names.lookup y = some .local)
    (hsw : swapsWith (.ListComp elt [⟨tg, iter, ifs, 0⟩] scope pos) (some (.Name y py)) spos.line X.env = pure true) (hi : VI X tg iter wi di) (ok : BlkOk X.N X.env.scope scope own) (hg : Blk X scope fun Y => VG Y tg L g b) (ht : Blk X scope fun Y => VTs Y ifs tt dt) (he : Blk X scope fun Y => VE Y elt te de)
    (hL : (L.all fun j => (own.map (·.2)).contains j) = true := by rfl) (hs : ∀ x, foldedSetIterable iter X.env x = pure x := by intro _; rfl) :
    VS X (.Assign [.Name y py] (.ListComp elt [⟨tg, iter, ifs, 0⟩] scope pos) spos) (tAsg (tLc wi g tt te (own.map (·.2))) (gName i)) (sOwn (dLc (own.map (·.2)) di b dt de) i) :=
  ⟨ps_lcSet hc hN hy hyl hsw hi ok hg ht he hs, adq_own i (v_lc (pos := pos) hc hN hi ok hg ht he hL hs).adq⟩
theorem vs_lcSet {i : Nat} {y : Str} {py : Pos} (hc : X.calm = true) (hN : X.N.Nodup) (hy : X.N[i]? = some y) (hyl : X.env.scope.names.lookup y = some .local)
    (hsw : swapsWith (.ListComp elt [⟨tg, iter, ifs, 0⟩] scope pos) (some (.Name y py)) spos.line X.env = pure true) (hi : VI X tg iter wi di) (ok : BlkOk X.N X.env.scope scope own) (hg : Blk X scope fun Y => VG Y tg L g b) (ht : Blk X scope fun Y => VTs Y ifs tt dt) (he : Blk X scope fun Y => VE Y elt te de)
    (hL : (L.all fun j => (own.map (·.2)).contains j) = true := by rfl) (hs : ∀ x, foldedSetIterable iter X.env x = pure x := by intro _; rfl) :
    VS X (.Assign [.Name y py] (.ListComp elt [⟨tg, iter, ifs, 0⟩] scope pos) spos) (tAsg (tLc wi g tt te (own.map (·.2))) (gName i)) (sAsg (dLc (own.map (·.2)) di b dt de) (bName i)) :=
  ⟨ps_lcSet hc hN hy hyl hsw hi ok hg ht he hs, adq_asg (v_lc (pos := pos) hc hN hi ok hg ht he hL hs).adq.e (adq_name i)⟩
end

/-! ### items, slices -/
section
variable {K : PySem.W.Frag}
def dIx : D2 := fun d e P => match d, e with
  | .list ds, .int i => ∃ c, atI ds i = some c ∧ P c
  | .tuple ds, .int i => ∃ c, atI ds i = some c ∧ P c
  | _, _ => False
theorem SeesAll.atI {g : Gh} {H : Hp} {xs : List V} {ds : List PyData} {i : Int} {d : PyData} (h : SeesAll K g H xs ds) (e : L2.atI ds i = some d) : ∃ v, L2.atI xs i = some v ∧ Sees K g H v d := by
  unfold L2.atI at e ⊢
  rw [h.length]
  cases q : ixN ds.length i with
  | none => rw [q] at e; cases e
  | some j =>
    rw [q] at e
    exact SeesAll.at h e
theorem opv_ix : OpV K (rIx K) dIx := by
  intro g H x y d e P Q ft hx hy hr k
  cases d <;> cases e <;> first | exact hr.elim | skip
  · cases hy
    obtain ⟨c, h1, h2⟩ := hr
    cases hx with
    | lst f e a =>
      obtain ⟨v, h3, h4⟩ := a.atI h1
      exact .inl ⟨_, _, _, _, rfl, rfl, .of e, h3, k v _ g c .refl h4 h2⟩
  · cases hy
    obtain ⟨c, h1, h2⟩ := hr
    cases hx with
    | tup e a =>
      obtain ⟨v, h3, h4⟩ := a.atI h1
      exact .inr (.inl ⟨_, _, _, _, rfl, rfl, .of e, h3, k v _ g c .refl h4 h2⟩)
/-- an item of a slot's own list -/
def dIxB (i : Nat) (t : DE) : DE := fun s P => match s.ρ[i]? with
  | some (.ow d) => t s fun e s1 => match s1.ρ[i]? with
    | some (.ow d) => dIx d e fun c => P c s1
    | _ => False
  | some (.sh d) => t s fun e s1 => dIx d e fun c => P c s1
  | _ => False
theorem own_ix {g : Gh} {H : Hp} {a : Addr} {d e : PyData} {y : V} {P : PyData → Prop} {Q : VK} (o : OwnAt K g H a d) (z : Sees K g H y e) (p : dIx d e P) (k : ∀ v c, Sees K g H v c → P c → Q v H) : rIx K (.ref a) y H Q := by
  rcases o with ⟨xs, ds, rfl, h1, h2⟩ | ⟨ks, kvs, rfl, _⟩ | ⟨ks, kvs, rfl, _⟩
  · cases e <;> first | exact p.elim | skip
    cases z
    obtain ⟨c, h3, h4⟩ := p
    obtain ⟨v, h5, h6⟩ := h2.atI h3
    exact .inl ⟨_, _, _, _, rfl, rfl, .of h1, h5, k v c h6 h4⟩
  · exact p.elim
  · exact p.elim
theorem adq_ixB (i : Nat) {te : TE} {t : DE} (h : AdqE K te t) : AdqE K (tOp (rIx K) (tVar i) te) (dIxB i t) := by
  intro g0 H0 g s σ H P Q r p k
  unfold dIxB at p
  split at p
  · rename_i d e
    obtain ⟨a, ea, o⟩ := r.slot i _ e
    refine ⟨_, ea, h g0 H0 g s σ H _ _ r p fun y H1 g1 s1 d1 st z p1 => ?_⟩
    split at p1
    · rename_i d2 e2
      obtain ⟨a', ea', o'⟩ := st.rel.slot i _ e2
      rw [ea] at ea'
      cases ea'
      exact own_ix o' z p1 fun v c z2 p2 => k v H1 g1 s1 c st z2 p2
    · exact p1.elim
  · rename_i d e
    obtain ⟨v, ev, z0⟩ := r.slot i _ e
    refine ⟨v, ev, h g0 H0 g s σ H _ _ r p fun y H1 g1 s1 d1 st z p1 => ?_⟩
    exact opv_ix g1 H1 v y d d1 _ _ st.rel.ft (z0.step r st) z p1 fun v2 H2 g2 c f z2 p2 => k v2 H2 g2 s1 c (st.trans (f.step st.rel)) z2 p2
  · exact p.elim
/-- slices -/
abbrev DO_ := S → (Option Int → S → Prop) → Prop
def AdqP (K : PySem.W.Frag) (tp : TO) (t : DO_) : Prop := ∀ (g0 : Gh) (H0 : Hp) (g : Gh) (s : S) (σ : St) (H : Hp) (P : Option Int → S → Prop) (Q : Option Int → Hp → Prop), Rel K g0 H0 g s σ H → t s P →
  (∀ o H' g' s', Step K g0 H0 g s σ H g' s' H' → P o s' → Q o H') → tp σ H Q
structure VP (X : Cx) (e : Option Expr) (tp : TO) (t : DO_) : Prop where
  po : PO X e tp
  adq : AdqP X.K tp t
def dNoP : DO_ := fun s P => P none s
def dPart (t : DE) : DO_ := fun s P => t s fun d s1 => match d with
  | .int i => P (some i) s1
  | _ => False
theorem vp_none {X : Cx} : VP X none tNoPart dNoP := ⟨po_none, fun g0 H0 g s σ H P Q r p k => k none H g s (.refl r) p⟩
theorem vp_some {X : Cx} {e : Expr} {te : TE} {t : DE} (h : VE X e te t) : VP X (some e) (tPart te) (dPart t) := ⟨po_some h.pe, fun g0 H0 g s σ H P Q r p k =>
  h.adq g0 H0 g s σ H _ _ r p fun v H1 g1 s1 d st z p1 => by
    cases d <;> first | exact p1.elim | skip
    cases z
    exact ⟨_, rfl, k _ H1 g1 s1 st p1⟩⟩
def cutD (xs : List PyData) (lo hi : Option Int) : List PyData := (xs.drop (HT.sIx xs.length 0 lo)).take (HT.sIx xs.length xs.length hi - HT.sIx xs.length 0 lo)
theorem SeesAll.cut {g : Gh} {H : Hp} {xs : List V} {ds : List PyData} (h : SeesAll K g H xs ds) (lo hi : Option Int) : SeesAll K g H (cutV xs lo hi) (cutD ds lo hi) := by
  unfold cutV cutD
  rw [h.length]
  exact (h.dr _).tk _
def dSl (t : DE) (u w : DO_) : DE := fun s P => t s fun d s1 => u s1 fun lo s2 => w s2 fun hi s3 => match d with
  | .list ds => P (.list (cutD ds lo hi)) s3
  | .tuple ds => P (.tuple (cutD ds lo hi)) s3
  | _ => False
/-- of a list, owned -/
def dSlO (t : DE) (u w : DO_) : DE := fun s P => t s fun d s1 => u s1 fun lo s2 => w s2 fun hi s3 => match d with
  | .list ds => P (.list (cutD ds lo hi)) s3
  | _ => False
theorem cut_all {xs : List V} {lo hi : Option Int} (h : HT.sIx xs.length 0 lo = 0 ∧ HT.sIx xs.length xs.length hi = xs.length) : cutV xs lo hi = xs := by
  unfold cutV
  rw [h.1, h.2]
  simp
theorem adq_slO {te : TE} {tl th : TO} {t : DE} {u w : DO_} (h : AdqE K te t) (hl : AdqP K tl u) (hh : AdqP K th w) : AdqO K (tSl (rSlL K) te tl th) (dSlO t u w) := fun g0 H0 g s σ H P Q r p k =>
  h g0 H0 g s σ H _ _ r p fun v H1 g1 s1 d st1 z1 p1 => hl g0 H0 g1 s1 σ H1 _ _ st1.rel p1 fun lo H2 g2 s2 st2 p2 => hh g0 H0 g2 s2 σ H2 _ _ st2.rel p2 fun hi H3 g3 s3 st3 p3 => by
    cases d <;> first | exact p3.elim | skip
    have z3 := (z1.step st1.rel st2).step st2.rel st3
    cases z3 with
    | lst f e a =>
      refine ⟨_, _, rfl, .of e, fun q hq => ?_⟩
      have st := (st1.trans st2).trans st3
      exact k q _ g3 s3 _ (st.laid hq) (st.new hq (.inl ⟨_, _, rfl, upd_same, SeesAll.stay (Fresh.laid hq).stay (a.cut lo hi)⟩)) p3
theorem adq_sl {te : TE} {tl th : TO} {t : DE} {u w : DO_} (h : AdqE K te t) (hl : AdqP K tl u) (hh : AdqP K th w) : AdqE K (tSl (fun x lo hi H Q => rSlL K x lo hi H Q ∨ rSlA K x lo hi H Q) te tl th) (dSl t u w) := fun g0 H0 g s σ H P Q r p k =>
  h g0 H0 g s σ H _ _ r p fun v H1 g1 s1 d st1 z1 p1 => hl g0 H0 g1 s1 σ H1 _ _ st1.rel p1 fun lo H2 g2 s2 st2 p2 => hh g0 H0 g2 s2 σ H2 _ _ st2.rel p2 fun hi H3 g3 s3 st3 p3 => by
    have st := (st1.trans st2).trans st3
    have z3 := (z1.step st1.rel st2).step st2.rel st3
    cases d <;> first | exact p3.elim | skip
    · cases z3 with
      | lst f e a =>
        refine .inl ⟨_, _, rfl, .of e, fun q hq => ?_⟩
        have nw := (st.laid hq).frz (st.new hq (.inl ⟨_, _, rfl, upd_same, SeesAll.stay (Fresh.laid hq).stay (a.cut lo hi)⟩))
        exact k _ _ _ s3 _ nw.1 nw.2 p3
    · cases z3 with
      | tup e a =>
        refine .inr ⟨_, _, rfl, .of e, fun hw => ?_, fun hw q hq => ?_⟩
        · have c := a.cut lo hi
          rw [cut_all hw] at c
          exact k _ H3 g3 s3 _ st (.tup e c) p3
        · exact k _ _ g3 s3 _ (st.laid hq) (.tup upd_same (SeesAll.stay (Fresh.laid hq).stay (a.cut lo hi))) p3
end
section
variable {X : Cx} {a b e : Expr} {ta tb te : TE} {da db de : DE} {pos p2 : Pos} {lo hi : Option Expr} {tl th : TO} {u w : DO_}
theorem v_ix (ha : VE X a ta da) (hb : VE X b tb db) (hs : PlainIx b) : VE X (.Subscript a b pos) (tOp (rIx X.K) ta tb) (dOp dIx da db) := ⟨pe_ix ix_seq ha.pe hb.pe hs, adq_op opv_ix ha.adq hb.adq⟩
/-- x[i], x kept by its slot -/
theorem v_ixB {i : Nat} (ha : PE X a (tVar i)) (hb : VE X b tb db) (hs : PlainIx b) : VE X (.Subscript a b pos) (tOp (rIx X.K) (tVar i) tb) (dIxB i db) := ⟨pe_ix ix_seq ha hb.pe hs, adq_ixB i hb.adq⟩
theorem v_slO (he : VE X e te de) (hl : VP X lo tl u) (hh : VP X hi th w) : VO X (.Subscript e (.Slice lo hi none p2) pos) (tSl (rSlL X.K) te tl th) (dSlO de u w) := ⟨pe_slice sl_list he.pe hl.po hh.po, adq_slO he.adq hl.adq hh.adq⟩
theorem v_sl (he : VE X e te de) (hl : VP X lo tl u) (hh : VP X hi th w) : VE X (.Subscript e (.Slice lo hi none p2) pos) (tSl (fun x lo hi H Q => rSlL X.K x lo hi H Q ∨ rSlA X.K x lo hi H Q) te tl th) (dSl de u w) := ⟨pe_slice (sl_list.or sl_tupA) he.pe hl.po hh.po, adq_sl he.adq hl.adq hh.adq⟩
end

/-! ### built-in calls by values -/
section
variable {K : PySem.W.Frag}
def dLen : D1 := fun ds P => match ds with
  | [.list xs] => P (.int xs.length)
  | [.tuple xs] => P (.int xs.length)
  | _ => False
theorem callv_len : CallV K (fun xs H Q => ∃ p ys, xs = [.ref p] ∧ (SqL K H p ys ∨ SqT K H p ys) ∧ Q (.int ys.length) H) dLen := by
  intro g H xs ds P Q ft z hr k
  unfold dLen at hr
  split at hr
  · cases z with
    | cons a b =>
      cases b
      cases a with
      | lst f e q => exact ⟨_, _, rfl, .inl (.of e), k _ _ g _ .refl (.int _) (by rw [q.length]; exact hr)⟩
  · cases z with
    | cons a b =>
      cases b
      cases a with
      | tup e q => exact ⟨_, _, rfl, .inr (.of e), k _ _ g _ .refl (.int _) (by rw [q.length]; exact hr)⟩
  · exact hr.elim
/-- len of a slot's own list -/
def dLenB (i : Nat) : DE := fun s P => match s.ρ[i]? with
  | some (.ow (.list xs)) => P (.int xs.length) s
  | some (.sh (.list xs)) => P (.int xs.length) s
  | some (.sh (.tuple xs)) => P (.int xs.length) s
  | _ => False
theorem adq_lenB (i : Nat) : AdqE K (tCB (fun xs H Q => ∃ p ys, xs = [.ref p] ∧ (SqL K H p ys ∨ SqT K H p ys) ∧ Q (.int ys.length) H) (tCons (tVar i) tNil)) (dLenB i) := by
  intro g0 H0 g s σ H P Q r p k
  unfold dLenB at p
  split at p
  · rename_i xs e
    obtain ⟨a, ea, o⟩ := r.slot i _ e
    rcases o with ⟨ys, ds, h0, h1, h2⟩ | ⟨ks, kvs, h0, _⟩ | ⟨ks, kvs, h0, _⟩
    · cases h0
      exact ⟨_, ea, _, _, rfl, .inl (.of h1), k _ H g s _ (.refl r) (.int _) (by rw [h2.length]; exact p)⟩
    · cases h0
    · cases h0
  · rename_i xs e
    obtain ⟨v, ev, z⟩ := r.slot i _ e
    cases z with
    | lst f e q => exact ⟨_, ev, _, _, rfl, .inl (.of e), k _ H g s _ (.refl r) (.int _) (by rw [q.length]; exact p)⟩
  · rename_i xs e
    obtain ⟨v, ev, z⟩ := r.slot i _ e
    cases z with
    | tup e q => exact ⟨_, ev, _, _, rfl, .inr (.of e), k _ H g s _ (.refl r) (.int _) (by rw [q.length]; exact p)⟩
  · exact p.elim
def dListOf : D1 := fun ds P => match ds with
  | [.list xs] => P (.list xs)
  | [.tuple xs] => P (.list xs)
  | _ => False
theorem callv_list : CallVO K (fun xs H Q => ∃ p ys, xs = [.ref p] ∧ (SqL K H p ys ∨ SqT K H p ys) ∧ ∀ l, H l = none → Q (.ref l) (upd H l (.lst ys))) dListOf := by
  intro g H xs ds P Q ft z hr k
  unfold dListOf at hr
  split at hr
  · cases z with
    | cons a b =>
      cases b
      cases a with
      | lst f e q => exact ⟨_, _, rfl, .inl (.of e), OpVO.lay (P := P) ft q hr k⟩
  · cases z with
    | cons a b =>
      cases b
      cases a with
      | tup e q => exact ⟨_, _, rfl, .inr (.of e), OpVO.lay (P := P) ft q hr k⟩
  · exact hr.elim
def dTupOf : D1 := fun ds P => match ds with
  | [.list xs] => P (.tuple xs)
  | [.tuple xs] => P (.tuple xs)
  | _ => False
theorem callv_tuple : CallV K (fun xs H Q => ∃ p ys, xs = [.ref p] ∧ ((SqL K H p ys ∧ ∀ l, H l = none → Q (.ref l) (upd H l (.tup ys))) ∨ (SqT K H p ys ∧ Q (.ref p) H))) dTupOf := by
  intro g H xs ds P Q ft z hr k
  unfold dTupOf at hr
  split at hr
  · cases z with
    | cons a b =>
      cases b
      cases a with
      | lst f e q => exact ⟨_, _, rfl, .inl ⟨.of e, OpV.layT (P := P) q hr k⟩⟩
  · cases z with
    | cons a b =>
      cases b
      cases a with
      | tup e q => exact ⟨_, _, rfl, .inr ⟨.of e, k _ _ g _ .refl (.tup e q) hr⟩⟩
  · exact hr.elim
def dAllOf : D1 := fun ds P => ∃ bs : List Bool, ds = [.list (bs.map .bool)] ∧ P (.bool (bs.all id))
def dAnyOf : D1 := fun ds P => ∃ bs : List Bool, ds = [.list (bs.map .bool)] ∧ P (.bool (bs.any id))
def dSumOf : D1 := fun ds P => ∃ ns : List Int, ds = [.list (ns.map .int)] ∧ P (.int ns.sum)
/-- the greatest, the least: whatever it is by these words -/
def dMaxOf : D1 := fun ds P => ∃ ns : List Int, ds = [.list (ns.map .int)] ∧ 0 < ns.length ∧ ∀ m, m ∈ ns → (∀ y, y ∈ ns → y ≤ m) → P (.int m)
def dMinOf : D1 := fun ds P => ∃ ns : List Int, ds = [.list (ns.map .int)] ∧ 0 < ns.length ∧ ∀ m, m ∈ ns → (∀ y, y ∈ ns → m ≤ y) → P (.int m)
theorem one_list {g : Gh} {H : Hp} {xs : List V} {es : List PyData} (z : SeesAll K g H xs [.list es]) : ∃ a ys, xs = [.ref a] ∧ H a = some (.lst ys) ∧ SeesAll K g H ys es := by
  cases z with
  | cons a b =>
    cases b
    cases a with
    | lst f e q => exact ⟨_, _, rfl, e, q⟩
theorem callv_all : CallV K (rAll K) dAllOf := by
  rintro g H xs ds P Q ft z ⟨bs, rfl, p⟩ k
  obtain ⟨a, ys, rfl, e, q⟩ := one_list z
  have := q.bls
  subst this
  exact ⟨a, bs, rfl, .of e, k _ _ g _ .refl (.bl _) p⟩
theorem callv_any : CallV K (rAny K) dAnyOf := by
  rintro g H xs ds P Q ft z ⟨bs, rfl, p⟩ k
  obtain ⟨a, ys, rfl, e, q⟩ := one_list z
  have := q.bls
  subst this
  exact ⟨a, bs, rfl, .of e, k _ _ g _ .refl (.bl _) p⟩
theorem callv_sum : CallV K (rSum K) dSumOf := by
  rintro g H xs ds P Q ft z ⟨bs, rfl, p⟩ k
  obtain ⟨a, ys, rfl, e, q⟩ := one_list z
  have := q.ints
  subst this
  exact ⟨a, bs, rfl, .of e, k _ _ g _ .refl (.int _) p⟩
theorem callv_max : CallV K (rMax K) dMaxOf := by
  rintro g H xs ds P Q ft z ⟨bs, rfl, hl, p⟩ k
  obtain ⟨a, ys, rfl, e, q⟩ := one_list z
  have := q.ints
  subst this
  exact ⟨a, bs, rfl, .of e, hl, fun m h1 h2 => k _ _ g _ .refl (.int _) (p m h1 h2)⟩
theorem callv_min : CallV K (rMin K) dMinOf := by
  rintro g H xs ds P Q ft z ⟨bs, rfl, hl, p⟩ k
  obtain ⟨a, ys, rfl, e, q⟩ := one_list z
  have := q.ints
  subst this
  exact ⟨a, bs, rfl, .of e, hl, fun m h1 h2 => k _ _ g _ .refl (.int _) (p m h1 h2)⟩
def dAbs : D1 := fun ds P => match ds with
  | [.int i] => P (.int (if i < 0 then -i else i))
  | _ => False
theorem callv_abs : CallV K (fun xs H Q => ∃ i, xs = [.int i] ∧ Q (.int (if i < 0 then -i else i)) H) dAbs := by
  intro g H xs ds P Q ft z hr k
  unfold dAbs at hr
  split at hr
  · cases z with
    | cons a b =>
      cases b
      cases a
      exact ⟨_, rfl, k _ _ g _ .refl (.int _) hr⟩
  · exact hr.elim
def dInt : D1 := fun ds P => match ds with
  | [.int i] => P (.int i)
  | [.bool b] => P (.int (if b then 1 else 0))
  | _ => False
theorem callv_int : CallV K (fun xs H Q => (∃ i, xs = [.int i] ∧ Q (.int i) H) ∨ ∃ k, xs = [.bl k] ∧ Q (.int (if k then 1 else 0)) H) dInt := by
  intro g H xs ds P Q ft z hr k
  unfold dInt at hr
  split at hr
  · cases z with
    | cons a b =>
      cases b
      cases a
      exact .inl ⟨_, rfl, k _ _ g _ .refl (.int _) hr⟩
  · cases z with
    | cons a b =>
      cases b
      cases a
      exact .inr ⟨_, rfl, k _ _ g _ .refl (.int _) hr⟩
  · exact hr.elim
/-- isinstance(x, T) -/
def tyD : PyData → String
  | .none => "NoneType"
  | .bool _ => "bool"
  | .int _ => "int"
  | .str _ => "str"
  | .list _ => "list"
  | .tuple _ => "tuple"
  | .dict _ => "dict"
end
end VS
/-! sorting of tuples some of which may be empty -/
namespace VT
open PySem PySem.W PySem.Calls PyProof.Rows PySem.SeqAt

section
variable {prog : Program} {w : World} {A : Around} {E : Value → Shared → Prop} {s : Shared}
theorem tuple_lt_call {Q : Value → Shared → Prop} {l b : Addr} {items items2 : Array Value} {e r : Nat → Bool} (hl : s.heap.IsTuple l items) (hb : s.heap.IsTuple b items2)
    (he : ∀ j (h1 : j < items.size) (h2 : j < items2.size), EqAt A.in1 s items[j] items2[j] (e j)) (hr : ∀ j (h1 : j < items.size) (h2 : j < items2.size), e j = false → RcLt A.in1 s items[j] items2[j] (r j))
    (q : Q (.bool (firstLt e r (decide (items.size < items2.size)) (List.range (min items.size items2.size)))) s) : wpAny (model prog w) A (call (.builtin "tuple.__lt__") [.ref l, .ref b]) Q E s := by
  obtain ⟨⟨c1, d1, t1, z1⟩, ho, hc, n, hd⟩ := id hl
  obtain ⟨⟨c2, d2, t2, z2⟩, ho2, hc2, n2, hd2⟩ := id hb
  simp only at hc hd hc2 hd2
  subst hc hd hc2 hd2
  exact call_meets F.slot_tuple_lt ⟨_, ho, rfl⟩ F.entry_tuple_lt (F.args_tuple_lt_2 _ _) (tuple_ltAt l b items items2 n n2 d1 d2 z1 z2 e r) ⟨ho, ho2, he, hr, q⟩
/-- a key that is a tuple against another one, both of one type -/
theorem one_tup {f : Bool} {xs ys : List PyData} {a b : Value} {as bs : List Addr} {Q : Bool → Shared → Prop} (ra : Reads s.heap a (.tuple xs) as) (rb : Reads s.heap b (.tuple ys) bs) (h : alike (.tuple xs) (.tuple ys) = true)
    (hu : A.units + min (PyData.tuple xs).depth (PyData.tuple ys).depth < cLine) (hq : Q (dataLt (.tuple xs) (.tuple ys)) s) : wpAny (model prog w) A (oneLt' f a b) Q E s := by
  cases f with
  | false =>
    rw [oneLt'_eq]
    simp only [Bool.false_eq_true, if_false]
    exact wpAny_bind (rcLt_alike _ _ A s a b as bs ra rb h (by simp) hu prog w E _ (wpAny_truthy_bool hq))
  | true =>
    have hal : alikeAll xs ys = true := by simpa [alike] using h
    cases ra with
    | @tuple l o vs n _ as1 h1 h2 h3 h4 =>
      cases rb with
      | @tuple l' o' vs' n' _ bs1 k1 k2 k3 k4 =>
        have n1 : vs.size = xs.length := by simpa using ReadsAll.length _ _ _ h4
        have n2 : vs'.size = ys.length := by simpa using ReadsAll.length _ _ _ k4
        rw [dataLt_tuple, ← firstLt_toks xs ys hal, ← n1, ← n2] at hq
        rw [oneLt'_eq]
        simp only [if_true]
        refine wpAny_bind (wpAny_cRoomFor (room_here hu) ?_)
        refine wpAny_bind (wpAny_callSpecialIfBound?_slot (T := "tuple") ⟨_, h1, h2⟩ F.slot_tuple_lt (tuple_lt_call (e := pairEq xs ys) (r := fun j => dataLt (xs.getD j .none) (ys.getD j .none)) ⟨_, h1, h2, _, h3⟩ ⟨_, k1, k2, _, k3⟩ (fun j j1 j2 => ?_) (fun j j1 j2 hj => ?_) ?_))
        · have := eqAt_alikeAll xs ys A.in1 s vs.toList vs'.toList _ _ h4 k4 hal (room_in hu) j (by simpa using j1) (by simpa using j2)
          simpa using this
        · have := rcLt_alikeAll xs ys A.in1 s vs.toList vs'.toList _ _ h4 k4 hal (room_in hu) j (by simpa using j1) (by simpa using j2) hj
          simpa using this
        · exact wpAny_truthy_bool hq
/-- the first items of tuples, none of empty ones -/
def firstOf : PyData → Bool
  | .tuple (_ :: _) => true
  | _ => false
theorem firsts {M : Model} : ∀ (vs : List Value) (ds : List PyData) {Q : List (Option Value) → Shared → Prop}, EachIs (fun v d => ∃ as, Reads s.heap v d as) vs ds → (∀ d ∈ ds, ∃ xs, d = .tuple xs) →
    (∀ os : List (Option Value), os.map (·.isSome) = ds.map firstOf → Q os s) → wpAny M A (vs.mapM firstOfTuple') Q E s
  | _, _, _, .nil, _, h => by rw [List.mapM_nil]; exact wpAny_pure (h [] rfl)
  | v :: vs, d :: ds, Q, .cons ⟨as, r⟩ t, ht, h => by
    obtain ⟨xs, rfl⟩ := ht _ (List.mem_cons_self ..)
    cases r with
    | @tuple a o ys n _ _ ho hc hd hr =>
      rw [List.mapM_cons]
      refine wpAny_bind ?_
      rw [kas_first_eq]
      refine wpAny_bind (Looks.here (show Looks M s.heap (typeOf (.ref a)) o.cls from (Looks.ld ho).andThen .now) ?_)
      rw [hc, if_neg (by first | decide | simp)]
      refine wpAny_bind (listItems_at ho hd (wpAny_pure ?_))
      refine wpAny_bind (firsts vs ds (Q := fun bs s' => wpAny M A (pure (ys[0]? :: bs)) Q E s') t (fun d hd => ht d (List.mem_cons_of_mem _ hd)) fun os ho2 => wpAny_pure (h _ ?_))
      rw [List.map_cons, List.map_cons, ho2]
      congr 1
      have hl : ys.size = xs.length := by simpa using ReadsAll.length _ _ _ hr
      cases xs with
      | nil =>
        have : ys[0]? = none := by
          rw [Array.getElem?_eq_none_iff]
          simp only [List.length_nil] at hl
          omega
        rw [this]
        rfl
      | cons x r =>
        have hl2 : 0 < ys.size := by rw [hl]; simp
        rw [Array.getElem?_eq_getElem hl2]
        rfl
/-- alike tuples can be sorted, empty ones among them -/
theorem sorts_tups {vs : List Value} {ds : List PyData} (e : EachIs (fun v d => ∃ as, Reads s.heap v d as) vs ds) (hal : AllAlike ds) (ht : ∀ d ∈ ds, ∃ xs, d = .tuple xs) (hu : ∀ d, d ∈ ds → A.units + d.depth < cLine) : SortsAt prog w A s (dataKind s.heap ds) vs := by
  by_cases hall : ∀ d ∈ ds, ∃ x r, d = .tuple (x :: r)
  · exact SortsAt.data e hal (.inl hall) hu
  · refine ⟨fun v hv => ?_, ?_⟩
    · obtain ⟨d, hd, as, r⟩ := e.left v hv
      exact ⟨_, dataKind_some hal hd r⟩
    · have room : ∀ {d d' : PyData}, d ∈ ds → A.units + min d.depth d'.depth < cLine := fun {d d'} hd => Nat.lt_of_le_of_lt (Nat.add_le_add_left (Nat.min_le_left _ _) _) (hu d hd)
      have lt : ∀ f : Bool, ∀ (E : Value → Shared → Prop) (x y : Value) (a b : (dataKind s.heap ds).α) {Q : Bool → Shared → Prop}, (dataKind s.heap ds).keyOf x = some a → (dataKind s.heap ds).keyOf y = some b → Q ((dataKind s.heap ds).blt a b) s → wpAny (model prog w) A (oneLt' f x y) Q E s := by
        intro f E x y a b Q ha hb hq
        obtain ⟨d, as, hd, ra, rfl⟩ := dataKind_inv ha
        obtain ⟨d', as', hd', rb, rfl⟩ := dataKind_inv hb
        obtain ⟨xs, rfl⟩ := ht d hd
        obtain ⟨ys, rfl⟩ := ht d' hd'
        exact one_tup ra rb (hal _ hd _ hd') (room hd) hq
      have hsome : ((ds.map firstOf).all id) = false := by
        rw [Bool.eq_false_iff]
        intro h
        apply hall
        intro d hd
        obtain ⟨xs, rfl⟩ := ht d hd
        have := List.all_eq_true.mp h (firstOf (.tuple xs)) (List.mem_map_of_mem hd)
        cases xs with
        | nil => cases this
        | cons x r => exact ⟨x, r, rfl⟩
      have notAll : ∀ os : List (Option Value), os.map (·.isSome) = ds.map firstOf → os.toArray.all (·.isSome) = false := by
        intro os ho
        rw [← hsome, ← ho]
        simp [Function.comp_def]
      cases ds with
      | nil => exact absurd (fun d hd => absurd hd (by simp)) hall
      | cons d0 ds0 =>
        obtain ⟨xs0, rfl⟩ := ht d0 (List.mem_cons_self ..)
        cases xs0 with
        | cons x0 r0 =>
          -- the first one has an item
          refine ⟨general', fun E x y a b Q ha hb hq => lt false E x y a b ha hb hq, fun h2 E Q hq => ?_⟩
          rw [kat_kind_eq, List.mapM_toArray, map_eq_pure_bind]
          refine wpAny_bind (wpAny_bind (firsts vs _ e ht fun os ho => wpAny_pure ?_))
          rw [if_neg (by rw [notAll os ho]; exact Bool.false_ne_true)]
          cases os with
          | nil => simp at ho
          | cons o os =>
            have : o.isSome = true := by
              have := congrArg List.head? ho
              simpa [firstOf] using this
            rw [if_pos (by simpa using this)]
            exact wpAny_pure hq
        | nil =>
          refine ⟨oneType', fun E x y a b Q ha hb hq => ?_, fun h2 E Q hq => ?_⟩
          · rw [keyLt'_oneType]
            exact lt true E x y a b ha hb hq
          · rw [kat_kind_eq, List.mapM_toArray, map_eq_pure_bind]
            refine wpAny_bind (wpAny_bind (firsts vs _ e ht fun os ho => wpAny_pure ?_))
            rw [if_neg (by rw [notAll os ho]; exact Bool.false_ne_true)]
            cases os with
            | nil => simp at ho
            | cons o os =>
              have : o.isSome = false := by
                have := congrArg List.head? ho
                simpa [firstOf] using this
              rw [if_neg (by simp [this])]
              rw [oneTypeOnly'_eq, List.mapM_toArray, map_eq_pure_bind]
              refine wpAny_bind (wpAny_bind (wpAny_bind (kas_mapM (r := Value.type "tuple") _ (fun v hv Q' hq' => ?_) (wpAny_pure ?_))))
              · obtain ⟨d, hd, as, r⟩ := e.left v hv
                obtain ⟨zs, rfl⟩ := ht d hd
                exact (looks_reads r).here hq'
              · have hall2 : ((List.map (fun _ => Value.type "tuple") vs).toArray.all fun x => x == Value.type "tuple") = true := by
                  simp only [List.all_toArray, List.all_map, List.all_eq_true]
                  intro _ _
                  exact beq_self_eq_true _
                have h0 : (List.map (fun _ => Value.type "tuple") vs).toArray[0]? = some (Value.type "tuple") := by
                  cases vs with
                  | nil => simp at h2
                  | cons v vs => simp
                rw [h0]
                simp only [hall2, if_true]
                exact wpAny_pure (wpAny_pure hq)
/-- sorted(xs), xs a list of alike tuples -/
theorem sorted_tups {β : Type} {vs : List Value} {bs : List β} {enc : β → PyData} {R : Value → β → Prop} {l : Addr} {Q : Value → Shared → Prop} (hl : s.heap.IsList l vs.toArray) (e : EachIs R vs bs) (er : EachIs (fun v b => ∃ as, Reads s.heap v (enc b) as) vs bs) (hal : AllAlike (bs.map enc)) (hk : ∀ b ∈ bs, ∃ xs, enc b = .tuple xs) (hL : bs.length ≤ sizeLine)
    (hu : ∀ b, b ∈ bs → A.units + 2 + (enc b).depth < cLine) (h : ∀ out, out.length = bs.length → EachIs R out (bs.mergeSort (dataLe false enc)) → Q (.ref (s.heap.objs.size + 1)) { s with heap := sortedAll s.heap vs (List.toArray out) }) :
    wpAny (model prog w) A (call (.builtin "sorted") [.ref l]) Q E s := by
  have er' : EachIs (fun v b => ∃ as, Reads (sortingHeap (copyHeap s.heap vs) (s.heap.objs.size + 1) vs) v (enc b) as) vs bs := er.mono fun _ _ ⟨as, r⟩ => ⟨as, PyProof.Rows.Reads.keeps (fun _ _ => sorting_copy_old) r⟩
  refine sorted_vals hl (sorts_tups (s := { s with heap := sortingHeap (copyHeap s.heap vs) (s.heap.objs.size + 1) vs }) (each_map (R := fun v d => ∃ as, Reads (sortingHeap (copyHeap s.heap vs) (s.heap.objs.size + 1) vs) v d as) enc er') hal (fun d hd => ?_) (bound_map hu)) (by rw [e.length]; exact hL) (h _ (by rw [sortVals_length false rfl]; exact e.length) (sortVals_data false e er' hal))
  obtain ⟨b, hb, rfl⟩ := List.mem_map.mp hd
  exact hk b hb
end
end VT
/-! further built-ins by values: sorted of data, of dicts; dict(pairs), d.update(pairs); repr -/
namespace VT
open PySem PySem.Spec L2
open PyProof.Rows hiding St
open PySem.W (EachIs AllAlike Sortable SortsAt dataKind dataLe alike)

/-- data that can be sorted -/
def SortOk (ds : List PyData) : Prop := AllAlike ds ∧ ((∀ d ∈ ds, ∃ xs, d = .tuple xs) ∨ (∀ d ∈ ds, d ≠ .none ∧ ∀ xs, d ≠ .tuple xs)) ∧ ∀ d ∈ ds, d.depth ≤ 32
section
variable {X : Cx}
theorem sorts_ok {prog : Program} {w : World} {A : Around} {s : Shared} {vs : List Value} {ds : List PyData} (e : EachIs (fun v d => ∃ as, Reads s.heap v d as) vs ds) (h : SortOk ds) (hu : A.units + 40 < cLine) : SortsAt prog w A s (dataKind s.heap ds) vs := by
  have hu' : ∀ d, d ∈ ds → A.units + d.depth < cLine := fun d hd => by
    have := h.2.2 d hd
    omega
  rcases h.2.1 with ht | hn
  · exact sorts_tups e h.1 ht hu'
  · exact SortsAt.data e h.1 (.inr hn) hu'
theorem each_vals {R : Value → V × PyData → Prop} : ∀ {us : List Value} {bs : List (V × PyData)}, Vals (bs.map (·.1)) us → (∀ u b, b ∈ bs → RelV b.1 u → R u b) → EachIs R us bs
  | _, [], r, _ => by cases r; exact .nil
  | _, b :: bs, r, h => by
    cases r with
    | cons r1 r2 => exact .cons (h _ b (List.mem_cons_self ..) r1) (each_vals r2 fun u c hc => h u c (List.mem_cons_of_mem _ hc))
theorem vals_each : ∀ {us : List Value} {bs : List (V × PyData)}, EachIs (fun u b => RelV b.1 u) us bs → Vals (bs.map (·.1)) us
  | _, _, .nil => .nil
  | _, _, .cons h t => .cons h (vals_each t)
theorem sortedAll_obj (h : Heap) (vs out : List Value) : ∃ c, (PyProof.Rows.sortedAll h vs out.toArray).get? (h.objs.size + 1) = some { cls := .type "list", data := .seq out.toArray c } := by
  obtain ⟨c, hc⟩ := PyProof.Rows.sortedAll_at h vs out.toArray
  exact ⟨c, hc⟩
/-- sorted of a list of data -/
def rSortD (K : PySem.W.Frag) : List V → Hp → VK → Prop := fun xs H Q => ∃ (a : Addr) (bs : List (V × PyData)), xs = [.ref a] ∧ SqL K H a (bs.map (·.1)) ∧ (∀ b ∈ bs, Dp K H b.1 b.2) ∧ SortOk (bs.map (·.2)) ∧
  ∀ p, H p = none → Q (.ref p) (upd H p (.lst ((bs.mergeSort (dataLe false (·.2))).map (·.1))))
theorem cr_sortD (hu : X.A.units + 64 < cLine) : CallR X (.builtin "sorted") (rSortD X.K) := by
  intro pins s σ H xs us Q I r h
  obtain ⟨a, bs, rfl, hq, hd, hs, q⟩ := h
  obtain ⟨u, rfl, ru⟩ := vals1 r
  cases ru
  obtain ⟨its, rv, pl, hz⟩ := I.list hq
  rw [List.length_map] at hz
  have e1 : EachIs (fun u b => RelV b.1 u) its bs := each_vals rv fun u b _ r => r
  have e2 : EachIs (fun v b => ∃ as, Reads s.heap v b.2 as) its bs := each_vals rv fun u b hb r => Dp.reads I b.2 b.1 u (hd b hb) r
  have fin : ∀ out : List Value, out.length = bs.length → EachIs (fun u b => RelV b.1 u) out (bs.mergeSort (dataLe false (·.2))) → EP X pins σ Q (.ref (s.heap.objs.size + 1)) { s with heap := PyProof.Rows.sortedAll s.heap its out.toArray } := by
    intro out hl he
    obtain ⟨c, hc⟩ := sortedAll_obj s.heap its out
    have hf : H (s.heap.objs.size + 1) = none := I.hok.fresh (Nat.le_succ _)
    refine ⟨.ref _, _, I.laid (t' := s.toks) (a := s.heap.objs.size + 1) (o := .lst ((bs.mergeSort (dataLe false (·.2))).map (·.1))) (fun b o e => PyProof.Rows.sortedAll_old e) (Nat.le_succ _) ?_, rfl, q _ hf⟩
    exact ⟨by rw [List.length_map, List.length_mergeSort]; exact hz, out, c, vals_each he, hc⟩
  rcases hs.2.1 with ht | hn
  · refine sorted_tups (enc := (·.2)) pl.isList e1 e2 hs.1 (fun b hb => ht _ (List.mem_map_of_mem hb)) hz (fun b hb => ?_) fin
    have := hs.2.2 b.2 (List.mem_map_of_mem hb)
    omega
  · refine PySem.W.sorted_data (enc := (·.2)) pl.isList e1 e2 hs.1 (.inr hn) hz (fun b hb => ?_) fin
    have := hs.2.2 b.2 (List.mem_map_of_mem hb)
    omega
/-- sorted of what is gathered from a dict -/
theorem sorted_src {prog : Program} {w : World} {A : Around} {E : Value → Shared → Prop} {s : Shared} {T : String} {r d : Addr} {n : Nat} {P : Nat → Value → Prop} {OK : Heap → Prop} {Q : Value → Shared → Prop} (K : PySem.W.KdlSrc prog w T r d n P OK) (hh : A.handled = none) (ok : OK s.heap) (hn : n ≤ sizeLine) (hu : A.units + 64 < cLine)
    (h : ∀ (h' : Heap) (tk : Nat) (acc : Array Value), (∀ b o, s.heap.get? b = some o → h'.get? b = some o) → ItemsOf P acc n → ∃ bs : List (V × PyData), EachIs (fun u b => RelV b.1 u) acc.toList bs ∧ EachIs (fun v b => ∃ as, Reads s.heap v b.2 as) acc.toList bs ∧ SortOk (bs.map (·.2)) ∧
      ∀ (out : List Value) (h'' : Heap), EachIs (fun u b => RelV b.1 u) out (bs.mergeSort (dataLe false (·.2))) → (∀ b o, h'.get? b = some o → h''.get? b = some o) → (∃ c, h''.get? h'.objs.size = some { cls := .type "list", data := .seq out.toArray c }) →
        Q (.ref h'.objs.size) { s with heap := h'', toks := tk }) : wpAny (model prog w) A (call (.builtin "sorted") [.ref r]) Q E s := by
  refine PySem.Calls.call_function_entry PyProof.Rows.kind_sorted PyProof.Rows.plain_sorted PyProof.Rows.entry_sorted (PyProof.Rows.args_sorted1 _) ?_
  unfold Builtin.«sorted»
  refine wpAny_bind (m := checkCount "sorted" 1 1 _) (wpAny_pure ?_)
  refine wpAny_bind (PySem.W.kdu_collect (A := A.in1) K hh ok hn fun h' tk acc hk hacc => ?_)
  obtain ⟨bs, e1, e2, hs, q⟩ := h h' tk acc hk hacc
  have hl : acc.toList.length = n := by rw [Array.length_toList]; exact hacc.1
  refine wpAny_bind (wpAny_newList ?_ (by rw [hl]; exact hn))
  have hL : (h'.push (PyProof.Rows.seqObj "list" acc.toList.toArray 0)).get? h'.objs.size = some (PyProof.Rows.seqObj "list" acc.toList.toArray 0) := Heap.get?_push_size _ rfl
  show wpAny _ _ _ _ _ { s with heap := h'.push (PyProof.Rows.seqObj "list" acc.toList.toArray 0), toks := tk }
  have keepR : ∀ b o, s.heap.get? b = some o → (PySem.W.sortingHeap (h'.push (PyProof.Rows.seqObj "list" acc.toList.toArray 0)) h'.objs.size acc.toList).get? b = some o := fun b o e =>
    PySem.W.sortingHeap_old (Nat.ne_of_lt (Heap.lt_size (hk b o e))) (Heap.get?_push_of_some _ (hk b o e))
  have e3 : EachIs (fun v d => ∃ as, Reads (PySem.W.sortingHeap (h'.push (PyProof.Rows.seqObj "list" acc.toList.toArray 0)) h'.objs.size acc.toList) v d as) acc.toList (bs.map (·.2)) :=
    PySem.W.each_map (R := fun v d => ∃ as, Reads (PySem.W.sortingHeap (h'.push (PyProof.Rows.seqObj "list" acc.toList.toArray 0)) h'.objs.size acc.toList) v d as) (·.2) (e2.mono fun _ _ ⟨as, r⟩ => ⟨as, PyProof.Rows.Reads.keeps keepR r⟩)
  refine wpAny_bind (wpAny_holding (wpAny_call_entry PyProof.Rows.slot_list_sort ⟨_, hL, rfl⟩ PyProof.Rows.entry_list_sort
    (PySem.W.list_sort_vals (s := { s with heap := h'.push (PyProof.Rows.seqObj "list" acc.toList.toArray 0), toks := tk }) (κ := dataKind (PySem.W.sortingHeap (h'.push (PyProof.Rows.seqObj "list" acc.toList.toArray 0)) h'.objs.size acc.toList) (bs.map (·.2))) hL
      (sorts_ok (s := { s with heap := PySem.W.sortingHeap (h'.push (PyProof.Rows.seqObj "list" acc.toList.toArray 0)) h'.objs.size acc.toList, toks := tk }) e3 hs (by show A.units + 1 + 1 + 40 < cLine; omega)) (by rw [hl]; exact hn) ⟨.none, rfl, ?_⟩) (PyProof.Rows.args_list_sort _)))
  obtain ⟨c, hc⟩ := PyProof.Rows.sortedHeap_at (vs := acc.toList) (out := (PySem.W.sortVals (dataKind (PySem.W.sortingHeap (h'.push (PyProof.Rows.seqObj "list" acc.toList.toArray 0)) h'.objs.size acc.toList) (bs.map (·.2))) false acc.toList acc.toList).toArray) hL
  refine wpAny_pure ⟨_, rfl, q _ _ (PySem.W.sortVals_data false e1 (e2.mono fun _ _ ⟨as, r⟩ => ⟨as, PyProof.Rows.Reads.keeps keepR r⟩) hs.1) (fun b o hb => ?_) ⟨c, hc⟩⟩
  · rw [PyProof.Rows.sortedHeap_old (Nat.ne_of_lt (Heap.lt_size hb)) (by rw [Heap.size_push]; exact Nat.lt_succ_of_lt (Heap.lt_size hb))]
    exact Heap.get?_push_of_some _ hb
def keysD (kvs : List (List Key × V)) : List PyData := kvs.map fun kv => .tuple (kv.1.map VS.keyD)
theorem keyV_dp {K : PySem.W.Frag} {H : Hp} : ∀ ks : List Key, DpAll K H (ks.map kV) (ks.map VS.keyD)
  | [] => .nil
  | .inl i :: ks => .cons (.int i) (keyV_dp ks)
  | .inr x :: ks => .cons (.str x) (keyV_dp ks)
/-- sorted of a dict whose keys are tuples -/
def rSortDT (K : PySem.W.Frag) : List V → Hp → VK → Prop := fun xs H Q => ∃ (a : Addr) (kvs : List (List Key × V)), xs = [.ref a] ∧ H a = some (.dT kvs) ∧ SortOk (keysD kvs) ∧
  ∀ (p : Addr) (bs : List (V × PyData)), H p = none → bs.map (·.2) = keysD kvs → (∀ b ∈ bs, ∃ (q : Addr) (ks : List Key), b = (.ref q, .tuple (ks.map VS.keyD)) ∧ H q = some (.tup (ks.map kV))) → Q (.ref p) (upd H p (.lst ((bs.mergeSort (dataLe false (·.2))).map (·.1))))
theorem cr_sortDT {X : Cx} (hcalm : X.calm = true) (hu : X.A.units + 64 < cLine) : CallR X (.builtin "sorted") (rSortDT X.K) := by
  intro pins s σ H xs us Q I r h
  obtain ⟨a, kvs, rfl, hd, hs, q⟩ := h
  obtain ⟨u, rfl, ru⟩ := vals1 r
  cases ru
  obtain ⟨z, lo, ks, pr, o, es, ep, ho, hx, hdt, he, hn⟩ := (show ObjOk X.prog X.w H s.heap a (.dT kvs) from I.hok a _ hd)
  have l1 : es.size = ks.length := size_of_entries he
  have l2 : kvs.length = ks.length := Paired.length pr
  refine sorted_src (kdl_raw lo hx hdt) (I.ok.hd hcalm) ho (by omega) hu fun h' tk acc kp it => ?_
  have hal : acc.toList.length = ks.length := by rw [Array.length_toList, it.1]; exact l1
  have ea : acc.toList = ks.map fun x => Value.ref x.2.1 := by
    apply List.ext_getElem?
    intro j
    rw [List.getElem?_map]
    cases hj : acc.toList[j]? with
    | none =>
      have h1 := List.getElem?_eq_none_iff.mp hj
      rw [List.getElem?_eq_none (by omega), Option.map_none]
    | some v =>
      obtain ⟨en, hen, hv⟩ := it.2 j v (by rw [← Array.getElem?_toList]; exact hj)
      have qe := entry_at he j
      rw [hen] at qe
      cases hb : ks[j]? with
      | none =>
        rw [hb] at qe
        cases qe
      | some b =>
        rw [hb] at qe
        have e2 : en = entryOfKey (tupleKind (mixKind X.prog X.w)) b := Option.some.inj qe
        rw [hv, e2, Option.map_some]
        rfl
  let bs : List (V × PyData) := ks.map fun x => (.ref x.2.1, .tuple (x.1.map VS.keyD))
  have hbs : bs.map (·.2) = keysD kvs := by
    show (ks.map fun x => (V.ref x.2.1, PyData.tuple (x.1.map VS.keyD))).map (·.2) = kvs.map fun kv => .tuple (kv.1.map VS.keyD)
    rw [List.map_map]
    clear hs q l1 l2 he hn ea hal hd z
    induction pr with
    | nil => rfl
    | cons h t ih => rw [List.map_cons, List.map_cons, ih, h.1]; rfl
  have hmem : ∀ b ∈ bs, ∃ (q : Addr) (ks : List Key), b = (V.ref q, PyData.tuple (ks.map VS.keyD)) ∧ H q = some (.tup (ks.map kV)) := by
    have all : ∀ {l : List (List Key × V)} {m : List (List Key × Addr × Value)}, KT H l m → ∀ x ∈ m, H x.2.1 = some (.tup (x.1.map kV)) := by
      intro l m p
      induction p with
      | nil => intro x hx; cases hx
      | cons h t ih =>
        intro x hx
        rcases List.mem_cons.mp hx with rfl | hx
        · rw [← h.1]; exact h.2.1
        · exact ih x hx
    intro b hb
    obtain ⟨x, hx, rfl⟩ := List.mem_map.mp hb
    exact ⟨_, _, rfl, all pr x hx⟩
  refine ⟨bs, ?_, ?_, by rw [hbs]; exact hs, fun out h'' e2 kp2 hc => ?_⟩
  · rw [ea]
    show EachIs _ (ks.map _) (ks.map _)
    clear hs q l1 l2 he hn ea hal hd hbs hmem pr
    induction ks with
    | nil => exact .nil
    | cons x t ih => exact .cons rfl ih
  · have := fun b hb => hmem b hb
    have rd : EachIs (fun u b => RelV b.1 u ∧ b ∈ bs) acc.toList bs := by
      refine PySem.W.each_mem ?_
      rw [ea]
      show EachIs _ (ks.map _) (ks.map _)
      clear hs q l1 l2 he hn ea hal hd hbs hmem pr this
      induction ks with
      | nil => exact .nil
      | cons x t ih => exact .cons rfl ih
    refine rd.mono fun u b ⟨h1, h2⟩ => ?_
    obtain ⟨q', ks', rfl, e⟩ := hmem b h2
    exact Dp.reads I _ _ _ (.tup (.of e) (keyV_dp ks')) h1
  · have I1 : Inv X pins σ H { s with heap := h', toks := tk } := I.kept kp
    obtain ⟨c, hc⟩ := hc
    have hf : H h'.objs.size = none := I1.hok.fresh (Nat.le_refl _)
    refine ⟨.ref _, _, I1.laid (t' := tk) (a := h'.objs.size) (o := .lst ((bs.mergeSort (dataLe false (·.2))).map (·.1))) kp2 (Nat.le_refl _) ?_, rfl, q _ bs hf hbs hmem⟩
    refine ⟨?_, out, c, vals_each e2, hc⟩
    rw [List.length_map, List.length_mergeSort, List.length_map]
    omega
/-- sorted of a dict of ints and texts -/
def rSortDK (K : PySem.W.Frag) : List V → Hp → VK → Prop := fun xs H Q => ∃ (a : Addr) (kvs : List (Key × V)), xs = [.ref a] ∧ H a = some (.dK kvs) ∧ SortOk (kvs.map fun kv => VS.keyD kv.1) ∧
  ∀ (p : Addr), H p = none → Q (.ref p) (upd H p (.lst (((kvs.map fun kv => (kV kv.1, VS.keyD kv.1)).mergeSort (dataLe false (·.2))).map (·.1))))
theorem cr_sortDK {X : Cx} (hcalm : X.calm = true) (hu : X.A.units + 64 < cLine) : CallR X (.builtin "sorted") (rSortDK X.K) := by
  intro pins s σ H xs us Q I r h
  obtain ⟨a, kvs, rfl, hd, hs, q⟩ := h
  obtain ⟨u, rfl, ru⟩ := vals1 r
  cases ru
  obtain ⟨z, lo, vs, rel, dd⟩ := dk_rd I.hok (.inl hd)
  obtain ⟨ep, hat⟩ := dd.dictAt
  have hl : vs.length = kvs.length := by
    have e := congrArg List.length rel.keys
    rw [List.length_map, List.length_map] at e
    exact e.symm
  refine sorted_src (PySem.W.kdl_dict (knd := mixKind X.prog X.w) (kvs := vs) (ep := ep) lo) (I.ok.hd hcalm) hat (by omega) hu fun h' tk acc kp it => ?_
  have hv : Vals (vs.map fun p => kV p.1) acc.toList := keys_at (by rw [Array.length_toList]; exact it.1) fun j v e => it.2 j v (by rw [← Array.getElem?_toList]; exact e)
  have ek : (vs.map fun p => kV p.1) = kvs.map fun kv => kV kv.1 := by
    have e := congrArg (List.map kV) rel.keys
    rw [List.map_map, List.map_map] at e
    exact e.symm
  rw [ek] at hv
  have rd : EachIs (fun u b => RelV b.1 u ∧ b ∈ kvs.map fun kv => (kV kv.1, VS.keyD kv.1)) acc.toList (kvs.map fun kv => (kV kv.1, VS.keyD kv.1)) := by
    refine PySem.W.each_mem (each_vals (by rw [List.map_map]; exact hv) fun u b _ r => r)
  have hsz : kvs.length ≤ sizeLine := z
  have rr : EachIs (fun v b => ∃ as, Reads s.heap v b.2 as) acc.toList (kvs.map fun kv => (kV kv.1, VS.keyD kv.1)) := rd.mono fun u b h => by
    obtain ⟨kv, _, rfl⟩ := List.mem_map.mp h.2
    refine Dp.reads I _ _ _ ?_ h.1
    cases kv.1 with
    | inl i => exact .int i
    | inr x => exact .str x
  refine ⟨kvs.map fun kv => (kV kv.1, VS.keyD kv.1), rd.mono fun _ _ h => h.1, rr, by rw [List.map_map]; exact hs, fun out h'' e2 kp2 hc => ?_⟩
  · have I1 : Inv X pins σ H { s with heap := h', toks := tk } := I.kept kp
    obtain ⟨c, hc⟩ := hc
    have hf : H h'.objs.size = none := I1.hok.fresh (Nat.le_refl _)
    refine ⟨.ref _, _, I1.laid (t' := tk) (a := h'.objs.size) (o := .lst (((kvs.map fun kv => (kV kv.1, VS.keyD kv.1)).mergeSort (dataLe false (·.2))).map (·.1))) kp2 (Nat.le_refl _) ?_, rfl, q _ hf⟩
    refine ⟨?_, out, c, vals_each e2, hc⟩
    rw [List.length_map, List.length_mergeSort, List.length_map]
    exact hsz
end
end VT
/-! dict(pairs), d.update(pairs), keys that are tuples or ints; repr -/
namespace VT
open PySem PySem.Spec L2
open PyProof.Rows hiding St

/-- a pair's object, its key, the key's object, its value -/
structure PT4 where
  T : Addr
  k : List Key
  b : Addr
  v : V
def mergeT (kvs : List (List Key × V)) (ps : List PT4) : List (List Key × V) := ps.foldl (fun acc p => putK acc p.k p.v) kvs
theorem putK_len {κ : Type} [DecidableEq κ] (kvs : List (κ × V)) (k : κ) (v : V) : (putK kvs k v).length ≤ kvs.length + 1 := by
  unfold putK
  split
  · simp
  · simp
theorem mergeT_len : ∀ (ps : List PT4) (kvs : List (List Key × V)), (mergeT kvs ps).length ≤ kvs.length + ps.length
  | [], _ => by simp [mergeT]
  | p :: ps, kvs => by
    have h1 := mergeT_len ps (putK kvs p.k p.v)
    have h2 := putK_len kvs p.k p.v
    show (mergeT (putK kvs p.k p.v) ps).length ≤ _
    rw [List.length_cons]
    omega
def Pairs4 (H : Hp) (ps : List PT4) : Prop := ∀ p ∈ ps, H p.T = some (.tup [.ref p.b, p.v]) ∧ H p.b = some (.tup (p.k.map kV))
theorem KT.mergeT {H : Hp} : ∀ {ps : List PT4} {us : List Value} {kvs : List (List Key × V)} {xs : List (List Key × Addr × Value)}, Pairs4 H ps → Vals (ps.map PT4.v) us → KT H kvs xs →
    KT H (VT.mergeT kvs ps) (storedAllH xs ((ps.zip us).map fun q => (q.1.k, q.1.b, q.2)))
  | [], _, _, _, _, r, q => by cases r; exact q
  | p :: ps, u :: us, kvs, xs, hp, .cons r rs, q => by
    have h := hp p (List.mem_cons_self ..)
    exact KT.mergeT (kvs := putK kvs p.k p.v) (xs := storedH xs p.k p.b u) (fun x hx => hp x (List.mem_cons_of_mem _ hx)) rs (q.put p.k h.2 r)
section
variable {X : Cx}
theorem pairs4_at {pins : List (Addr × Obj)} {s : Shared} {σ : St} {H : Hp} (I : Inv X pins σ H s) : ∀ {ps : List PT4}, Pairs4 H ps → ∃ us : List Value, Vals (ps.map PT4.v) us ∧ ∀ (j : Nat) (p : PT4) (u : Value), ps[j]? = some p → us[j]? = some u → s.heap.IsTuple p.T #[.ref p.b, u] ∧ (tupleKind (mixKind X.prog X.w)).is s.heap p.k p.b
  | [], _ => ⟨[], .nil, fun j p u h => by simp at h⟩
  | p :: ps, h => by
    obtain ⟨us, r, a⟩ := pairs4_at I (ps := ps) fun x hx => h x (List.mem_cons_of_mem _ hx)
    obtain ⟨h1, h2⟩ := h p (List.mem_cons_self ..)
    obtain ⟨its, rv, t, _⟩ := I.tuple (.of h1)
    obtain ⟨u1, u2, rfl, r1, r2⟩ := vals2 rv
    cases r1
    refine ⟨u2 :: us, .cons r2 r, fun j q u e1 e2 => ?_⟩
    cases j with
    | zero =>
      simp only [List.getElem?_cons_zero, Option.some.injEq] at e1 e2
      subst e1 e2
      exact ⟨t, key_of I.hok h2⟩
    | succ j => exact a j q u (by simpa using e1) (by simpa using e2)
/-- what dict(..) and update(..) ask of the list of pairs -/
theorem pairs4_arg {pins : List (Addr × Obj)} {s : Shared} {σ : St} {H : Hp} {a : Addr} {ps : List PT4} (I : Inv X pins σ H s) (ha : H a = some (.lst (ps.map fun p => .ref p.T))) (hp : Pairs4 H ps) :
    ∃ (us : List Value) (items : Array Value), Vals (ps.map PT4.v) us ∧ us.length = ps.length ∧
      (PlainSeq "list" s.heap a items ∧ PairItems s.heap items (fun j => (ps.map PT4.T).getD j 0) ((ps.zip us).map fun q => (Value.ref q.1.b, q.2))) ∧
      PairsHaveH (tupleKind (mixKind X.prog X.w)) ps.length (PairRel ((ps.zip us).map fun q => (Value.ref q.1.b, q.2))) ((ps.zip us).map fun q => (q.1.k, q.1.b, q.2)) ∧
      (∀ x ∈ (ps.zip us).map fun q => (q.1.k, q.1.b, q.2), (tupleKind (mixKind X.prog X.w)).is s.heap x.1 x.2.1) := by
  obtain ⟨us, rv, at_⟩ := pairs4_at I hp
  obtain ⟨its, ri, pl, _⟩ := I.list (.of ha)
  have lu : us.length = ps.length := by rw [← rv.length, List.length_map]
  have li : its.length = ps.length := by rw [← ri.length, List.length_map]
  obtain ⟨o, n, ho, hc, hd, hdat⟩ := pl
  refine ⟨us, its.toArray, rv, lu, ⟨⟨o, n, ho, hc, hd, hdat⟩, by simp [li, lu], fun j k v e => ?_⟩, ⟨by simp [lu], fun i key v e => ?_⟩, fun x hx => ?_⟩
  · rw [List.getElem?_map] at e
    cases q : (ps.zip us)[j]? with
    | none => rw [q] at e; cases e
    | some y =>
      rw [q] at e
      cases e
      obtain ⟨p, u⟩ := y
      have q' := List.getElem?_zip_eq_some.mp q
      obtain ⟨t, _⟩ := at_ j p u q'.1 q'.2
      have e1 : (ps.map fun p => V.ref p.T)[j]? = some (.ref p.T) := by rw [List.getElem?_map, q'.1]; rfl
      obtain ⟨w, hw, rw'⟩ := ri.get e1
      cases rw'
      have e2 : (ps.map PT4.T).getD j 0 = p.T := by rw [List.getD_eq_getElem?_getD, List.getElem?_map, q'.1]; rfl
      exact ⟨by simp only [e2]; simpa using hw, by simp only [e2]; exact .inl t⟩
  · have e : ((ps.zip us).map fun q => (Value.ref q.1.b, q.2))[i]? = some (key, v) := e
    rw [List.getElem?_map] at e
    cases q : (ps.zip us)[i]? with
    | none => rw [q] at e; cases e
    | some y =>
      rw [q] at e
      cases e
      exact ⟨y.1.k, y.1.b, by rw [List.getElem?_map, q]; rfl, rfl⟩
  · obtain ⟨y, hy, rfl⟩ := List.mem_map.mp hx
    obtain ⟨j, hj⟩ := List.getElem?_of_mem hy
    have q' := List.getElem?_zip_eq_some.mp hj
    exact (at_ j y.1 y.2 q'.1 q'.2).2
/-- dict of a list of pairs, the keys tuples -/
def rDictT : List V → Hp → VK → Prop := fun xs H Q => ∃ (a : Addr) (ps : List PT4), xs = [.ref a] ∧ H a = some (.lst (ps.map fun p => .ref p.T)) ∧ Pairs4 H ps ∧ ∀ q, H q = none → Q (.ref q) (upd H q (.dT (mergeT [] ps)))
theorem call_dictT (hcalm : X.calm = true) (hu : X.A.units + 64 < cLine) : CallR X (.type "dict") rDictT := by
  intro pins s σ H xs us Q I r h
  obtain ⟨a, ps, rfl, ha, hp, q⟩ := h
  obtain ⟨u, rfl, ru⟩ := vals1 r
  cases ru
  obtain ⟨us, items, rv, lu, ok, hh, hk⟩ := pairs4_arg I ha hp
  obtain ⟨_, _, _, hz⟩ := I.list (.of ha)
  rw [List.length_map] at hz
  have P := PairArg.list (prog := X.prog) (w := X.w) a items (fun j => (ps.map PT4.T).getD j 0) ((ps.zip us).map fun q => (Value.ref q.1.b, q.2))
  have ln : ((ps.zip us).map fun q => (Value.ref q.1.b, q.2)).length = ps.length := by simp [lu]
  rw [ln] at P
  refine call_dict_pairsH P (I.ok.hd hcalm) (tupleKind_room_in1 (A := X.A.in1) (by show X.A.units + 1 + 1 < cLine; omega)) ok hh (fun h' hk' x hx => tupleKind_stays.stays (fun b o _ _ e _ => hk' b o (Nat.ne_of_lt (Heap.lt_size e)) (by simp) e) (hk x hx)) hz fun h' tk hd hkp => ?_
  have hkp' : ∀ b o, s.heap.get? b = some o → h'.get? b = some o := fun b o e => hkp b o (by simp) e
  have hn : H s.heap.objs.size = none := I.hok.fresh (Nat.le_refl _)
  obtain ⟨o, es, ep, ho, hx, hdt, he, his, hnd⟩ := hd
  have hm : (s.heap.objs.size == sysModules) = false := beq_eq_false_iff_ne.mpr (Nat.ne_of_gt I.big)
  refine ⟨.ref _, _, I.laid (t' := tk) (a := s.heap.objs.size) (o := .dT (mergeT [] ps)) hkp' (Nat.le_refl _) ?_, rfl, q _ hn⟩
  refine ⟨?_, hm, _, KT.keeps (KT.mergeT hp rv (.nil : KT H [] [])) (fun b ys e => by rw [upd_ne (ne_of_none e hn)]; exact e), o, es, ep, ho, hx, hdt, he, hnd⟩
  have := mergeT_len ps []
  simp only [List.length_nil] at this
  omega
/-- d.update of a list of pairs, the keys tuples -/
def rUpdT : V → List V → Hp → VK → Prop := fun x xs H Q => ∃ (d a : Addr) (kvs : List (List Key × V)) (ps : List PT4), x = .ref d ∧ xs = [.ref a] ∧ H d = some (.dT kvs) ∧ H a = some (.lst (ps.map fun p => .ref p.T)) ∧ Pairs4 H ps ∧ kvs.length + ps.length ≤ sizeLine ∧ Q .non (upd H d (.dT (mergeT kvs ps)))
theorem mt_updateT (hcalm : X.calm = true) (hu : X.A.units + 64 < cLine) : MtR X "dict.update" rUpdT := by
  intro pins s σ H x xs v us0 Q I rx r h
  obtain ⟨d, a, kvs, ps, rfl, rfl, hd, ha, hp, hl, q⟩ := h
  cases rx
  obtain ⟨u, rfl, ru⟩ := vals1 r
  cases ru
  obtain ⟨us, items, rv, lu, ok, hh, hk⟩ := pairs4_arg I ha hp
  have P := PairArg.list (prog := X.prog) (w := X.w) a items (fun j => (ps.map PT4.T).getD j 0) ((ps.zip us).map fun q => (Value.ref q.1.b, q.2))
  have ln : ((ps.zip us).map fun q => (Value.ref q.1.b, q.2)).length = ps.length := by simp [lu]
  rw [ln] at P
  obtain ⟨z, lo, xs, rel, dd⟩ := dt_rd I.hok (.inl hd)
  have lx : kvs.length = xs.length := Paired.length rel
  have hdf : d ∉ a :: (List.range ps.length).map (fun j => (ps.map PT4.T).getD j 0) := by
    intro hm
    rcases List.mem_cons.mp hm with e | hm
    · subst e
      rw [hd] at ha
      cases ha
    · obtain ⟨j, hj, e⟩ := List.mem_map.mp hm
      have hj := List.mem_range.mp hj
      have e2 : (ps.map PT4.T).getD j 0 = ps[j].T := by rw [List.getD_eq_getElem?_getD, List.getElem?_map, List.getElem?_eq_getElem hj]; rfl
      have := (hp ps[j] (List.getElem_mem hj)).1
      rw [← e2, e, hd] at this
      cases this
  obtain ⟨_, _, _, _, _, _, _, hisx, _⟩ := id dd
  have notd : ∀ h' : Heap, (∀ b o, b ≠ d → b ∉ ([] : List Addr) → s.heap.get? b = some o → h'.get? b = some o) → ∀ x ∈ xs ++ (ps.zip us).map (fun q => (q.1.k, q.1.b, q.2)), (tupleKind (mixKind X.prog X.w)).is h' x.1 x.2.1 := by
    intro h' hk' x hx
    have is0 : (tupleKind (mixKind X.prog X.w)).is s.heap x.1 x.2.1 := by
      rcases List.mem_append.mp hx with q | q
      · exact hisx x q
      · exact hk x q
    obtain ⟨o0, es0, ep0, ho0, _, hdt0, _⟩ := dd
    refine tupleKind_stays.stays (fun b o vs n e e2 => hk' b o ?_ (by simp) e) is0
    rintro rfl
    rw [ho0] at e
    cases e
    rw [hdt0] at e2
    cases e2
  refine call_update_pairsH P (I.ok.hd hcalm) (tupleKind_room_in1 (by omega)) ok hdf hh notd dd (by rw [← lx]; exact hl) fun h' tk hd' hkp => ?_
  have hkp' : ∀ b o, b ≠ d → s.heap.get? b = some o → h'.get? b = some o := fun b o n e => hkp b o n (by simp) e
  obtain ⟨o, es, ep, ho, hx, hdt, he, his, hnd⟩ := hd'
  refine ⟨.non, _, I.write (t' := tk) (x := d) (e := d) (o := .dT (mergeT kvs ps)) (by rw [hd]; trivial) (.inl rfl) hkp' ⟨o, ho⟩ ?_, rfl, q⟩
  refine ⟨?_, lo, _, KT.keeps (KT.mergeT hp rv rel) (fun b ys e => by rw [upd_ne (by rintro rfl; rw [hd] at e; cases e)]; exact e), o, es, ep, ho, hx, hdt, he, hnd⟩
  have := mergeT_len ps kvs
  omega
/-- d.update of a list of pairs, the keys ints or texts -/
def rUpdK : V → List V → Hp → VK → Prop := fun x xs H Q => ∃ (d a : Addr) (kvs : List (Key × V)) (ps : List (Addr × Key × V)), x = .ref d ∧ xs = [.ref a] ∧ H d = some (.dK kvs) ∧ H a = some (.lst (ps.map fun p => .ref p.1)) ∧ (∀ p ∈ ps, H p.1 = some (.tup [kV p.2.1, p.2.2])) ∧ kvs.length + ps.length ≤ sizeLine ∧ Q .non (upd H d (.dK (mergeK kvs (ps.map (·.2)))))
theorem paired_of {K : PySem.W.Frag} {H : Hp} : ∀ {ps : List (Addr × Key × V)}, (∀ p ∈ ps, H p.1 = some (.tup [kV p.2.1, p.2.2])) → Paired (fun p kv => SqT K H p [kV kv.1, kv.2]) (ps.map (·.1)) (ps.map (·.2))
  | [], _ => .nil
  | p :: ps, h => .cons (.of (h p (List.mem_cons_self ..))) (paired_of fun x hx => h x (List.mem_cons_of_mem _ hx))
theorem mt_updateK (hcalm : X.calm = true) : MtR X "dict.update" rUpdK := by
  intro pins s σ H x xs v us0 Q I rx r h
  obtain ⟨d, a, kvs, ps, rfl, rfl, hd, ha, hp, hl, q⟩ := h
  cases rx
  obtain ⟨u, rfl, ru⟩ := vals1 r
  cases ru
  obtain ⟨prs, rel2, hl2, hpr⟩ := pairs_of (X := X) I (paired_of hp)
  rw [List.length_map] at hl2
  have hus : ∀ (j : Nat) (q : Key × Value), prs[j]? = some q → ∃ (b : Addr) (u : Value), (ps.map (·.1))[j]? = some b ∧ IsTup s.heap b #[u, q.2] ∧ keyIs q.1 u = true := hpr
  -- the keys' own values
  obtain ⟨ks, hks⟩ : ∃ ks : List Value, ks.length = prs.length ∧ ∀ (j : Nat) (q : Key × Value) (u : Value), prs[j]? = some q → ks[j]? = some u → ∃ b, (ps.map (·.1))[j]? = some b ∧ IsTup s.heap b #[u, q.2] ∧ keyIs q.1 u = true := by
    clear q rel2 hl2 hl ha hd hp
    suffices h : ∀ (prs : List (Key × Value)) (bs : List Addr), (∀ (j : Nat) (q : Key × Value), prs[j]? = some q → ∃ (b : Addr) (u : Value), bs[j]? = some b ∧ IsTup s.heap b #[u, q.2] ∧ keyIs q.1 u = true) →
        ∃ ks : List Value, ks.length = prs.length ∧ ∀ (j : Nat) (q : Key × Value) (u : Value), prs[j]? = some q → ks[j]? = some u → ∃ b, bs[j]? = some b ∧ IsTup s.heap b #[u, q.2] ∧ keyIs q.1 u = true from h prs _ hpr
    intro prs
    induction prs with
    | nil => intro bs _; exact ⟨[], rfl, fun j q u e => by simp at e⟩
    | cons p ps ih =>
      intro bs h
      obtain ⟨b, u, e1, e2, e3⟩ := h 0 p rfl
      cases bs with
      | nil => simp at e1
      | cons b' bs =>
        obtain ⟨ks, h1, h2⟩ := ih bs fun j q e => by simpa using h (j + 1) q (by simpa using e)
        refine ⟨u :: ks, by simp [h1], fun j q w q1 q2 => ?_⟩
        cases j with
        | zero =>
          simp only [List.getElem?_cons_zero, Option.some.injEq] at q1 q2
          subst q1 q2
          exact ⟨b, e1, e2, e3⟩
        | succ j => simpa using h2 j q w (by simpa using q1) (by simpa using q2)
  obtain ⟨lk, hk⟩ := hks
  obtain ⟨its, ri, pl, _⟩ := I.list (.of ha)
  have li : its.length = ps.length := by rw [← ri.length, List.length_map]
  obtain ⟨o, n, ho, hc, hdd, hdat⟩ := pl
  have P := PairArg.list (prog := X.prog) (w := X.w) a its.toArray (fun j => (ps.map (·.1)).getD j 0) ((ks.zip prs).map fun q => (q.1, q.2.2))
  have ln : ((ks.zip prs).map fun q => (q.1, q.2.2)).length = ps.length := by simp [lk, hl2]
  rw [ln] at P
  have ok : PlainSeq "list" s.heap a its.toArray ∧ PairItems s.heap its.toArray (fun j => (ps.map (·.1)).getD j 0) ((ks.zip prs).map fun q => (q.1, q.2.2)) := by
    refine ⟨⟨o, n, ho, hc, hdd, hdat⟩, by simp [li, lk, hl2], fun j k v e => ?_⟩
    rw [List.getElem?_map] at e
    cases q : (ks.zip prs)[j]? with
    | none => rw [q] at e; cases e
    | some y =>
      rw [q] at e
      cases e
      have q' := List.getElem?_zip_eq_some.mp q
      obtain ⟨b, e1, e2, _⟩ := hk j y.2 y.1 q'.2 q'.1
      have e3 : (ps.map fun p => V.ref p.1)[j]? = some (.ref b) := by
        rw [List.getElem?_map] at e1 ⊢
        cases z : ps[j]? with
        | none => rw [z] at e1; cases e1
        | some p => rw [z] at e1; cases e1; rfl
      obtain ⟨w, hw, rw'⟩ := ri.get e3
      cases rw'
      have e4 : (ps.map (·.1)).getD j 0 = b := by rw [List.getD_eq_getElem?_getD, e1]; rfl
      exact ⟨by simp only [e4]; simpa using hw, by simp only [e4]; exact .inl e2⟩
  have hh : PairsHave (mixKind X.prog X.w) ps.length (PairRel ((ks.zip prs).map fun q => (q.1, q.2.2))) prs := by
    refine ⟨hl2, fun i key v e => ?_⟩
    have e : ((ks.zip prs).map fun q => (q.1, q.2.2))[i]? = some (key, v) := e
    rw [List.getElem?_map] at e
    cases q : (ks.zip prs)[i]? with
    | none => rw [q] at e; cases e
    | some y =>
      rw [q] at e
      cases e
      have q' := List.getElem?_zip_eq_some.mp q
      obtain ⟨b, _, _, e3⟩ := hk i y.2 y.1 q'.2 q'.1
      exact ⟨y.2.1, q'.2, e3⟩
  obtain ⟨z, lo, vs, rel, dd⟩ := dk_rd I.hok (.inl hd)
  have lx : kvs.length = vs.length := Paired.length rel
  have hdf : d ∉ a :: (List.range ps.length).map (fun j => (ps.map (·.1)).getD j 0) := by
    intro hm
    rcases List.mem_cons.mp hm with e | hm
    · subst e
      rw [hd] at ha
      cases ha
    · obtain ⟨j, hj, e⟩ := List.mem_map.mp hm
      have hj := List.mem_range.mp hj
      have e2 : (ps.map (·.1)).getD j 0 = ps[j].1 := by rw [List.getD_eq_getElem?_getD, List.getElem?_map, List.getElem?_eq_getElem hj]; rfl
      have := hp ps[j] (List.getElem_mem hj)
      rw [← e2, e, hd] at this
      cases this
  refine PySem.call_update_pairs P (I.ok.hd hcalm) ok hdf hh dd (by rw [← lx]; exact hl) fun h' tk hd' hkp => ?_
  have hkp' : ∀ b o, b ≠ d → s.heap.get? b = some o → h'.get? b = some o := fun b o n e => hkp b o n (by simp) e
  obtain ⟨o2, es, ep, ho2, hr2⟩ := id hd'
  refine ⟨.non, _, I.write (t' := tk) (x := d) (e := d) (o := .dK (mergeK kvs (ps.map (·.2)))) (by rw [hd]; trivial) (.inl rfl) hkp' ⟨o2, ho2⟩ ?_, rfl, q⟩
  refine ⟨?_, lo, _, KV.merge rel2 rel, hd'⟩
  have := length_mergeK (ps.map (·.2)) kvs
  rw [List.length_map] at this
  omega
/-! ### repr -/
def rRepr (K : PySem.W.Frag) : List V → Hp → VK → Prop := fun xs H Q => ∃ (x : V) (d : PyData), xs = [x] ∧ Dp K H x d ∧ d.canLay0 = true ∧ d.showable = true ∧ d.depth ≤ 32 ∧ d.shown.length ≤ sizeLine ∧ Q (.str d.shown) H
theorem call_repr (hg : X.A.guards = some []) (hu : X.A.units + 64 < cLine) : CallR X (.builtin "repr") (rRepr X.K) := by
  intro pins s σ H xs us Q I r h
  obtain ⟨x, d, rfl, hd, hl, hs, hdp, hz, q⟩ := h
  obtain ⟨u, rfl, ru⟩ := vals1 r
  obtain ⟨as, rd⟩ := Dp.reads I d x u hd ru
  cases rd with
  | none => exact PySem.P.repr_of_none ⟨.str _, H, I.tok _, ⟨_, rfl⟩, q⟩
  | bool b => exact PySem.P.repr_of_bool ⟨.str _, H, I.tok _, ⟨_, rfl⟩, q⟩
  | int i t => exact PySem.P.repr_of_int (of_decide_eq_true hs) ⟨.str _, H, I.tok _, ⟨_, rfl⟩, q⟩
  | str y t => exact PySem.P.repr_of_str ⟨.str _, H, I.tok _, ⟨_, rfl⟩, q⟩ hz
  | list h1 h2 h3 h4 =>
    exact repr_of_reads' (.list h1 h2 h3 h4) hs (PyData.noDict_hsm (PyData.hasDict_of_canLay _ hl)) hg (by omega) (fun _ _ e => e) (fun h' u tk hk => ⟨.str _, H, I.kept hk, ⟨_, rfl⟩, q⟩) hz
  | tuple h1 h2 h3 h4 =>
    exact repr_of_reads' (.tuple h1 h2 h3 h4) hs (PyData.noDict_hsm (PyData.hasDict_of_canLay _ hl)) hg (by omega) (fun _ _ e => e) (fun h' u tk hk => ⟨.str _, H, I.kept hk, ⟨_, rfl⟩, q⟩) hz
  | dict h1 h2 h3 h4 h5 => cases hd
end
end VT
/-! list(reversed(a list)) -/
namespace VT
open PySem PySem.Spec L2
open PyProof.Rows hiding St
section
variable {prog : Program} {w : World} {A : Around} {E : Value → Shared → Prop} {s : Shared} {it l S : Addr} {items : Array Value} {c₀ : Nat}
/-- the items of a reverse iterator are put behind an empty list at S -/
theorem extend_rev {R : Result → Shared → Prop} (res : Value) (hh : A.handled = none) (hit : s.heap.IsRevIter it l ((items.size : Int) - 1)) (hl : s.heap.IsList l items) (hne : l ≠ it) (hn : items.size ≤ sizeLine) (hS : s.heap.get? S = some { cls := .type "list", data := .seq #[] c₀ }) (hSi : S ≠ it) (hSl : S ≠ l)
    (k : ∀ (h' : Heap) (tk : Nat) (acc : Array Value) (c' : Nat), (∀ b o, b ≠ it → b ≠ S → s.heap.get? b = some o → h'.get? b = some o) → h'.get? S = some { cls := .type "list", dict := none, data := .seq acc c', slots := #[] } → ItemsOf (fun i v => items[items.size - 1 - i]? = some v) acc items.size → R (.ok (.ret res)) { s with heap := h', toks := tk }) :
    wpAny (model prog w) A.in1 (Builtin.List.listExtendWith (.ref S) (.ref it) res) (fun fin s' => match fin with | .done f => R (.ok f) s' | .again c' => c'.quiet = true ∧ codeAny (model prog w) A c' R s') (fun e s' => R (.error e) s') s := by
  have W := (Walks.listRev (prog := prog) (w := w) (A := A.in1) hh it l hne items).toS
  have hSf : S ∉ [it, l] := by
    intro q
    rcases List.mem_cons.mp q with q | q
    · exact hSi q
    · exact hSl (List.mem_singleton.mp q)
  have same : Builtin.List.listSameRef (.ref S) (.ref it) = false := by simp [Builtin.List.listSameRef, hSi]
  unfold Builtin.List.listExtendWith
  refine wpAny_bind (wpAny_typeOf hit.typeIs ?_)
  rw [if_neg (by rw [same]; decide)]
  refine wpAny_bind (wpAny_pyIter_revIter hit (wpAny_bind (wpAny_holding ?_)))
  unfold Builtin.List.listLengthHint
  refine wpAny_bind (wpAny_specialOf hit.typeIs RT.nolen_lri ?_)
  show wpAny _ A.in1 (specialOf (Value.ref it) (Str.ofString "__length_hint__") >>= _) _ _ _
  refine wpAny_bind (wpAny_specialOf hit.typeIs RT.hint_lri ?_)
  generalize hid : ("list_reverseiterator.__length_hint__" : String) = id0
  wp_delta
  rw [show splitId id0 = some ("list_reverseiterator", "__length_hint__") from by subst hid; decide +kernel]
  subst hid
  refine wpAny_bind (wpAny_isInstance (b := true) hit.typeIs (by rw [isSubtype_type]; kernel_rfl) (wpAny_pure ?_))
  rw [if_neg (by decide)]
  have e0 : ((items.size : Nat) : Int) - 1 - ((0 : Nat) : Int) = (items.size : Int) - 1 := by omega
  refine wpAny_pure ⟨plainId_quiet F.plain_extend_loop _, codeAny_extend_loopS W hn _ hSf _ items.size 0 _ _ _ rfl (Nat.zero_le _) ⟨Nat.zero_le _, by rw [e0]; exact hit, hl⟩ hS (ItemsOf.nil _) fun s' acc' c' hm hS' hacc => ?_⟩
  rw [Moved.eq_with hm]
  refine k s'.heap s'.toks acc' c' (fun b o hb hb2 e => hm.heap b o (fun hmem => ?_) e) hS' hacc
  rcases List.mem_cons.mp hmem with e' | hmem
  · exact hb2 e'
  · exact hb (List.mem_singleton.mp hmem)
theorem init_rev {R : Result → Shared → Prop} (hh : A.handled = none) (hit : s.heap.IsRevIter it l ((items.size : Int) - 1)) (hl : s.heap.IsList l items) (hne : l ≠ it) (hn : items.size ≤ sizeLine) (hS : s.heap.get? S = some { cls := .type "list", data := .seq #[] }) (hSi : S ≠ it) (hSl : S ≠ l)
    (k : ∀ (h' : Heap) (tk : Nat) (acc : Array Value) (c' : Nat), (∀ b o, b ≠ it → b ≠ S → s.heap.get? b = some o → h'.get? b = some o) → h'.get? S = some { cls := .type "list", dict := none, data := .seq acc c', slots := #[] } → ItemsOf (fun i v => items[items.size - 1 - i]? = some v) acc items.size → R (.ok (.ret .none)) { s with heap := h', toks := tk }) :
    wpAny (model prog w) A.in1 (Builtin.«list.__init__» ⟨[.ref S, .ref it], []⟩) (fun fin s' => match fin with | .done f => R (.ok f) s' | .again c' => c'.quiet = true ∧ codeAny (model prog w) A c' R s') (fun e s' => R (.error e) s') s := by
  show wpAny _ A.in1 (do let old ← Builtin.List.listItems (.ref S); Builtin.List.listUpdate (.ref S) (fun _ => #[]); letGo old.toList.reverse; Builtin.List.listExtendWith (.ref S) (.ref it) .none) _ _ s
  refine wpAny_bind ?_
  unfold Builtin.List.listItems
  refine wpAny_bind (wpAny_seqItems hS rfl (wpAny_pure ?_))
  show wpAny _ A.in1 (updateSeq S (fun _ => #[]) >>= fun _ => letGo (#[] : Array Value).toList.reverse >>= fun _ => Builtin.List.listExtendWith (.ref S) (.ref it) .none) _ _ s
  have oth : ∀ b o, b ≠ S → s.heap.get? b = some o → (s.heap.update S (Obj.mapSeq (fun _ => (#[] : Array Value)))).get? b = some o :=
    fun b o hb e => (Heap.get?_update_other _ _ (Ne.symm hb)).trans e
  have hl2 : (s.heap.update S (Obj.mapSeq (fun _ => (#[] : Array Value)))).IsList l items := by
    obtain ⟨o, ho, r⟩ := hl
    exact ⟨o, oth l o (Ne.symm hSl) ho, r⟩
  refine wpAny_bind (wpAny_updateSeq hS rfl (wpAny_bind (wpAny_letGo ?_)))
  exact extend_rev (c₀ := _) .none hh (hit.at fun o e => oth it o (Ne.symm hSi) e) hl2 hne hn (Heap.get?_update_self (Obj.mapSeq (fun _ => (#[] : Array Value))) hS rfl) hSi hSl
    fun h' tk acc c' hk hS' hi => k h' tk acc c' (fun b o h1 h2 e => hk b o h1 h2 (oth b o h2 e)) hS' hi
theorem call_list_rev {Q : Value → Shared → Prop} (hh : A.handled = none) (hit : s.heap.IsRevIter it l ((items.size : Int) - 1)) (hl : s.heap.IsList l items) (hne : l ≠ it) (hn : items.size ≤ sizeLine)
    (k : ∀ (h' : Heap) (tk : Nat) (acc : Array Value) (c' : Nat), (∀ b o, b ≠ it → s.heap.get? b = some o → h'.get? b = some o) → h'.get? s.heap.objs.size = some { cls := .type "list", dict := none, data := .seq acc c', slots := #[] } → ItemsOf (fun i v => items[items.size - 1 - i]? = some v) acc items.size → Q (.ref s.heap.objs.size) { s with heap := h', toks := tk }) :
    wpAny (model prog w) A (call (.type "list") [.ref it]) Q E s := by
  obtain ⟨oi, hoi, _⟩ := id hit
  obtain ⟨ol, hol, _⟩ := id hl
  refine callType_codes (Q₁ := fun obj s₁ => obj = .ref s.heap.objs.size ∧ s₁ = { s with heap := s.heap.push { cls := .type "list", data := .seq #[] } }) F.called_list (F.typeCall_list_1 _) F.entry_list_init (code_list_new _ ⟨rfl, rfl⟩) fun obj s₁ h₁ => ?_
  obtain ⟨rfl, rfl⟩ := h₁
  have hS : (s.heap.push { cls := .type "list", data := .seq #[] }).get? s.heap.objs.size = some { cls := .type "list", data := .seq #[] } := Heap.get?_push_size _ rfl
  refine ⟨⟨_, hS, rfl⟩, F.args_list_init_2 _ _, init_rev (A := A.in1) (items := items) hh (hit.at fun o e => Heap.get?_push_of_some _ e) (hl.push _) hne hn hS (Nat.ne_of_gt (Heap.lt_size hoi)) (Nat.ne_of_gt (Heap.lt_size hol)) fun h' tk acc c' hk hS' hacc => ?_⟩
  exact ⟨rfl, k h' tk acc c' (fun b o hb e => hk b o hb (Nat.ne_of_lt (Heap.lt_size e)) (Heap.get?_push_of_some _ e)) hS' hacc⟩
end
section
variable {X : Cx} {e : Expr} {te : TE} {p p2 pos pos2 : Pos}
def tLstRev (K : PySem.W.Frag) (te : TE) : TE := fun σ H Q => te σ H fun v H1 => ∃ (a : Addr) (xs : List V), v = .ref a ∧ SqL K H1 a xs ∧ ∀ q, H1 q = none → Q (.ref q) (upd H1 q (.lst xs.reverse))
theorem pe_listRev (hc : X.calm = true) (hg : Gl X "list") (hm : X.mg "list" = none) (hg2 : Gl X "reversed") (hm2 : X.mg "reversed" = none) (he : PE X e te)
    (hs : starEach [e] X.env = (false, eval e X.env) :: starEach [] X.env := by rfl)
    (hs2 : starEach [.Call (.Name "reversed" p2) [e] [] pos2] X.env = (false, eval (.Call (.Name "reversed" p2) [e] [] pos2) X.env) :: starEach [] X.env := by rfl) :
    PE X (.Call (.Name "list" p) [.Call (.Name "reversed" p2) [e] [] pos2] [] pos) (tLstRev X.K te) := by
  refine ⟨fun pins s σ H Q I h => Call_ (ld_blt I hg hm boot_list (PyProof.Rows.callWith_type1 (args_cons (Call_ (ld_blt I hg2 hm2 PyProof.Rows.boot_reversed (PyProof.Rows.callWith_type1 (args_cons (thn (he.run pins s σ H _ I h) fun u s1 ⟨v, H1, I1, r1, q1⟩ => args_nil ?_) hs) hs rfl))) hs2) hs2 rfl))⟩
  obtain ⟨a, xs, rfl, hq, q⟩ := q1
  obtain rfl : u = Value.ref a := r1
  obtain ⟨its, rv, p', hz⟩ := I1.list hq
  have hl := p'.isList
  refine call_reversed_list hl (args_nil ?_)
  have I2 : Inv X pins σ H1 { s1 with heap := s1.heap.push (revObj a ((its.toArray.size : Int) - 1)) } := I1.kept (t' := s1.toks) fun b o e => Heap.get?_push_of_some _ e
  obtain ⟨f0, f1, f2, f3, f4, f5⟩ := I1.fpOk (H' := H1) (b := s1.heap.objs.size) (Nat.le_refl _) (I1.hok.fresh (Nat.le_refl _))
  obtain ⟨ol, hol, _⟩ := id hl
  have hne : a ≠ s1.heap.objs.size := Nat.ne_of_lt (Heap.lt_size hol)
  have hn : its.toArray.size ≤ sizeLine := by rw [List.size_toArray, ← rv.length]; exact hz
  refine call_list_rev (s := { s1 with heap := s1.heap.push (revObj a ((its.toArray.size : Int) - 1)) }) (I1.ok.hd hc) ⟨_, Heap.get?_push_size _ rfl, rfl, rfl⟩ (hl.push _) hne hn fun h' tk acc c' hk hS hi => ?_
  have I3 : Inv X pins σ H1 { s1 with heap := h', toks := tk } := I2.turned (t' := tk) (fun b o hb e => hk b o hb e) f0 f1 f3 f4 f5
  have hf : H1 (s1.heap.push (revObj a ((its.toArray.size : Int) - 1))).objs.size = none := I2.hok.fresh (Nat.le_refl _)
  generalize hSe : (s1.heap.push (revObj a ((its.toArray.size : Int) - 1))).objs.size = S at hf hS hk ⊢
  refine ⟨.ref S, upd H1 S (.lst xs.reverse), ?_, rfl, q _ hf⟩
  have new : ObjOk X.prog X.w (upd H1 S (.lst xs.reverse)) h' S (.lst xs.reverse) := ⟨by rw [List.length_reverse]; exact hz, acc.toList, c', RT.vals_rev rv hi, by rw [Array.toArray_toList]; exact hS⟩
  have ok : HOk X.prog X.w (upd H1 S (.lst xs.reverse)) h' := fun b u eb => by
    by_cases hb : b = S
    · subst hb
      rw [upd_same] at eb
      cases eb
      exact new
    · rw [upd_ne hb] at eb
      exact (I3.hok b u eb).stay (fun c v _ q => q) (fun c q => by rw [upd_ne (ne_of_none q hf)]; exact q) fun c ys q => by rw [upd_ne (ne_of_none q hf)]; exact q
  have ltS : ∀ {b : Addr} {o : Obj}, (s1.heap.push (revObj a ((its.toArray.size : Int) - 1))).get? b = some o → b ≠ S := fun e => by
    have := Heap.lt_size e
    rw [hSe] at this
    exact Nat.ne_of_lt this
  have old : ∀ b o, b ≠ s1.heap.objs.size → (s1.heap.push (revObj a ((its.toArray.size : Int) - 1))).get? b = some o → h'.get? b = some o := fun b o hb e => hk b o hb e
  have isn : ∀ {b : Addr}, b ∉ [s1.heap.objs.size] → b ≠ s1.heap.objs.size := fun h z => h (by rw [z]; exact List.mem_singleton.mpr rfl)
  exact I2.step (g' := s1.gens) (d' := s1.drawn) (t' := tk) (ch := [s1.heap.objs.size]) (fun b hb => by
      obtain rfl := List.mem_singleton.mp hb
      exact ⟨f3, f1, f4, f5⟩) (fun b o _ _ hc e _ => old b o (isn hc) e) (fun b o _ _ hc e _ => ⟨o.slots, old b o (isn hc) e⟩) (fun b o _ e n => by rw [upd_ne (ltS e)]; exact n)
    (fun b o hc e => ⟨o, old b o (isn hc) e⟩) (fun b ys e => by rw [upd_ne (ne_of_none e hf)]; exact e) (fun b o u e => by rw [upd_ne (ne_of_none e hf)]; exact e) (fun b ps e => ⟨#[], by rw [upd_ne (ne_of_none e hf), e]; simp⟩)
    (fun m ⟨o, es, ep, ho, r⟩ => ⟨o, es, ep, old _ o (Ne.symm f1) ho, r⟩) ok I2.bare
end
end VT
namespace VS
open PySem PySem.Spec L2
open PyProof.Rows hiding St

/-! ### what a loop walks -/
def dRevI (t : DA) : DI := fun s P => t s fun ds s1 => match ds with
    | [.list es] => P es.reverse s1
    | _ => False
def dEnumI (t : DA) : DI := fun s P => t s fun ds s1 => match ds with
    | [.list es] => P (enumD 0 es) s1
    | _ => False
def dZipI (t : DA) : DI := fun s P => t s fun ds s1 => match ds with
    | [.list xs, .list ys] => P (zipD xs ys) s1
    | _ => False
section
variable {X : Cx} {tg a b : Expr} {ta : TA} {da : DA} {p pos tpos : Pos} {elts : List Expr} {kk : Nat}
theorem vi_range1 (hg : Gl X "range") (hm : X.mg "range" = none) (ha : VA X [a] ta da) (hs : starEach [a] X.env = [(false, eval a X.env)] := by rfl) : VI X tg (.Call (.Name "range" p) [a] [] pos) (iRng1 ta) (dRange1 da) := ⟨pi_range1 hg hm ha.pa hs, adq_range1 ha.adq⟩
theorem vi_range2 (hg : Gl X "range") (hm : X.mg "range" = none) (ha : VA X [a, b] ta da) (hs : starEach [a, b] X.env = [(false, eval a X.env), (false, eval b X.env)] := by rfl) (hs2 : starEach [b] X.env = [(false, eval b X.env)] := by rfl) : VI X tg (.Call (.Name "range" p) [a, b] [] pos) (iRng2 ta) (dRange2 da) := ⟨pi_range2 hg hm ha.pa hs hs2, adq_range2 ha.adq⟩
theorem vi_rev (hg : Gl X "reversed") (hm : X.mg "reversed" = none) (ha : VA X [a] ta da) (hs : starEach [a] X.env = [(false, eval a X.env)] := by rfl) : VI X tg (.Call (.Name "reversed" p) [a] [] pos) (iRev X.K ta) (dRevI da) := ⟨pi_reversed hg hm ha.pa hs, adq_rev ha.adq⟩
theorem vi_enum (hg : Gl X "enumerate") (hm : X.mg "enumerate" = none) (ha : VA X [a] ta da) (hs : starEach [a] X.env = [(false, eval a X.env)] := by rfl) : VI X (.Tuple elts kk tpos) (.Call (.Name "enumerate" p) [a] [] pos) (iEnum X.K ta) (dEnumI da) := ⟨pi_enum hg hm ha.pa hs, adq_enum ha.adq⟩
end

/-! ### calls of what is built in -/
section
variable {X : Cx} {x : Str} {p pos : Pos} {e : Expr} {es : List Expr} {t : TA} {da : DA} {id T : String} {r : List V → Hp → VK → Prop} {rd : D1}
theorem v_bc (hc : CallR X (.builtin id) r) (hv : CallV X.K r rd) (hg : Gl X x) (hm : X.mg x = none) (hb : bootBuiltins x = some (.builtin id)) (ha : VA X (e :: es) t da) (hn : x ≠ "__name__" := by decide) (hdb : (x == ("__debug__" : Str)) = false := by decide)
    (he : starEach (e :: es) X.env = (false, eval e X.env) :: starEach es X.env := by rfl) (hpl : (backTo pos (starEach es X.env)).any (·.1) = false := by rfl) : VE X (.Call (.Name x p) (e :: es) [] pos) (tCB r t) (dCall rd da) := ⟨pe_callB hc hg hm hb ha.pa hn hdb he hpl, adq_call hv ha.adq⟩
theorem v_bcO (hc : CallR X (.builtin id) r) (hv : CallVO X.K r rd) (hg : Gl X x) (hm : X.mg x = none) (hb : bootBuiltins x = some (.builtin id)) (ha : VA X (e :: es) t da) (hn : x ≠ "__name__" := by decide) (hdb : (x == ("__debug__" : Str)) = false := by decide)
    (he : starEach (e :: es) X.env = (false, eval e X.env) :: starEach es X.env := by rfl) (hpl : (backTo pos (starEach es X.env)).any (·.1) = false := by rfl) : VO X (.Call (.Name x p) (e :: es) [] pos) (tCB r t) (dCall rd da) := ⟨pe_callB hc hg hm hb ha.pa hn hdb he hpl, adq_callO hv ha.adq⟩
theorem v_ty (hc : CallR X (.type T) r) (hv : CallV X.K r rd) (hg : Gl X x) (hm : X.mg x = none) (hb : bootBuiltins x = some (.type T)) (ha : VA X (e :: es) t da) (hn : x ≠ "__name__" := by decide) (hdb : (x == ("__debug__" : Str)) = false := by decide)
    (he : starEach (e :: es) X.env = (false, eval e X.env) :: starEach es X.env := by rfl) (hpl : (backTo pos (starEach es X.env)).any (·.1) = false := by rfl) : VE X (.Call (.Name x p) (e :: es) [] pos) (tCB r t) (dCall rd da) := ⟨pe_callTy hc hg hm hb ha.pa hn hdb he hpl, adq_call hv ha.adq⟩
theorem v_tyO (hc : CallR X (.type T) r) (hv : CallVO X.K r rd) (hg : Gl X x) (hm : X.mg x = none) (hb : bootBuiltins x = some (.type T)) (ha : VA X (e :: es) t da) (hn : x ≠ "__name__" := by decide) (hdb : (x == ("__debug__" : Str)) = false := by decide)
    (he : starEach (e :: es) X.env = (false, eval e X.env) :: starEach es X.env := by rfl) (hpl : (backTo pos (starEach es X.env)).any (·.1) = false := by rfl) : VO X (.Call (.Name x p) (e :: es) [] pos) (tCB r t) (dCall rd da) := ⟨pe_callTy hc hg hm hb ha.pa hn hdb he hpl, adq_callO hv ha.adq⟩
/-- len of a name's own list -/
theorem v_lenB {i : Nat} {y : Str} {py : Pos} (hg : Gl X "len") (hm : X.mg "len" = none) (hv : bootBuiltins "len" = some (.builtin "len")) (h : PE X (.Name y py) (tVar i)) (hpl : (backTo pos (starEach ([] : List Expr) X.env)).any (·.1) = false := by rfl)
    (he : starEach [.Name y py] X.env = (false, eval (.Name y py) X.env) :: starEach [] X.env := by rfl) :
    VE X (.Call (.Name "len" p) [.Name y py] [] pos) (tCB (fun xs H Q => ∃ p ys, xs = [.ref p] ∧ (SqL X.K H p ys ∨ SqT X.K H p ys) ∧ Q (.int ys.length) H) (tCons (tVar i) tNil)) (dLenB i) :=
  ⟨pe_callB call_len_seq hg hm hv (pa_cons h pa_nil) (by decide) (by decide) he hpl, adq_lenB i⟩
end
/-! ### list(range(..)), tuple(range(..)) -/
abbrev DRg := S → (Int → Int → S → Prop) → Prop
abbrev TRg := St → Hp → (Int → Int → Hp → Prop) → Prop
structure VR (X : Cx) (e : Expr) (te : TRg) (t : DRg) : Prop where
  pr : PRg X e te
  adq : ∀ (g0 : Gh) (H0 : Hp) (g : Gh) (s : S) (σ : St) (H : Hp) (P : Int → Int → S → Prop) (Q : Int → Int → Hp → Prop), Rel X.K g0 H0 g s σ H → t s P → (∀ a b H' g' s', Step X.K g0 H0 g s σ H g' s' H' → P a b s' → Q a b H') → te σ H Q
def dRg1 (t : DE) : DRg := fun s P => t s fun d s1 => match d with
  | .int n => P 0 n s1
  | _ => False
def dRg2 (t u : DE) : DRg := fun s P => t s fun d s1 => u s1 fun e s2 => match d, e with
  | .int m, .int n => P m n s2
  | _, _ => False
def rgD (a b : Int) : List PyData := rangeD a (b - a).toNat
theorem rg_sees {K : PySem.W.Frag} {g : Gh} {H : Hp} (a b : Int) : SeesAll K g H (rgV a b) (rgD a b) := by
  unfold rgV rgD rangeD
  generalize List.range (b - a).toNat = l
  induction l with
  | nil => exact .nil
  | cons i l ih => exact .cons (.int _) ih
def dLstRg (t : DRg) : DE := fun s P => t s fun a b s1 => RgOk a b ∧ P (.list (rgD a b)) s1
def dTupRg (t : DRg) : DE := fun s P => t s fun a b s1 => RgOk a b ∧ P (.tuple (rgD a b)) s1
section
variable {X : Cx} {a b e : Expr} {ta tb : TE} {da db : DE} {tr : TRg} {dr : DRg} {p pos : Pos}
theorem vr_1 (hg : Gl X "range") (hm : X.mg "range" = none) (ha : VE X a ta da) (na : starEach [a] X.env = (false, eval a X.env) :: starEach [] X.env := by rfl) : VR X (.Call (.Name "range" p) [a] [] pos) (tRg1 ta) (dRg1 da) :=
  ⟨prg_1 hg hm ha.pe na, fun g0 H0 g s σ H P Q r h k => ha.adq g0 H0 g s σ H _ _ r h fun v H1 g1 s1 d st z p1 => by
    cases d <;> first | exact p1.elim | skip
    cases z
    exact ⟨_, rfl, k _ _ H1 g1 s1 st p1⟩⟩
theorem vr_2 (hg : Gl X "range") (hm : X.mg "range" = none) (ha : VE X a ta da) (hb : VE X b tb db) (na : starEach [a, b] X.env = (false, eval a X.env) :: starEach [b] X.env := by rfl) (nb : starEach [b] X.env = (false, eval b X.env) :: starEach [] X.env := by rfl) (hp : (backTo pos (starEach [b] X.env)).any (·.1) = false := by rfl) : VR X (.Call (.Name "range" p) [a, b] [] pos) (tRg2 ta tb) (dRg2 da db) :=
  ⟨prg_2 hg hm ha.pe hb.pe na nb hp, fun g0 H0 g s σ H P Q r h k => ha.adq g0 H0 g s σ H _ _ r h fun v H1 g1 s1 d st z p1 => hb.adq g0 H0 g1 s1 σ H1 _ _ st.rel p1 fun v2 H2 g2 s2 d2 st2 z2 p2 => by
    cases d <;> cases d2 <;> first | exact p2.elim | skip
    cases z
    cases z2
    exact ⟨_, _, rfl, rfl, k _ _ H2 g2 s2 (st.trans st2) p2⟩⟩
theorem v_lstRg (hc : X.calm = true) (hg : Gl X "list") (hm : X.mg "list" = none) (he : VR X e tr dr) (na : starEach [e] X.env = (false, eval e X.env) :: starEach [] X.env := by rfl) : VO X (.Call (.Name "list" p) [e] [] pos) (tLstRg tr) (dLstRg dr) :=
  ⟨pe_listRg hc hg hm he.pr na, fun g0 H0 g s σ H P Q r h k => he.adq g0 H0 g s σ H _ _ r h fun i j H1 g1 s1 st p1 => ⟨p1.1, fun q hq =>
    k q _ g1 s1 _ (st.laid hq) (st.new hq (.inl ⟨_, _, rfl, upd_same, rg_sees i j⟩)) p1.2⟩⟩
theorem v_tupRg (hc : X.calm = true) (hg : Gl X "tuple") (hm : X.mg "tuple" = none) (he : VR X e tr dr) (na : starEach [e] X.env = (false, eval e X.env) :: starEach [] X.env := by rfl) : VE X (.Call (.Name "tuple" p) [e] [] pos) (tTupRg tr) (dTupRg dr) :=
  ⟨pe_tupRg hc hg hm he.pr na, fun g0 H0 g s σ H P Q r h k => he.adq g0 H0 g s σ H _ _ r h fun i j H1 g1 s1 st p1 => ⟨p1.1, fun q hq =>
    k _ _ g1 s1 _ (st.laid hq) (.tup upd_same (rg_sees i j)) p1.2⟩⟩
end

/-! ### a list that its name keeps, compared -/
def asOwn (ρ : List Slot) (i : Nat) : Option PyData := match ρ[i]? with
  | some (.ow d) => some d
  | some (.sh d) => some d
  | _ => none
def dEqB (neg : Bool) (i : Nat) (u : DE) : DE := fun s P => (asOwn s.ρ i).isSome = true ∧ u s fun e s1 => ∃ d, asOwn s1.ρ i = some d ∧ SeqAt.shaped d = true ∧ SeqAt.shaped e = true ∧ P (.bool (if neg then !PyData.eqv d e else PyData.eqv d e)) s1
/-- x in a list that its name keeps -/
def dInB (neg : Bool) (t : DE) (i : Nat) : DE := fun s P => t s fun e s1 => ∃ ds, asOwn s1.ρ i = some (.list ds) ∧ SeqAt.shaped e = true ∧ SeqAt.shaped (.list ds) = true ∧ P (.bool (if neg then !(ds.any fun z => PyData.eqv z e) else ds.any fun z => PyData.eqv z e)) s1
section
variable {K : PySem.W.Frag} {g0 g : Gh} {H0 H : Hp} {s : S} {σ : St}
theorem OwnAt.dp {a : Addr} {d : PyData} (h : OwnAt K g H a d) (l : d.canLay0 = true) : Dp K H (.ref a) d := by
  rcases h with ⟨xs, ds, rfl, e, z⟩ | ⟨ks, kvs, rfl, _⟩ | ⟨ks, kvs, rfl, _⟩
  · exact .lst (.of e) (z.dp l)
  · cases l
  · cases l
theorem Rel.asOwn (r : Rel K g0 H0 g s σ H) {i : Nat} {d : PyData} (h : VS.asOwn s.ρ i = some d) (l : d.canLay0 = true) : ∃ v, σ[i]? = some (some v) ∧ Dp K H v d := by
  unfold VS.asOwn at h
  split at h
  · rename_i d' e
    cases h
    obtain ⟨a, ea, o⟩ := r.slot i _ e
    exact ⟨_, ea, o.dp l⟩
  · rename_i d' e
    cases h
    obtain ⟨v, ev, z⟩ := r.slot i _ e
    exact ⟨v, ev, z.dp l⟩
  · cases h
theorem Rel.asVal (r : Rel K g0 H0 g s σ H) {i : Nat} (h : (VS.asOwn s.ρ i).isSome = true) : ∃ v, σ[i]? = some (some v) := by
  unfold VS.asOwn at h
  split at h
  · rename_i d' e
    obtain ⟨a, ea, o⟩ := r.slot i _ e
    exact ⟨_, ea⟩
  · rename_i d' e
    obtain ⟨v, ev, z⟩ := r.slot i _ e
    exact ⟨v, ev⟩
  · cases h
theorem adq_eqB (i : Nat) {te : TE} {u : DE} (h : AdqE K te u) : AdqE K (tOp (rEqD K) (tVar i) te) (dEqB false i u) := by
  intro g0 H0 g s σ H P Q r p k
  obtain ⟨p0, p⟩ := p
  obtain ⟨v0, e0⟩ := r.asVal p0
  refine ⟨v0, e0, h g0 H0 g s σ H _ _ r p fun y H1 g1 s1 d1 st z ⟨d, a1, a2, a3, a4⟩ => ?_⟩
  obtain ⟨v, ev, dp⟩ := st.rel.asOwn a1 (lay_of_shaped a2)
  rw [e0] at ev
  cases ev
  exact ⟨d, d1, dp, z.dp (lay_of_shaped a3), a2, a3, k _ H1 g1 s1 _ st (.bl _) a4⟩
theorem adq_neB (i : Nat) {te : TE} {u : DE} (h : AdqE K te u) : AdqE K (tOp (rNeD K) (tVar i) te) (dEqB true i u) := by
  intro g0 H0 g s σ H P Q r p k
  obtain ⟨p0, p⟩ := p
  obtain ⟨v0, e0⟩ := r.asVal p0
  refine ⟨v0, e0, h g0 H0 g s σ H _ _ r p fun y H1 g1 s1 d1 st z ⟨d, a1, a2, a3, a4⟩ => ?_⟩
  obtain ⟨v, ev, dp⟩ := st.rel.asOwn a1 (lay_of_shaped a2)
  rw [e0] at ev
  cases ev
  exact ⟨d, d1, dp, z.dp (lay_of_shaped a3), a2, a3, k _ H1 g1 s1 _ st (.bl _) a4⟩
theorem adq_inB (i : Nat) {te : TE} {u : DE} (h : AdqE K te u) : AdqE K (tOp (rInD K) te (tVar i)) (dInB false u i) := by
  intro g0 H0 g s σ H P Q r p k
  refine h g0 H0 g s σ H _ _ r p fun y H1 g1 s1 d1 st z ⟨ds, a1, a2, a3, a4⟩ => ?_
  obtain ⟨v, ev, dp⟩ := st.rel.asOwn a1 (lay_of_shaped a3)
  exact ⟨v, ev, d1, ds, z.dp (lay_of_shaped a2), dp, a2, a3, k _ H1 g1 s1 _ st (.bl _) a4⟩
theorem adq_notInB (i : Nat) {te : TE} {u : DE} (h : AdqE K te u) : AdqE K (tOp (rNotInD K) te (tVar i)) (dInB true u i) := by
  intro g0 H0 g s σ H P Q r p k
  refine h g0 H0 g s σ H _ _ r p fun y H1 g1 s1 d1 st z ⟨ds, a1, a2, a3, a4⟩ => ?_
  obtain ⟨v, ev, dp⟩ := st.rel.asOwn a1 (lay_of_shaped a3)
  exact ⟨v, ev, d1, ds, z.dp (lay_of_shaped a2), dp, a2, a3, k _ H1 g1 s1 _ st (.bl _) a4⟩
end
section
variable {X : Cx} {a b : Expr} {ta tb : TE} {da db : DE} {pos : Pos} {i : Nat}
theorem vt_eqB (hu : X.A.units + 64 < cLine) (ho : OpR X (compareOp .Eq) (rEqD X.K)) (ha : PE X a (tVar i)) (hb : VE X b tb db) (hm : behindInMarks .Eq b = false) : VT X (.Compare a [.Eq] [b] pos) (tTest (tOp (rEqD X.K) (tVar i) tb)) (dTest (dEqB false i db)) := ⟨pt_cmpR ho ha hb.pe hm, adq_test (adq_eqB i hb.adq)⟩
theorem vt_neB (ho : OpR X (compareOp .NotEq) (rNeD X.K)) (ha : PE X a (tVar i)) (hb : VE X b tb db) (hm : behindInMarks .NotEq b = false) : VT X (.Compare a [.NotEq] [b] pos) (tTest (tOp (rNeD X.K) (tVar i) tb)) (dTest (dEqB true i db)) := ⟨pt_cmpR ho ha hb.pe hm, adq_test (adq_neB i hb.adq)⟩
theorem vt_inB (hu : X.A.units + 65 < cLine) (ha : VE X a ta da) (hb : PE X b (tVar i)) (hm : behindInMarks .In b = false) : VT X (.Compare a [.In] [b] pos) (tTest (tOp (rInD X.K) ta (tVar i))) (dTest (dInB false da i)) := ⟨pt_cmpR (op_inD hu) ha.pe hb hm, adq_test (adq_inB i ha.adq)⟩
theorem vt_notInB (hu : X.A.units + 65 < cLine) (ha : VE X a ta da) (hb : PE X b (tVar i)) (hm : behindInMarks .NotIn b = false) : VT X (.Compare a [.NotIn] [b] pos) (tTest (tOp (rNotInD X.K) ta (tVar i))) (dTest (dInB true da i)) := ⟨pt_cmpR (op_notInD hu) ha.pe hb hm, adq_test (adq_notInB i ha.adq)⟩
end

/-! ### in -/
theorem op_inDict {X : Cx} (hu : X.A.units + 1 < cLine) : OpR X (compareOp .In) (fun y x H Q => ∃ a o, x = .ref a ∧ DGet H a y o ∧ Q (.bl o.isSome) H) := by
  intro pins s σ H y x v u Q I ry rx h
  obtain ⟨a, o, rfl, g, q⟩ := h
  cases rx
  exact d_in hu I g ry fun s' I' => ⟨.bl _, H, I', rfl, q⟩
theorem op_notInDict {X : Cx} (hu : X.A.units + 1 < cLine) : OpR X (compareOp .NotIn) (fun y x H Q => ∃ a o, x = .ref a ∧ DGet H a y o ∧ Q (.bl (!o.isSome)) H) := by
  intro pins s σ H y x v u Q I ry rx h
  obtain ⟨a, o, rfl, g, q⟩ := h
  cases rx
  exact d_notIn hu I g ry fun s' I' => ⟨.bl _, H, I', rfl, q⟩

/-! ### dicts over data -/
section
variable {κ : Type} [DecidableEq κ]
def hasD (m : List (κ × PyData)) (k : κ) : Bool := m.any fun p => decide (p.1 = k)
def lookD (m : List (κ × PyData)) (k : κ) : Option PyData := (m.find? fun p => decide (p.1 = k)).map (·.2)
def putD (m : List (κ × PyData)) (k : κ) (d : PyData) : List (κ × PyData) := if hasD m k = true then m.map (fun p => if p.1 = k then (p.1, d) else p) else m ++ [(k, d)]
def mergeD (m : List (κ × PyData)) (ps : List (κ × PyData)) : List (κ × PyData) := ps.foldl (fun acc p => putD acc p.1 p.2) m
/-- the two sides of a dict: keys alike, values seen -/
inductive Two (K : PySem.W.Frag) (g : Gh) (H : Hp) : List (κ × V) → List (κ × PyData) → Prop
  | nil : Two K g H [] []
  | cons {k : κ} {v : V} {d : PyData} {a : List (κ × V)} {m : List (κ × PyData)} : Sees K g H v d → Two K g H a m → Two K g H ((k, v) :: a) ((k, d) :: m)
variable {K : PySem.W.Frag} {g g' : Gh} {H H' : Hp} {a : List (κ × V)} {m : List (κ × PyData)} {k : κ} {v : V} {d : PyData}
theorem Two.stay (s : Stay g H g' H') (h : Two K g H a m) : Two K g' H' a m := by
  induction h with
  | nil => exact .nil
  | cons z _ ih => exact .cons (z.stay s) ih
theorem Two.len (h : Two K g H a m) : a.length = m.length := by
  induction h with
  | nil => rfl
  | cons _ _ ih => simp [ih]
theorem Two.any (h : Two K g H a m) : (a.any fun p => decide (p.1 = k)) = hasD m k := by
  unfold hasD
  induction h with
  | nil => rfl
  | cons _ _ ih => simp [ih]
theorem Two.has (h : Two K g H a m) : (valV a k).isSome = hasD m k := by
  rw [← valV_any, h.any]
theorem Two.look (h : Two K g H a m) (e : lookD m k = some d) : ∃ v, valV a k = some v ∧ Sees K g H v d := by
  induction h with
  | nil => cases e
  | @cons k' v' d' a m z t ih =>
    by_cases q : k' = k
    · rw [valV_pos (p := (k', v')) q]
      simp only [lookD, List.find?_cons, q, decide_true, Option.map_some, Option.some.injEq] at e
      subst e
      exact ⟨_, rfl, z⟩
    · rw [valV_neg (p := (k', v')) q]
      refine ih ?_
      simpa [lookD, List.find?_cons, q] using e
theorem Two.snoc (h : Two K g H a m) (z : Sees K g H v d) : Two K g H (a ++ [(k, v)]) (m ++ [(k, d)]) := by
  induction h with
  | nil => exact .cons z .nil
  | cons z' _ ih => exact .cons z' ih
theorem Two.upd (h : Two K g H a m) (z : Sees K g H v d) : Two K g H (a.map fun p => if p.1 = k then (p.1, v) else p) (m.map fun p => if p.1 = k then (p.1, d) else p) := by
  induction h with
  | nil => exact .nil
  | @cons k' v' d' a m z' _ ih =>
    rw [List.map_cons, List.map_cons]
    by_cases q : k' = k
    · simp only [q, if_true]
      exact .cons z ih
    · simp only [q, if_false]
      exact .cons z' ih
theorem Two.put (h : Two K g H a m) (z : Sees K g H v d) : Two K g H (putK a k v) (putD m k d) := by
  unfold putK putD
  rw [h.any]
  split
  · exact h.upd z
  · exact h.snoc z
end
theorem keyD_inj {a b : Key} (h : keyD a = keyD b) : a = b := by
  cases a <;> cases b <;> simp [keyD] at h <;> rw [h]
theorem keysD_inj : ∀ {a b : List Key}, a.map keyD = b.map keyD → a = b
  | [], [], _ => rfl
  | [], _ :: _, h => by simp at h
  | _ :: _, [], h => by simp at h
  | x :: a, y :: b, h => by
    rw [List.map_cons, List.map_cons, List.cons.injEq] at h
    rw [keyD_inj h.1, keysD_inj h.2]
/-- pairs of a dict of tuples, of ints and texts -/
def toT (m : List (List Key × PyData)) : List (PyData × PyData) := m.map fun p => (.tuple (p.1.map keyD), p.2)
def toK (m : List (Key × PyData)) : List (PyData × PyData) := m.map fun p => (keyD p.1, p.2)
section
variable {K : PySem.W.Frag} {g : Gh} {H : Hp}
theorem SeesT.two : ∀ {a : List (List Key × V)} {m : List (List Key × PyData)}, SeesT K g H a (toT m) → Two K g H a m
  | [], [], _ => .nil
  | [], _ :: _, h => nomatch h
  | _ :: _, [], h => nomatch h
  | (k, v) :: a, (k', d) :: m, h => by
    have h : SeesT K g H ((k, v) :: a) ((PyData.tuple (k'.map keyD), d) :: toT m) := h
    generalize e : PyData.tuple (k'.map keyD) = kd at h
    cases h with
    | cons z t =>
      rw [PyData.tuple.injEq] at e
      rw [keysD_inj e]
      exact .cons z (SeesT.two t)
theorem Two.seesT {a : List (List Key × V)} {m : List (List Key × PyData)} (h : Two K g H a m) : SeesT K g H a (toT m) := by
  induction h with
  | nil => exact .nil
  | cons z _ ih => exact .cons z ih
theorem SeesK.two : ∀ {a : List (Key × V)} {m : List (Key × PyData)}, SeesK K g H a (toK m) → Two K g H a m
  | [], [], _ => .nil
  | [], _ :: _, h => nomatch h
  | _ :: _, [], h => nomatch h
  | (k, v) :: a, (k', d) :: m, h => by
    have h : SeesK K g H ((k, v) :: a) ((keyD k', d) :: toK m) := h
    generalize e : keyD k' = kd at h
    cases h with
    | cons z t =>
      rw [keyD_inj e]
      exact .cons z (SeesK.two t)
theorem Two.seesK {a : List (Key × V)} {m : List (Key × PyData)} (h : Two K g H a m) : SeesK K g H a (toK m) := by
  induction h with
  | nil => exact .nil
  | cons z _ ih => exact .cons z ih
/-- a tuple of keys, a key -/
theorem SeesAll.keys : ∀ {xs : List V} {ks : List Key}, SeesAll K g H xs (ks.map keyD) → xs = ks.map kV
  | [], [], _ => rfl
  | [], _ :: _, h => nomatch h
  | _ :: _, [], h => nomatch h
  | x :: xs, k :: ks, h => by
    cases h with
    | cons a r =>
      rw [SeesAll.keys r]
      cases k <;> (cases a; rfl)
theorem Sees.key {v : V} {k : Key} (h : Sees K g H v (keyD k)) : v = kV k := by
  cases k <;> (cases h; rfl)
theorem Sees.keysT {v : V} {k : List Key} (h : Sees K g H v (.tuple (k.map keyD))) : ∃ b, v = .ref b ∧ H b = some (.tup (k.map kV)) := by
  generalize e : PyData.tuple (k.map keyD) = d at h
  cases h <;> first | (cases e; done) | skip
  rename_i b xs ds h z
  rw [PyData.tuple.injEq] at e
  subst e
  rw [z.keys] at h
  exact ⟨_, rfl, h⟩
end
/-- an int in ints; any datum in a list of data; a key in a dict -/
def dIn (neg : Bool) : D2 := fun d e P => (∃ (i : Int) (ns : List Int), d = .int i ∧ (e = .list (ns.map .int) ∨ e = .tuple (ns.map .int)) ∧ P (.bool (if neg then !(decide (i ∈ ns)) else decide (i ∈ ns)))) ∨
  (∃ es, e = .list es ∧ SeqAt.shaped d = true ∧ SeqAt.shaped (.list es) = true ∧ P (.bool (if neg then !(es.any fun z => PyData.eqv z d) else es.any fun z => PyData.eqv z d))) ∨
  (∃ (k : List Key) (m : List (List Key × PyData)), d = .tuple (k.map keyD) ∧ e = dictT (toT m) ∧ P (.bool (if neg then !hasD m k else hasD m k))) ∨
  (∃ (k : Key) (m : List (Key × PyData)), d = keyD k ∧ e = dictK (toK m) ∧ P (.bool (if neg then !hasD m k else hasD m k)))
abbrev rInA (K : PySem.W.Frag) : R2 := fun y x H Q => rIn K false y x H Q ∨ (rInD K y x H Q ∨ ∃ a o, x = .ref a ∧ DGet H a y o ∧ Q (.bl o.isSome) H)
abbrev rNotInA (K : PySem.W.Frag) : R2 := fun y x H Q => rIn K true y x H Q ∨ (rNotInD K y x H Q ∨ ∃ a o, x = .ref a ∧ DGet H a y o ∧ Q (.bl (!o.isSome)) H)
theorem op_inA {X : Cx} (hu : X.A.units + 65 < cLine) : OpR X (compareOp .In) (rInA X.K) := op_in_seq.or ((op_inD hu).or (op_inDict (by omega)))
theorem op_notInA {X : Cx} (hu : X.A.units + 65 < cLine) : OpR X (compareOp .NotIn) (rNotInA X.K) := op_notIn_seq.or ((op_notInD hu).or (op_notInDict (by omega)))
theorem inV_ints (i : Int) (ns : List Int) : inV (.int i) (ns.map V.int) = decide (i ∈ ns) := by
  unfold inV
  induction ns with
  | nil => simp
  | cons n ns ih =>
    rw [List.map_cons, List.any_cons, ih]
    by_cases q : n = i
    · subst q; simp [eqV]
    · simp [eqV, q, Ne.symm q]
theorem flats (ns : List Int) : (ns.map V.int).all flatV = true := by simp [flatV]
theorem Sees.dictT {K : PySem.W.Frag} {g : Gh} {H : Hp} {v : V} {m : List (List Key × PyData)} (h : Sees K g H v (VS.dictT (toT m))) : ∃ a ks, v = .ref a ∧ g.F a ∧ H a = some (.dT ks) ∧ Two K g H ks m := by
  generalize e : VS.dictT (toT m) = d at h
  cases h <;> first | (cases e; done) | skip
  · rename_i f q z
    rw [PyData.dict.injEq, List.cons.injEq] at e
    obtain ⟨_, e⟩ := e
    subst e
    exact ⟨_, _, rfl, f, q, z.two⟩
theorem Sees.dictK {K : PySem.W.Frag} {g : Gh} {H : Hp} {v : V} {m : List (Key × PyData)} (h : Sees K g H v (VS.dictK (toK m))) : ∃ a ks, v = .ref a ∧ g.F a ∧ H a = some (.dK ks) ∧ Two K g H ks m := by
  generalize e : VS.dictK (toK m) = d at h
  cases h <;> first | (cases e; done) | skip
  · rename_i f q z
    rw [PyData.dict.injEq, List.cons.injEq] at e
    obtain ⟨_, e⟩ := e
    subst e
    exact ⟨_, _, rfl, f, q, z.two⟩
theorem opv_in {K : PySem.W.Frag} : OpV K (rInA K) (dIn false) := by
  intro g H x y d e P Q ft hx hy hr k
  rcases hr with ⟨i, ns, rfl, he, p⟩ | ⟨es, rfl, s1, s2, p⟩ | ⟨kk, m, rfl, rfl, p⟩ | ⟨kk, m, rfl, rfl, p⟩
  · cases hx
    have p : P (.bool (decide (i ∈ ns))) := p
    rw [← inV_ints] at p
    rcases he with rfl | rfl
    · cases hy with
      | lst f q z =>
        rw [z.ints] at q
        exact .inl ⟨_, _, rfl, .inl (.of q), rfl, flats ns, k _ _ g _ .refl (.bl _) p⟩
    · cases hy with
      | tup q z =>
        rw [z.ints] at q
        exact .inl ⟨_, _, rfl, .inr (.of q), rfl, flats ns, k _ _ g _ .refl (.bl _) p⟩
  · exact .inr (.inl ⟨_, _, hx.dp (lay_of_shaped s1), hy.dp (lay_of_shaped s2), s1, s2, k _ _ g _ .refl (.bl _) p⟩)
  · obtain ⟨b, rfl, e⟩ := hx.keysT
    obtain ⟨a, ks, rfl, f, q, t⟩ := hy.dictT
    refine .inr (.inr ⟨a, _, rfl, .t q e, k _ _ g _ .refl (.bl _) ?_⟩)
    rw [t.has]
    exact p
  · obtain rfl := hx.key
    obtain ⟨a, ks, rfl, f, q, t⟩ := hy.dictK
    refine .inr (.inr ⟨a, _, rfl, .k q, k _ _ g _ .refl (.bl _) ?_⟩)
    rw [t.has]
    exact p
theorem opv_notIn {K : PySem.W.Frag} : OpV K (rNotInA K) (dIn true) := by
  intro g H x y d e P Q ft hx hy hr k
  rcases hr with ⟨i, ns, rfl, he, p⟩ | ⟨es, rfl, s1, s2, p⟩ | ⟨kk, m, rfl, rfl, p⟩ | ⟨kk, m, rfl, rfl, p⟩
  · cases hx
    have p : P (.bool (!decide (i ∈ ns))) := p
    rw [← inV_ints] at p
    rcases he with rfl | rfl
    · cases hy with
      | lst f q z =>
        rw [z.ints] at q
        exact .inl ⟨_, _, rfl, .inl (.of q), rfl, flats ns, k _ _ g _ .refl (.bl _) p⟩
    · cases hy with
      | tup q z =>
        rw [z.ints] at q
        exact .inl ⟨_, _, rfl, .inr (.of q), rfl, flats ns, k _ _ g _ .refl (.bl _) p⟩
  · exact .inr (.inl ⟨_, _, hx.dp (lay_of_shaped s1), hy.dp (lay_of_shaped s2), s1, s2, k _ _ g _ .refl (.bl _) p⟩)
  · obtain ⟨b, rfl, e⟩ := hx.keysT
    obtain ⟨a, ks, rfl, f, q, t⟩ := hy.dictT
    refine .inr (.inr ⟨a, _, rfl, .t q e, k _ _ g _ .refl (.bl _) ?_⟩)
    rw [t.has]
    exact p
  · obtain rfl := hx.key
    obtain ⟨a, ks, rfl, f, q, t⟩ := hy.dictK
    refine .inr (.inr ⟨a, _, rfl, .k q, k _ _ g _ .refl (.bl _) ?_⟩)
    rw [t.has]
    exact p

end VS
namespace VS
open PySem PySem.Spec L2
open PyProof.Rows hiding St
open PySem.W (dataLe)

/-! ### sorted -/
def sortD (xs : List PyData) : List PyData := xs.mergeSort (dataLe false id)
/-- of a list of data, of a dict's keys -/
def dSorted : D1 := fun ds P => (∃ xs, ds = [.list xs] ∧ SeqAt.shaped (.list xs) = true ∧ VT.SortOk xs ∧ P (.list (sortD xs))) ∨
  (∃ m : List (List Key × PyData), ds = [dictT (toT m)] ∧ VT.SortOk (m.map fun p => .tuple (p.1.map keyD)) ∧ P (.list (sortD (m.map fun p => .tuple (p.1.map keyD))))) ∨
  (∃ m : List (Key × PyData), ds = [dictK (toK m)] ∧ VT.SortOk (m.map fun p => keyD p.1) ∧ P (.list (sortD (m.map fun p => keyD p.1))))
abbrev rSortedA (K : PySem.W.Frag) : List V → Hp → VK → Prop := fun xs H Q => VT.rSortD K xs H Q ∨ (VT.rSortDT K xs H Q ∨ VT.rSortDK K xs H Q)
theorem cr_sortedA {X : Cx} (hc : X.calm = true) (hu : X.A.units + 64 < cLine) : CallR X (.builtin "sorted") (rSortedA X.K) := (VT.cr_sortD hu).or ((VT.cr_sortDT hc hu).or (VT.cr_sortDK hc hu))
theorem sort_bs (bs : List (V × PyData)) : (bs.mergeSort (dataLe false (·.2))).map (·.2) = sortD (bs.map (·.2)) := by
  unfold sortD
  exact List.map_mergeSort fun a _ b _ => rfl
section
variable {K : PySem.W.Frag} {g : Gh} {H : Hp}
theorem seesAll_bs : ∀ {bs : List (V × PyData)}, (∀ b ∈ bs, Sees K g H b.1 b.2) → SeesAll K g H (bs.map (·.1)) (bs.map (·.2))
  | [], _ => .nil
  | b :: bs, h => .cons (h b (List.mem_cons_self ..)) (seesAll_bs fun x hx => h x (List.mem_cons_of_mem _ hx))
theorem SeesAll.zip : ∀ {xs : List V} {ds : List PyData}, SeesAll K g H xs ds → (xs.zip ds).map (·.1) = xs ∧ (xs.zip ds).map (·.2) = ds ∧ ∀ b ∈ xs.zip ds, Sees K g H b.1 b.2
  | _, _, .nil => ⟨rfl, rfl, fun b h => by cases h⟩
  | _, _, .cons z r => by
    obtain ⟨h1, h2, h3⟩ := SeesAll.zip r
    refine ⟨by simp [h1], by simp [h2], fun b hb => ?_⟩
    rw [List.zip_cons_cons] at hb
    rcases List.mem_cons.mp hb with rfl | hb
    · exact z
    · exact h3 b hb
theorem sorted_sees {bs : List (V × PyData)} (h : ∀ b ∈ bs, Sees K g H b.1 b.2) : SeesAll K g H ((bs.mergeSort (dataLe false (·.2))).map (·.1)) (sortD (bs.map (·.2))) := by
  rw [← sort_bs]
  exact seesAll_bs fun b hb => h b (List.mem_mergeSort.mp hb)
theorem keys_sees : ∀ (ks : List Key), SeesAll K g H (ks.map kV) (ks.map keyD)
  | [] => .nil
  | .inl i :: ks => .cons (.int i) (keys_sees ks)
  | .inr x :: ks => .cons (.str x) (keys_sees ks)
theorem key_sees (k : Key) : Sees K g H (kV k) (keyD k) := by
  cases k
  · exact .int _
  · exact .str _
theorem Two.keys {κ : Type} [DecidableEq κ] {a : List (κ × V)} {m : List (κ × PyData)} (h : Two K g H a m) : a.map (·.1) = m.map (·.1) := by
  induction h with
  | nil => rfl
  | cons _ _ ih => rw [List.map_cons, List.map_cons, ih]
theorem canLayAll_mem : ∀ {ds : List PyData} {d : PyData}, PyData.canLayAll0 ds = true → d ∈ ds → d.canLay0 = true
  | e :: ds, d, h, hd => by
    have h' : e.canLay0 = true ∧ PyData.canLayAll0 ds = true := by simpa [PyData.canLayAll0] using h
    rcases List.mem_cons.mp hd with rfl | hd
    · exact h'.1
    · exact canLayAll_mem h'.2 hd
theorem callv_sorted : CallVO K (rSortedA K) dSorted := by
  intro g H xs ds P Q ft z hr k
  rcases hr with ⟨es, rfl, hsh, hs, p⟩ | ⟨m, rfl, hs, p⟩ | ⟨m, rfl, hs, p⟩
  · obtain ⟨a, ys, rfl, e, q⟩ := one_list z
    obtain ⟨h1, h2, h3⟩ := q.zip
    refine .inl ⟨a, ys.zip es, rfl, by rw [h1]; exact .inl (.inl e), fun b hb => (h3 b hb).dp ?_, by rw [h2]; exact hs, fun p' hp => ?_⟩
    · have hl : PyData.canLayAll0 es = true := lay_of_shaped hsh
      refine canLayAll_mem hl ?_
      rw [← h2]
      exact List.mem_map_of_mem hb
    · have := sorted_sees h3
      rw [h2] at this
      exact OpVO.lay (P := P) ft this p k p' hp
  · obtain ⟨v, rfl, z1⟩ : ∃ v, xs = [v] ∧ Sees K g H v (dictT (toT m)) := by
      cases z with
      | cons z1 z2 =>
        cases z2
        exact ⟨_, rfl, z1⟩
    obtain ⟨a, ks, rfl, f, e, t⟩ := z1.dictT
    have ek : VT.keysD ks = m.map fun p => .tuple (p.1.map keyD) := by
      have := congrArg (List.map fun k : List Key => PyData.tuple (k.map keyD)) t.keys
      rw [List.map_map, List.map_map] at this
      exact this
    refine .inr (.inl ⟨a, ks, rfl, e, by rw [ek]; exact hs, fun p' bs hp hb hm => ?_⟩)
    have sb : ∀ b ∈ bs, Sees K g H b.1 b.2 := fun b hb => by
      obtain ⟨q, kk, rfl, e⟩ := hm b hb
      exact .tup e (keys_sees kk)
    have := sorted_sees sb
    rw [hb, ek] at this
    exact OpVO.lay (P := P) ft this p k p' hp
  · obtain ⟨v, rfl, z1⟩ : ∃ v, xs = [v] ∧ Sees K g H v (dictK (toK m)) := by
      cases z with
      | cons z1 z2 =>
        cases z2
        exact ⟨_, rfl, z1⟩
    obtain ⟨a, ks, rfl, f, e, t⟩ := z1.dictK
    have ek : (ks.map fun kv => keyD kv.1) = m.map fun p => keyD p.1 := by
      have := congrArg (List.map keyD) t.keys
      rw [List.map_map, List.map_map] at this
      exact this
    refine .inr (.inr ⟨a, ks, rfl, e, by rw [ek]; exact hs, fun p' hp => ?_⟩)
    have sb : ∀ b ∈ (ks.map fun kv => (kV kv.1, keyD kv.1)), Sees K g H b.1 b.2 := fun b hb => by
      obtain ⟨kv, _, rfl⟩ := List.mem_map.mp hb
      exact key_sees kv.1
    have := sorted_sees sb
    rw [List.map_map, show ((fun x : V × PyData => x.2) ∘ fun kv : Key × V => (kV kv.1, keyD kv.1)) = fun kv => keyD kv.1 from rfl, ek] at this
    exact OpVO.lay (P := P) ft this p k p' hp
end

/-! ### dict(pairs), d.update(pairs) -/
def pairT (m : List (List Key × PyData)) : List PyData := m.map fun p => .tuple [.tuple (p.1.map keyD), p.2]
def pairK (m : List (Key × PyData)) : List PyData := m.map fun p => .tuple [keyD p.1, p.2]
def dDictT : D1 := fun ds P => ∃ m : List (List Key × PyData), ds = [.list (pairT m)] ∧ P (dictT (toT (mergeD [] m)))
def dDictK : D1 := fun ds P => ∃ m : List (Key × PyData), ds = [.list (pairK m)] ∧ P (dictK (toK (mergeD [] m)))
section
variable {K : PySem.W.Frag} {g : Gh} {H : Hp}
theorem Two.mergeT : ∀ {ps : List VT.PT4} {ms : List (List Key × PyData)} {a : List (List Key × V)} {m : List (List Key × PyData)}, Two K g H a m → Two K g H (ps.map fun p => (p.k, p.v)) ms → Two K g H (VT.mergeT a ps) (mergeD m ms)
  | [], [], _, _, h, _ => h
  | [], _ :: _, _, _, _, t => nomatch t
  | _ :: _, [], _, _, _, t => nomatch t
  | p :: ps, (k, d) :: ms, a, m, h, t => by
    have t : Two K g H ((p.k, p.v) :: ps.map fun p => (p.k, p.v)) ((k, d) :: ms) := t
    cases t with
    | cons z t =>
      show Two K g H (VT.mergeT (putK a p.k p.v) ps) (mergeD (putD m p.k d) ms)
      exact Two.mergeT (Two.put (k := p.k) h z) t
theorem pairs_seen : ∀ {xs : List V} {m : List (List Key × PyData)}, SeesAll K g H xs (pairT m) → ∃ ps : List VT.PT4, xs = ps.map (fun p => .ref p.T) ∧ VT.Pairs4 H ps ∧ Two K g H (ps.map fun p => (p.k, p.v)) m
  | _, [], h => by
    cases h
    exact ⟨[], rfl, (fun p hp => nomatch hp), .nil⟩
  | x :: xs, (k, d) :: m, h => by
    cases h with
    | cons z r =>
      obtain ⟨ps, rfl, h1, h2⟩ := pairs_seen (m := m) r
      cases z with
      | @tup T ys _ e zz =>
        cases zz with
        | cons z1 zz =>
          cases zz with
          | cons z2 zz =>
            cases zz
            obtain ⟨b, rfl, eb⟩ := z1.keysT
            refine ⟨⟨T, k, b, _⟩ :: ps, rfl, fun p hp => ?_, .cons z2 h2⟩
            rcases List.mem_cons.mp hp with rfl | hp
            · exact ⟨e, eb⟩
            · exact h1 p hp
theorem callv_dictT : CallVO K VT.rDictT dDictT := by
  rintro g H xs ds P Q ft z ⟨m, rfl, p⟩ k
  obtain ⟨a, ys, rfl, e, q⟩ := one_list z
  obtain ⟨ps, rfl, h1, h2⟩ := pairs_seen q
  refine ⟨a, ps, rfl, e, h1, fun q' hq => ?_⟩
  have t : Two K g H (VT.mergeT [] ps) (mergeD [] m) := Two.mergeT .nil h2
  exact k q' _ g _ (Fresh.laid hq) hq (fun f => ft q' f hq) (.inr (.inl ⟨_, _, rfl, upd_same, (t.stay (Fresh.laid hq).stay).seesT⟩)) p
end

/-! ### repr, isinstance -/
def dRepr : D1 := fun ds P => ∃ d, ds = [d] ∧ d.canLay0 = true ∧ d.showable = true ∧ d.depth ≤ 32 ∧ d.shown.length ≤ sizeLine ∧ P (.str d.shown)
theorem callv_repr {K : PySem.W.Frag} : CallV K (VT.rRepr K) dRepr := by
  rintro g H xs ds P Q ft z ⟨d, rfl, h1, h2, h3, h4, p⟩ k
  cases z with
  | cons a r =>
    cases r
    exact ⟨_, d, rfl, a.dp h1, h1, h2, h3, h4, k _ _ g _ .refl (.str _) p⟩
/-- isinstance(x, T), T a built-in type's name -/
def dIsi (T : String) (t : DE) : DE := fun s P => t s fun d s1 => ∃ b, kitB (tyD d) T = some b ∧ (∀ kvs, d ≠ .dict kvs) ∧ P (.bool b) s1
theorem Sees.ty {K : PySem.W.Frag} {g : Gh} {H : Hp} {v : V} {d : PyData} (h : Sees K g H v d) (hd : ∀ kvs, d ≠ .dict kvs) : TyX K H v (.type (tyD d)) := by
  cases h with
  | non => exact .base .non
  | bl b => exact .base (.bl b)
  | int i => exact .base (.int i)
  | str x => exact .base (.str x)
  | lst f e z => exact .base (.lst e)
  | tup e z => exact .base (.tup e)
  | dicT f e z => exact absurd rfl (hd _)
  | dicK f e z => exact absurd rfl (hd _)
  | bag e => exact absurd rfl (hd _)
  | scr e => exact absurd rfl (hd _)
section
variable {X : Cx} {a c : Expr} {ta : TE} {da : DE} {p pos : Pos} {T : String}
theorem v_isi (hg : Gl X "isinstance") (hm : X.mg "isinstance" = none) (hb : bootBuiltins "isinstance" = some (.builtin "isinstance")) (ha : VE X a ta da) (hc : PE X c (tC (.ty T)))
    (h1 : starEach [a, c] X.env = (false, eval a X.env) :: starEach [c] X.env := by rfl) (h2 : starEach [c] X.env = (false, eval c X.env) :: starEach [] X.env := by rfl) (hpl : (backTo pos (starEach [c] X.env)).any (·.1) = false := by rfl) :
    VE X (.Call (.Name "isinstance" p) [a, c] [] pos) (tCB (rIsi X.K) (tCons ta (tCons (tC (.ty T)) tNil))) (dIsi T da) :=
  ⟨pe_callB call_isi hg hm hb (pa_cons ha.pe (pa_cons hc pa_nil h2) h1) (by decide) (by decide) h1 hpl, fun g0 H0 g s σ H P Q r p k => ha.adq g0 H0 g s σ H _ _ r p fun v H1 g1 s1 d st z ⟨b, e, hd, p1⟩ =>
    ⟨v, .ty T, .type (tyD d), .type T, b, rfl, .ty T, z.ty hd, kit_ty e, k _ H1 g1 s1 _ st (.bl b) p1⟩⟩
end

/-! ### methods of a name's own list, own dict -/
abbrev DM := PyData → List PyData → (PyData → PyData → Prop) → Prop
/-- a method by values -/
def MethV (K : PySem.W.Frag) (T : String) (r : V → List V → Hp → VK → Prop) (md : DM) : Prop := ∀ (g : Gh) (H : Hp) (a : Addr) (d : PyData) (xs : List V) (ds : List PyData) (P : PyData → PyData → Prop) (Q : VK), Ft g H → OwnAt K g H a d → ¬ g.F a → SeesAll K g H xs ds → md d ds P →
  (∀ v c d' o, OwnAt K g (upd H a o) a d' → Sees K g (upd H a o) v c → P c d' → Q v (upd H a o)) → r (.ref a) xs H Q
def isT (T : String) : PyData → Prop
  | .list _ => T = "list"
  | .dict _ => T = "dict"
  | _ => False
theorem OwnAt.tyV {K : PySem.W.Frag} {g : Gh} {H : Hp} {a : Addr} {d : PyData} {T : String} (h : OwnAt K g H a d) (t : isT T d) : tyV K T (.ref a) H := by
  rcases h with ⟨xs, ds, rfl, e, z⟩ | ⟨ks, kvs, rfl, e, z⟩ | ⟨ks, kvs, rfl, e, z⟩
  · exact .inl ⟨t, xs, .inl (.inl e)⟩
  · exact .inr (.inr (.inl ⟨t, .inr ⟨_, e⟩⟩))
  · exact .inr (.inr (.inl ⟨t, .inl ⟨_, e⟩⟩))
def dMeth (T : String) (i : Nat) (md : DM) (u : DA) : DE := fun s P => (∃ d, s.ρ[i]? = some (.ow d) ∧ isT T d) ∧ u s fun ds s1 => ∃ d, s1.ρ[i]? = some (.ow d) ∧ md d ds fun c d' => P c ⟨s1.ρ.set i (.ow d'), s1.β⟩
section
variable {K : PySem.W.Frag}
theorem adq_meth {T : String} {i : Nat} {r : V → List V → Hp → VK → Prop} {md : DM} {ta : TA} {u : DA} (hm : MethV K T r md) (h : AdqA K ta u) : AdqE K (tBM K T r (tVar i) ta) (dMeth T i md u) := by
  rintro g0 H0 g s σ H P Q q ⟨⟨d0, e0, t0⟩, p⟩ k
  obtain ⟨a, ea, o⟩ := q.slot i _ e0
  refine ⟨_, ea, o.tyV t0, h g0 H0 g s σ H _ _ q p fun xs H1 g1 s1 ds st z ⟨d, e, p1⟩ => ?_⟩
  obtain ⟨a', ea', o'⟩ := st.rel.slot i _ e
  rw [ea] at ea'
  cases ea'
  refine hm g1 H1 a d xs ds _ _ st.rel.ft o' (st.rel.nf a ⟨i, d, e, ea⟩).1 z p1 fun v c d' ob o2 z2 p2 => ?_
  exact k v _ g1 _ c (st.trans (Step.put st.rel e ea o2)) z2 p2
theorem adq_meth0 {T : String} {i : Nat} {r : V → List V → Hp → VK → Prop} {md : DM} (hm : MethV K T r md) : AdqE K (tBM0 K T r (tVar i)) (dMeth T i md dNil) := by
  rintro g0 H0 g s σ H P Q q ⟨⟨d0, e0, t0⟩, d, e, p1⟩ k
  obtain ⟨a, ea, o⟩ := q.slot i _ e0
  rw [e] at e0
  cases e0
  refine ⟨_, ea, o.tyV t0, hm g H a d0 [] [] _ _ q.ft o (q.nf a ⟨i, d0, e, ea⟩).1 .nil p1 fun v c d' ob o2 z2 p2 => ?_⟩
  exact k v _ g _ c (Step.put q e ea o2) z2 p2
def mAppend : DM := fun d es P => match d, es with
  | .list ds, [e] => ds.length < sizeLine ∧ P .none (.list (ds ++ [e]))
  | _, _ => False
def mExtend : DM := fun d es P => match d, es with
  | .list ds, [.list fs] => ds.length + fs.length ≤ sizeLine ∧ P .none (.list (ds ++ fs))
  | _, _ => False
def mPop : DM := fun d es P => match d, es with
  | .list ds, [] => ∃ c, ds[ds.length - 1]? = some c ∧ P c (.list ds.dropLast)
  | _, _ => False
def mPopAt : DM := fun d es P => match d, es with
  | .list ds, [.int i] => 0 ≤ i ∧ i < 2 ^ 63 ∧ ∃ c, ds[i.toNat]? = some c ∧ P c (.list (ds.eraseIdx i.toNat))
  | _, _ => False
theorem OwnAt.lst {g : Gh} {H : Hp} {a : Addr} {ds : List PyData} (h : OwnAt K g H a (.list ds)) : ∃ xs, H a = some (.lst xs) ∧ SeesAll K g H xs ds := by
  rcases h with ⟨xs, es, h0, e, z⟩ | ⟨ks, kvs, h0, _⟩ | ⟨ks, kvs, h0, _⟩
  · cases h0
    exact ⟨xs, e, z⟩
  · cases h0
  · cases h0
theorem SeesAll.upd {g : Gh} {H : Hp} {a : Addr} {o : HO} {xs : List V} {ds : List PyData} (z : SeesAll K g H xs ds) (m : Mut (H a)) (nf : ¬ g.F a) : SeesAll K g (upd H a o) xs ds := SeesAll.stay (Stay.upd m nf) z
theorem methv_append : MethV K "list" rAppend mAppend := by
  intro g H a d xs ds P Q ft o nf z p k
  unfold mAppend at p
  split at p
  · cases z with
    | cons z1 z2 =>
      cases z2
      obtain ⟨ys, e, zz⟩ := o.lst
      have mu : Mut (H a) := by rw [e]; trivial
      refine ⟨a, ys, _, rfl, rfl, e, by rw [zz.length]; exact p.1, k _ _ _ _ (.inl ⟨_, _, rfl, upd_same, (zz.upd mu nf).app (.cons (z1.stay (Stay.upd mu nf)) .nil)⟩) .non p.2⟩
  · exact p.elim
theorem methv_extend : MethV K "list" rExtend mExtend := by
  intro g H a d xs ds P Q ft o nf z p k
  unfold mExtend at p
  split at p
  · obtain ⟨b, zs, rfl, eb, zb⟩ := one_list z
    obtain ⟨ys, e, zz⟩ := o.lst
    have mu : Mut (H a) := by rw [e]; trivial
    refine ⟨a, b, ys, zs, rfl, rfl, e, eb, by rw [zz.length, zb.length]; exact p.1, k _ _ _ _ (.inl ⟨_, _, rfl, upd_same, (zz.upd mu nf).app (zb.upd mu nf)⟩) .non p.2⟩
  · exact p.elim
theorem methv_pop : MethV K "list" rPop mPop := by
  intro g H a d xs ds P Q ft o nf z p k
  unfold mPop at p
  split at p
  · cases z
    obtain ⟨ys, e, zz⟩ := o.lst
    have mu : Mut (H a) := by rw [e]; trivial
    obtain ⟨c, ec, p⟩ := p
    obtain ⟨v, ev, zv⟩ := zz.at ec
    refine ⟨a, ys, v, rfl, rfl, e, by rw [zz.length]; exact ev, k _ _ _ _ (.inl ⟨_, _, rfl, upd_same, (zz.upd mu nf).back⟩) (zv.stay (Stay.upd mu nf)) p⟩
  · exact p.elim
theorem methv_popAt : MethV K "list" rPopAt mPopAt := by
  intro g H a d xs ds P Q ft o nf z p k
  unfold mPopAt at p
  split at p
  · cases z with
    | cons z1 z2 =>
      cases z2
      cases z1
      obtain ⟨ys, e, zz⟩ := o.lst
      have mu : Mut (H a) := by rw [e]; trivial
      obtain ⟨h1, h2, c, ec, p⟩ := p
      obtain ⟨v, ev, zv⟩ := zz.at ec
      refine ⟨a, ys, _, _, v, rfl, rfl, e, by omega, h2, ?_, ev, k _ _ _ _ (.inl ⟨_, _, rfl, upd_same, (zz.upd mu nf).erase _⟩) (zv.stay (Stay.upd mu nf)) p⟩
      exact seqIndex_of h1 (by have := (List.getElem?_eq_some_iff.mp ev).1; omega)
  · exact p.elim
def mUpdT : DM := fun d es P => ∃ (m ps : List (List Key × PyData)), d = dictT (toT m) ∧ es = [.list (pairT ps)] ∧ m.length + ps.length ≤ sizeLine ∧ P .none (dictT (toT (mergeD m ps)))
theorem OwnAt.dT {g : Gh} {H : Hp} {a : Addr} {m : List (List Key × PyData)} (h : OwnAt K g H a (dictT (toT m))) : ∃ ks, H a = some (.dT ks) ∧ Two K g H ks m := by
  rcases h with ⟨xs, es, h0, e, z⟩ | ⟨ks, kvs, h0, e, z⟩ | ⟨ks, kvs, h0, _⟩
  · cases h0
  · rw [PyData.dict.injEq, List.cons.injEq] at h0
    obtain ⟨_, h0⟩ := h0
    subst h0
    exact ⟨ks, e, z.two⟩
  · rw [PyData.dict.injEq, List.cons.injEq] at h0
    cases h0.1
theorem methv_updT : MethV K "dict" VT.rUpdT mUpdT := by
  rintro g H a d xs ds P Q ft o nf z ⟨m, ps, rfl, rfl, hl, p⟩ k
  obtain ⟨b, ys, rfl, eb, zb⟩ := one_list z
  obtain ⟨ks, e, t⟩ := o.dT
  obtain ⟨qs, rfl, h1, h2⟩ := pairs_seen zb
  have mu : Mut (H a) := by rw [e]; trivial
  have l2 := h2.len
  rw [List.length_map] at l2
  refine ⟨a, b, ks, qs, rfl, rfl, e, eb, h1, by rw [t.len, l2]; exact hl, k _ _ _ _ (.inr (.inl ⟨_, _, rfl, upd_same, ?_⟩)) .non p⟩
  exact ((Two.mergeT t h2).stay (Stay.upd mu nf)).seesT
end
section
variable {X : Cx} {o e : Expr} {es : List Expr} {i : Nat} {ta : TA} {da : DA} {name : Str} {apos cpos : Pos} {T id : String} {r : V → List V → Hp → VK → Prop} {md : DM}
theorem v_meth (pa : PlainAttrs T) (slot : PySem.Slot T name id) (hty : typeOf (.builtin id) = pure (.type "method_descriptor")) (hm : MtR X id r) (hv : MethV X.K T r md) (ho : PE X o (tVar i)) (ha : VA X (e :: es) ta da)
    (hbase : attributeBase o name X.env (eval o X.env) = eval o X.env := by rfl)
    (hfew : ((backTo cpos (starEach (e :: es) X.env)).all (fun x => !x.1) && (backToKw cpos (keywordEach [] X.env)).all (fun x => x.1.isSome)
      && decide ((e :: es).length + ([] : List Keyword).length + (if ([] : List Keyword).isEmpty then 0 else 1) < 30)) = true := by rfl)
    (hline : (apos.endLine == cpos.line) = true := by rfl) (hs : starEach (e :: es) X.env = (false, eval e X.env) :: starEach es X.env := by rfl) (hplain : (backTo cpos (starEach es X.env)).any (·.1) = false := by rfl) :
    VE X (.Call (.Attribute o name apos) (e :: es) [] cpos) (tBM X.K T r (tVar i) ta) (dMeth T i md da) := ⟨pe_bm pa slot hty hm ho ha.pa hbase hfew hline hs hplain, adq_meth hv ha.adq⟩
theorem v_meth0 (pa : PlainAttrs T) (slot : PySem.Slot T name id) (hty : typeOf (.builtin id) = pure (.type "method_descriptor")) (hm : MtR X id r) (hv : MethV X.K T r md) (ho : PE X o (tVar i))
    (hbase : attributeBase o name X.env (eval o X.env) = eval o X.env := by rfl) (hline : (apos.endLine == cpos.line) = true := by rfl) :
    VE X (.Call (.Attribute o name apos) [] [] cpos) (tBM0 X.K T r (tVar i)) (dMeth T i md dNil) := ⟨pe_bm0 pa slot hty hm ho hbase hline, adq_meth0 hv⟩
end
end VS
namespace VS
open PySem PySem.Spec L2
open PyProof.Rows hiding St

/-! ### several new values at once -/
inductive Item where
  | sh (d : PyData)
  | ow (d : PyData)
def Item.slot : Item → Slot
  | .sh d => .sh d
  | .ow d => .ow d
def ownAs : List V → List Item → List Addr
  | .ref a :: vs, .ow _ :: is => a :: ownAs vs is
  | _ :: vs, _ :: is => ownAs vs is
  | _, _ => []
inductive Many (K : PySem.W.Frag) (H0 : Hp) (g : Gh) (ρ : List Slot) (σ : St) (Hb H : Hp) : List V → List Item → Prop
  | nil : Many K H0 g ρ σ Hb H [] []
  | sh {v : V} {d : PyData} {vs : List V} {is : List Item} : Sees K g H v d → Many K H0 g ρ σ Hb H vs is → Many K H0 g ρ σ Hb H (v :: vs) (.sh d :: is)
  | ow {a : Addr} {d : PyData} {vs : List V} {is : List Item} : OwnAt K g H a d → ¬ g.F a → ¬ BagC g a → Hb a = none → ¬ OwnC ρ σ a → H0 a = none → a ∉ ownAs vs is → Many K H0 g ρ σ Hb H vs is → Many K H0 g ρ σ Hb H (.ref a :: vs) (.ow d :: is)
section
variable {K : PySem.W.Frag} {g0 g g1 g2 : Gh} {H0 H H1 H2 Hb Hc : Hp} {s s1 s2 : S} {σ : St} {ρ : List Slot} {vs : List V} {is : List Item}
theorem Many.len (h : Many K H0 g ρ σ Hb H vs is) : vs.length = is.length := by
  induction h with
  | nil => rfl
  | sh _ _ ih => simp [ih]
  | ow _ _ _ _ _ _ _ _ ih => simp [ih]
theorem Many.fresh (h : Many K H0 g ρ σ Hb H vs is) : ∀ a ∈ ownAs vs is, Hb a = none := by
  induction h with
  | nil => intro a ha; cases ha
  | @sh v d vs is z _ ih =>
    intro a ha
    refine ih a ?_
    cases v <;> simpa [ownAs] using ha
  | ow _ _ _ n _ _ _ _ ih =>
    intro b hb
    simp only [ownAs, List.mem_cons] at hb
    rcases hb with rfl | hb
    · exact n
    · exact ih b hb
theorem Many.back (h : Many K H0 g ρ σ Hb H vs is) (b : ∀ a, Hb a = none → Hc a = none) : Many K H0 g ρ σ Hc H vs is := by
  induction h with
  | nil => exact .nil
  | sh z _ ih => exact .sh z ih
  | ow o f c n w z m _ ih => exact .ow o f c (b _ n) w z m ih
theorem NewAt.step {a : Addr} {d : PyData} (n : NewAt K H0 g1 s1 σ Hb H1 a d) (r : Rel K g0 H0 g1 s1 σ H1) (st : Step K g0 H0 g1 s1 σ H1 g2 s2 H2) : NewAt K H0 g2 s2 σ Hb H2 a d := by
  obtain ⟨n1, n2, n3, n4, n5, n6⟩ := n
  have nn : H1 a ≠ none := mutSome n1.mut
  have nt : ¬ Touch g1 s1.ρ σ a := fun t => t.elim n3 n5
  refine ⟨n1.stay (st.stay r) fun o e => st.ext.keep a o e nt, fun f => ?_, fun b => ?_, n4, fun o => n5 (st.own a o), n6⟩
  · rcases st.ext.new a f n2 with z | z
    · exact nn z
    · exact nt z
  · rcases st.ext.bagc b with z | z
    · exact n3 z
    · exact nn z
theorem Many.step (h : Many K H0 g1 s1.ρ σ Hb H1 vs is) (r : Rel K g0 H0 g1 s1 σ H1) (st : Step K g0 H0 g1 s1 σ H1 g2 s2 H2) : Many K H0 g2 s2.ρ σ Hb H2 vs is := by
  induction h with
  | nil => exact .nil
  | sh z _ ih => exact .sh (z.step r st) ih
  | ow o f c n w z m _ ih =>
    obtain ⟨n1, n2, n3, n4, n5, n6⟩ := NewAt.step (s1 := s1) (Hb := Hb) ⟨o, f, c, n, w, z⟩ r st
    exact .ow n1 n2 n3 n4 n5 n6 m ih
/-- names are stored, from the left -/
def setS : List Nat → List Item → List Slot → List Slot
  | j :: js, i :: is, ρ => setS js is (ρ.set j i.slot)
  | _, _, ρ => ρ
def setV : List Nat → List V → St → St
  | j :: js, v :: vs, σ => setV js vs (σ.set j (some v))
  | _, _, σ => σ
theorem own_stoO {i : Nat} {b : Addr} {d : PyData} {a : Addr} (h : OwnC (ρ.set i (.ow d)) (σ.set i (some (.ref b))) a) (hl : ρ.length = σ.length) : a = b ∨ OwnC ρ σ a := by
  obtain ⟨j, f, h1, h2⟩ := h
  by_cases w : j = i
  · subst w
    have hi : j < ρ.length := by
      have := (List.getElem?_eq_some_iff.mp h1).1
      simpa using this
    rw [List.getElem?_set_self (by omega)] at h2
    cases h2
    exact .inl rfl
  · rw [List.getElem?_set_ne (Ne.symm w)] at h1 h2
    exact .inr ⟨j, f, h1, h2⟩
theorem Many.sto {j : Nat} {v : V} {d : PyData} (h : Many K H0 g ρ σ Hb H vs is) : Many K H0 g (ρ.set j (.sh d)) (σ.set j (some v)) Hb H vs is := by
  induction h with
  | nil => exact .nil
  | sh z _ ih => exact .sh z ih
  | ow o f c n w z m _ ih => exact .ow o f c n (fun q => w (own_sto q)) z m ih
theorem Many.stoO {j : Nat} {b : Addr} {d : PyData} (hl : ρ.length = σ.length) (h : Many K H0 g ρ σ Hb H vs is) (hb : b ∉ ownAs vs is) : Many K H0 g (ρ.set j (.ow d)) (σ.set j (some (.ref b))) Hb H vs is := by
  induction h with
  | nil => exact .nil
  | @sh v d vs is z _ ih =>
    refine .sh z (ih fun q => hb ?_)
    cases v <;> simpa [ownAs] using q
  | @ow a d vs is o f c n w z m _ ih =>
    simp only [ownAs, List.mem_cons, not_or] at hb
    refine .ow o f c n (fun q => ?_) z m (ih hb.2)
    rcases own_stoO q hl with rfl | q
    · exact hb.1 rfl
    · exact w q
theorem Rel.many {js : List Nat} (hl : js.length = vs.length) (r : Rel K g0 H0 g s σ H) (m : Many K H0 g s.ρ σ Hb H vs is) : Rel K g0 H0 g ⟨setS js is s.ρ, s.β⟩ (setV js vs σ) H := by
  induction js generalizing vs is s σ with
  | nil =>
    cases vs with
    | nil => cases m; exact r
    | cons _ _ => simp at hl
  | cons j js ih =>
    cases m with
    | nil => simp at hl
    | @sh v d vs is z m => exact ih (s := ⟨s.ρ.set j (.sh d), s.β⟩) (by simpa using hl) (r.sto z) m.sto
    | @ow a d vs is o f c n w z q m => exact ih (s := ⟨s.ρ.set j (.ow d), s.β⟩) (by simpa using hl) (r.stoO ⟨o, f, c, n, w, z⟩) (m.stoO r.len q)
end
abbrev DMs := S → (List Item → S → Prop) → Prop
def AdqM (K : PySem.W.Frag) (ta : TA) (t : DMs) : Prop := ∀ (g0 : Gh) (H0 : Hp) (g : Gh) (s : S) (σ : St) (H : Hp) (P : List Item → S → Prop) (Q : List V → Hp → Prop), Rel K g0 H0 g s σ H → t s P →
  (∀ vs H' g' s' is, Step K g0 H0 g s σ H g' s' H' → Many K H0 g' s'.ρ σ H H' vs is → P is s' → Q vs H') → ta σ H Q
structure VM (X : Cx) (es : List Expr) (te : TA) (t : DMs) : Prop where
  pa : PA X es te
  adq : AdqM X.K te t
def dmNil : DMs := fun s P => P [] s
def dmSh (t : DE) (u : DMs) : DMs := fun s P => t s fun d s1 => u s1 fun is s2 => P (.sh d :: is) s2
def dmOw (t : DE) (u : DMs) : DMs := fun s P => t s fun d s1 => u s1 fun is s2 => P (.ow d :: is) s2
def sPar (js : List Nat) (t : DMs) : DS := fun D s => t s fun is s1 => is.length = js.length ∧ is.length ≤ sizeLine ∧ D.nx ⟨setS js is s1.ρ, s1.β⟩
def gNames : List Nat → TGs
  | [] => gNil
  | j :: js => gCons (gName j) (gNames js)
section
variable {X : Cx} {e : Expr} {es : List Expr} {te : TE} {ta : TA} {de : DE} {dm : DMs} {pos : Pos}
theorem vm_nil : VM X [] tNil dmNil := ⟨pa_nil, fun g0 H0 g s σ H P Q r p k => k [] H g s [] (.refl r) .nil p⟩
theorem vm_sh (h : VE X e te de) (hr : VM X es ta dm) (hs : starEach (e :: es) X.env = (false, eval e X.env) :: starEach es X.env := by rfl) : VM X (e :: es) (tCons te ta) (dmSh de dm) := ⟨pa_cons h.pe hr.pa hs, fun g0 H0 g s σ H P Q r p k =>
  h.adq g0 H0 g s σ H _ _ r p fun v H1 g1 s1 d st1 z1 p1 => hr.adq g0 H0 g1 s1 σ H1 _ _ st1.rel p1 fun vs H2 g2 s2 is st2 m p2 =>
    k _ H2 g2 s2 _ (st1.trans st2) (.sh (z1.step st1.rel st2) (m.back fun a n => none_back st1 n)) p2⟩
theorem vm_ow (h : VO X e te de) (hr : VM X es ta dm) (hs : starEach (e :: es) X.env = (false, eval e X.env) :: starEach es X.env := by rfl) : VM X (e :: es) (tCons te ta) (dmOw de dm) := ⟨pa_cons h.pe hr.pa hs, fun g0 H0 g s σ H P Q r p k =>
  h.adq g0 H0 g s σ H _ _ r p fun a H1 g1 s1 d st1 n p1 => hr.adq g0 H0 g1 s1 σ H1 _ _ st1.rel p1 fun vs H2 g2 s2 is st2 m p2 => by
    obtain ⟨n1, n2, n3, n4, n5, n6⟩ := NewAt.step n st1.rel st2
    exact k _ H2 g2 s2 _ (st1.trans st2) (.ow n1 n2 n3 n4 n5 n6 (fun q => mutSome n.1.mut (m.fresh a q)) (m.back fun a n => none_back st1 n)) p2⟩
theorem gNames_of {H : Hp} {Q : St → Hp → Prop} : ∀ {js : List Nat} {vs : List V} {σ : St}, js.length = vs.length → Q (setV js vs σ) H → gNames js vs σ H Q
  | [], [], σ, _, q => ⟨rfl, q⟩
  | j :: js, v :: vs, σ, hl, q => ⟨v, vs, rfl, gNames_of (js := js) (by simpa using hl) q⟩
  | [], _ :: _, _, hl, _ => by simp at hl
  | _ :: _, [], _, hl, _ => by simp at hl
theorem two_of {α : Type} {vs : List α} (h : vs.length = 2) : ∃ v w, vs = [v, w] := match vs, h with | [v, w], _ => ⟨v, w, rfl⟩
theorem three_of {α : Type} {vs : List α} (h : vs.length = 3) : ∃ u v w, vs = [u, v, w] := match vs, h with | [u, v, w], _ => ⟨u, v, w, rfl⟩
/-- a, b = x, y: two local names -/
theorem vs_par {i j : Nat} {x y : Str} {a b : Expr} {px py pt : Pos} {kt k2 pt2} (hc : X.calm = true) (hN : X.N.Nodup) (hi : X.N[i]? = some x) (hj : X.N[j]? = some y) (hij : i ≠ j)
    (hx : X.env.scope.names.lookup x = some .local) (hy : X.env.scope.names.lookup y = some .local) (ha : VM X [a, b] ta dm)
    (hw : swappedStores [.Tuple [.Name x px, .Name y py] kt pt] (.Tuple [a, b] k2 pt2) X.env = pure (some [x, y]))
    (hs : swapsWithSole [.Tuple [.Name x px, .Name y py] kt pt] (.Tuple [a, b] k2 pt2) pos.line X.env = pure false := by rfl) :
    VS X (.Assign [.Tuple [.Name x px, .Name y py] kt pt] (.Tuple [a, b] k2 pt2) pos) (tPar i j ta) (sPar [i, j] dm) := ⟨ps_par hc hN hi hj hij hx hy ha.pa hw hs, fun g0 H0 g s σ H D D' r p k =>
  ha.adq g0 H0 g s σ H _ _ r p fun vs H1 g1 s1 is st m ⟨hl, _, p1⟩ => by
    obtain ⟨v, w, rfl⟩ := two_of (m.len.trans hl)
    exact ⟨v, w, rfl, k.nx g1 _ _ H1 (Rel.many (js := [i, j]) rfl st.rel m) (st.stay r) p1⟩⟩
theorem vs_par3 {i j l : Nat} {x y z : Str} {a b c : Expr} {px py pz pt : Pos} {kt k2 pt2} (hc : X.calm = true) (hN : X.N.Nodup) (hi : X.N[i]? = some x) (hj : X.N[j]? = some y) (hl : X.N[l]? = some z) (hij : i ≠ j) (hil : i ≠ l) (hjl : j ≠ l)
    (hx : X.env.scope.names.lookup x = some .local) (hy : X.env.scope.names.lookup y = some .local) (hz : X.env.scope.names.lookup z = some .local) (ha : VM X [a, b, c] ta dm)
    (hw : swappedStores [.Tuple [.Name x px, .Name y py, .Name z pz] kt pt] (.Tuple [a, b, c] k2 pt2) X.env = pure (some [x, y, z]))
    (hs : swapsWithSole [.Tuple [.Name x px, .Name y py, .Name z pz] kt pt] (.Tuple [a, b, c] k2 pt2) pos.line X.env = pure false := by rfl) :
    VS X (.Assign [.Tuple [.Name x px, .Name y py, .Name z pz] kt pt] (.Tuple [a, b, c] k2 pt2) pos) (tPar3 i j l ta) (sPar [i, j, l] dm) := ⟨ps_par3 hc hN hi hj hl hij hil hjl hx hy hz ha.pa hw hs, fun g0 H0 g s σ H D D' r p k =>
  ha.adq g0 H0 g s σ H _ _ r p fun vs H1 g1 s1 is st m ⟨hln, _, p1⟩ => by
    obtain ⟨u, v, w, rfl⟩ := three_of (m.len.trans hln)
    exact ⟨u, v, w, rfl, k.nx g1 _ _ H1 (Rel.many (js := [i, j, l]) rfl st.rel m) (st.stay r) p1⟩⟩
/-- any number of names, through a tuple -/
theorem vs_parT {js : List Nat} {tgs : List Expr} {kt k2 : Nat} {pt pt2 : Pos} (hc : X.calm = true) (hg : PGs X tgs (gNames js)) (ha : VM X es ta dm) (hn : (assignEach tgs X.env).length = js.length := by rfl) (hst : (assignEach tgs X.env).findIdx? (·.1) = none := by rfl)
    (hs : swapsWithSole [.Tuple tgs kt pt] (.Tuple es k2 pt2) pos.line X.env = pure false := by rfl) (hw : swappedStores [.Tuple tgs kt pt] (.Tuple es k2 pt2) X.env = pure none := by rfl) (h1 : (assignEach [.Tuple tgs kt pt] X.env).map (·.2) = [assign (.Tuple tgs kt pt) X.env] := by rfl) :
    VS X (.Assign [.Tuple tgs kt pt] (.Tuple es k2 pt2) pos) (tAsg (tTup ta) (gTup X.K js.length (gNames js))) (sPar js dm) := ⟨ps_asg (pe_tup ha.pa) (pg_tup hc hg hn hst) hs hw h1, fun g0 H0 g s σ H D D' r p k =>
  ha.adq g0 H0 g s σ H _ _ r p fun vs H1 g1 s1 is st m ⟨hl, hz, p1⟩ => ⟨by rw [m.len]; exact hz, fun q hq => by
    have st2 := st.laid (o := .tup vs) hq
    have m2 : Many X.K H0 g1 s1.ρ σ H (upd H1 q (.tup vs)) vs is := m.step st.rel ((Fresh.laid hq).step st.rel)
    exact ⟨q, vs, rfl, .inl (.inl upd_same), m.len.trans hl, gNames_of (by rw [m.len, hl]) (k.nx g1 _ _ _ (Rel.many (js := js) (by rw [m.len, hl]) st2.rel m2) (st2.stay r) p1)⟩⟩⟩

/-! ### x[i] = v, d[k] = v of a name's own list, own dict -/
def sItem (t : DE) (j : Nat) (u : DE) : DS := fun D s => t s fun d s1 => (∃ d0, s1.ρ[j]? = some (.ow d0)) ∧ u s1 fun c s2 => ∃ ds i n, s2.ρ[j]? = some (.ow (.list ds)) ∧ c = .int i ∧ ixN ds.length i = some n ∧ D.nx ⟨s2.ρ.set j (.ow (.list (ds.set n d))), s2.β⟩
theorem vs_item {j : Nat} {o i : Expr} {ti : TE} {di : DE} {spos : Pos} (he : VE X e te de) (ho : PE X o (tVar j)) (hi : VE X i ti di)
    (ha : ∀ v, assign (.Subscript o i spos) X.env v = (do
      let ov ← holding [v] (eval o X.env)
      let iv ← holding [v, ov] (eval i X.env)
      standAt spos
      holding [v, ov, iv] (setItem ov iv v)
      release [v, ov, iv] []) := by intro _; rfl)
    (hs : swapsWithSole [.Subscript o i spos] e pos.line X.env = pure false := by rfl) (hw : swappedStores [.Subscript o i spos] e X.env = pure none := by rfl) (h1 : (assignEach [.Subscript o i spos] X.env).map (·.2) = [assign (.Subscript o i spos) X.env] := by rfl) :
    VS X (.Assign [.Subscript o i spos] e pos) (tAsg te (gSub (tVar j) ti rSetL)) (sItem de j di) := ⟨ps_asg he.pe (pg_sub ho hi.pe set_list ha) hs hw h1, fun g0 H0 g s σ H D D' r p k =>
  he.adq g0 H0 g s σ H _ _ r p fun v H1 g1 s1 d st1 z ⟨⟨d0, e0⟩, p1⟩ => by
    obtain ⟨a, ea, o⟩ := st1.rel.slot j _ e0
    refine ⟨_, ea, hi.adq g0 H0 g1 s1 σ H1 _ _ st1.rel p1 fun w H2 g2 s2 c st2 z2 ⟨ds, i, n, e2, ec, hx, p2⟩ => ?_⟩
    subst ec
    cases z2
    obtain ⟨a', ea', o'⟩ := st2.rel.slot j _ e2
    rw [ea] at ea'
    cases ea'
    obtain ⟨ys, ey, zz⟩ := o'.lst
    have mu : Mut (H2 a) := by rw [ey]; trivial
    have nf := (st2.rel.nf a ⟨j, _, e2, ea⟩).1
    have zs := ((z.step st1.rel st2).stay (Stay.upd (o := .lst (ys.set n v)) mu nf))
    have st3 := Step.put st2.rel e2 ea (.inl ⟨_, _, rfl, upd_same, (zz.upd mu nf).set zs n⟩)
    exact ⟨a, ys, i, n, rfl, rfl, ey, by rw [zz.length]; exact hx, k.nx g2 _ _ _ st3.rel (((st1.trans st2).trans st3).stay r) p2⟩⟩
end

/-! ### a op b op' c op'' d, as a test -/
def tChain3 (r r' r'' : R2) (ta tb tc td : TE) : TT := fun σ H Q => ta σ H fun x H1 => tb σ H1 fun y H2 => r x y H2 fun z H3 => ∃ k, z = .bl k ∧
  (if k = true then tc σ H3 fun w H4 => r' y w H4 fun z2 H5 => ∃ k2, z2 = .bl k2 ∧ (if k2 = true then td σ H5 fun u H6 => r'' w u H6 fun z3 H7 => ∃ k3, z3 = .bl k3 ∧ Q k3 H7 else Q false H5) else Q false H3)
def dChain3 (rd rd' rd'' : D2) (t u w x : DE) : DT := fun s P => t s fun d s1 => u s1 fun e s2 => rd d e fun k => match k with
  | .bool b => if b = true then w s2 fun f s3 => rd' e f fun k2 => match k2 with
      | .bool b2 => if b2 = true then x s3 fun h s4 => rd'' f h fun k3 => match k3 with
          | .bool b3 => P b3 s4
          | _ => False
        else P false s3
      | _ => False
    else P false s2
  | _ => False
section
variable {X : Cx} {a b c d : Expr} {ta tb tc td : TE} {da db dc dd : DE} {pos : Pos} {op op' op'' : CmpOp} {r r' r'' : R2} {rd rd' rd'' : D2}
theorem pt_chain3 (ho : OpR X (compareOp op) r) (ho' : OpR X (compareOp op') r') (ho'' : OpR X (compareOp op'') r'') (ha : PE X a ta) (hb : PE X b tb) (hc : PE X c tc) (hd : PE X d td)
    (hm : lastMarks [op, op', op''] [b, c, d] = false := by with_unfolding_all rfl) : PT X (.Compare a [op, op', op''] [b, c, d] pos) (tChain3 r r' r'' ta tb tc td) := by
  refine ⟨fun pins s σ H Q I h => isTrue_chain (thn (ha.run pins s σ H _ I h) fun v s1 ⟨x, H1, I1, r1, q1⟩ => ?_) hm⟩
  refine test_link (thn (hb.run pins s1 σ H1 _ I1 q1) fun u s2 ⟨y, H2, I2, r2, q2⟩ => thn (ho pins s2 σ H2 x y v u _ I2 r1 r2 q2) fun e s3 ⟨z, H3, I3, r3, k, ek, q3⟩ => ?_)
  subst ek
  cases r3
  refine wpAny_truthy_bool ?_
  cases k with
  | false => exact ite_ff ⟨H3, I3, q3⟩
  | true =>
    refine ite_tt (test_link (thn (hc.run pins s3 σ H3 _ I3 q3) fun w s4 ⟨z', H4, I4, r4, q4⟩ => thn (ho' pins s4 σ H4 y z' u w _ I4 r2 r4 q4) fun e2 s5 ⟨z2, H5, I5, r5, k2, ek2, q5⟩ => ?_))
    subst ek2
    cases r5
    refine wpAny_truthy_bool ?_
    cases k2 with
    | false => exact ite_ff ⟨H5, I5, q5⟩
    | true =>
      refine ite_tt (test_last (thn (hd.run pins s5 σ H5 _ I5 q5) fun w6 s6 ⟨z6, H6, I6, r6, q6⟩ => thn (ho'' pins s6 σ H6 z' z6 w w6 _ I6 r4 r6 q6) fun e7 s7 ⟨z7, H7, I7, r7, k7, ek7, q7⟩ => ?_))
      subst ek7
      cases r7
      exact wpAny_truthy_bool ⟨H7, I7, q7⟩
theorem vt_chain3 (ho : OpR X (compareOp op) r) (hv : OpV X.K r rd) (ho' : OpR X (compareOp op') r') (hv' : OpV X.K r' rd') (ho'' : OpR X (compareOp op'') r'') (hv'' : OpV X.K r'' rd'') (ha : VE X a ta da) (hb : VE X b tb db) (hc : VE X c tc dc) (hd : VE X d td dd)
    (hm : lastMarks [op, op', op''] [b, c, d] = false := by with_unfolding_all rfl) : VT X (.Compare a [op, op', op''] [b, c, d] pos) (tChain3 r r' r'' ta tb tc td) (dChain3 rd rd' rd'' da db dc dd) :=
  ⟨pt_chain3 ho ho' ho'' ha.pe hb.pe hc.pe hd.pe hm, fun g0 H0 g s σ H P Q q p k =>
  ha.adq g0 H0 g s σ H _ _ q p fun x H1 g1 s1 d1 st1 z1 p1 => hb.adq g0 H0 g1 s1 σ H1 _ _ st1.rel p1 fun y H2 g2 s2 d2 st2 z2 p2 =>
    hv g2 H2 x y d1 d2 _ _ st2.rel.ft (z1.step st1.rel st2) z2 p2 fun v H3 g3 c3 f z3 p3 => by
      have st3 := f.step st2.rel
      cases c3 <;> first | exact p3.elim | skip
      rename_i b3
      cases z3
      refine ⟨b3, rfl, ?_⟩
      cases b3 with
      | false => exact k _ H3 g3 s2 ((st1.trans st2).trans st3) p3
      | true =>
        refine hc.adq g0 H0 g3 s2 σ H3 _ _ st3.rel p3 fun w' H4 g4 s4 f4 st4 z4 p4 => ?_
        refine hv' g4 H4 y w' d2 f4 _ _ st4.rel.ft ((z2.step st2.rel st3).step st3.rel st4) z4 p4 fun v5 H5 g5 c5 f5 z5 p5 => ?_
        have st5 := f5.step st4.rel
        cases c5 <;> first | exact p5.elim | skip
        rename_i b5
        cases z5
        refine ⟨b5, rfl, ?_⟩
        cases b5 with
        | false => exact k _ H5 g5 s4 ((((st1.trans st2).trans st3).trans st4).trans st5) p5
        | true =>
          refine hd.adq g0 H0 g5 s4 σ H5 _ _ st5.rel p5 fun w6 H6 g6 s6 f6 st6 z6 p6 => ?_
          refine hv'' g6 H6 w' w6 f4 f6 _ _ st6.rel.ft ((z4.step st4.rel st5).step st5.rel st6) z6 p6 fun v7 H7 g7 c7 f7 z7 p7 => ?_
          have st7 := f7.step st6.rel
          cases c7 <;> first | exact p7.elim | skip
          rename_i b7
          cases z7
          exact ⟨b7, rfl, k _ H7 g7 s6 ((((((st1.trans st2).trans st3).trans st4).trans st5).trans st6).trans st7) p7⟩⟩
end
/-! ### {}, {k: v} -/
def dNewT : DE := fun s P => P (dictT []) s
def dNewK : DE := fun s P => P (dictK []) s
def dDisp1 (t u : DE) : DE := fun s P => t s fun k s1 => u s1 fun v s2 => ∃ kk : Key, k = keyD kk ∧ P (dictK (toK [(kk, v)])) s2
section
variable {K : PySem.W.Frag} {g0 g g2 : Gh} {H0 H H2 : Hp} {s s2 : S} {σ : St} {p : Addr} {o0 o : HO}
theorem Step.born (r : Rel K g0 H0 g s σ H) (hp : H p = none) (st : Step K g0 H0 g s σ (upd H p o0) g2 s2 H2) (mu : Mut (H2 p)) : Step K g0 H0 g s σ H g2 s2 (upd H2 p o) ∧ ¬ g2.F p ∧ ¬ BagC g2 p ∧ ¬ OwnC s2.ρ σ p ∧ H0 p = none := by
  have nF : ¬ g.F p := fun f => r.ft p f hp
  have nB : ¬ BagC g p := fun z => mutSome (r.bag.mut z) hp
  have nO : ¬ OwnC s.ρ σ p := fun z => by
    obtain ⟨e, q⟩ := r.ownAt z
    exact mutSome q.mut hp
  have n0 : H0 p = none := none_root r hp
  have some1 : upd H p o0 p ≠ none := by rw [upd_same]; exact fun z => by cases z
  have n2F : ¬ g2.F p := fun f => by
    rcases st.ext.new p f nF with z | z
    · exact some1 z
    · exact z.elim nB nO
  have n2B : ¬ BagC g2 p := fun b => by
    rcases st.ext.bagc b with z | z
    · exact nB z
    · exact some1 z
  have n2O : ¬ OwnC s2.ρ σ p := fun q => nO (st.own p q)
  have back : ∀ a, upd H p o0 a = none → H a = none := fun a q => by
    by_cases ne : a = p
    · rw [ne]; exact hp
    · rw [upd_ne ne] at q
      exact q
  refine ⟨⟨st.rel.upd mu n2F n2B n2O n0, ⟨fun a u h n => ?_, fun a n => ?_, st.ext.mono, fun a f n => ?_, fun a f n => ?_, st.ext.bag, fun x y h n => ?_⟩, st.own⟩, n2F, n2B, n2O, n0⟩
  · have ne : a ≠ p := by
      rintro rfl
      rw [hp] at h; cases h
    rw [upd_ne ne]
    exact st.ext.keep a u (by rw [upd_ne ne]; exact h) n
  · by_cases ne : a = p
    · rw [ne, upd_same]; exact fun z => by cases z
    · rw [upd_ne ne]
      exact st.ext.there a (by rw [upd_ne ne]; exact n)
  · rcases st.ext.new a f n with z | z
    · exact .inl (back a z)
    · exact .inr z
  · by_cases ne : a = p
    · rw [ne, upd_same]; exact fun z => by cases z
    · rw [upd_ne ne]
      exact st.ext.newt a f n
  · obtain ⟨h1, h2⟩ := st.ext.bagn x y h n
    exact ⟨back _ h1, back _ h2⟩
end
section
variable {X : Cx} {pos : Pos} {e f : Expr} {te tf : TE} {de df : DE}
theorem v_newT : VO X (.Dict [] [] pos) tDNewT dNewT := ⟨pe_dnewT, fun g0 H0 g s σ H P Q r p k q hq => k q _ g s _ (Step.laid (.refl r) hq) (Step.new (.refl r) hq (.inr (.inl ⟨[], [], rfl, upd_same, .nil⟩))) p⟩
theorem v_newK : VO X (.Dict [] [] pos) tDNewK dNewK := ⟨pe_dnewK, fun g0 H0 g s σ H P Q r p k q hq => k q _ g s _ (Step.laid (.refl r) hq) (Step.new (.refl r) hq (.inr (.inr ⟨[], [], rfl, upd_same, .nil⟩))) p⟩
theorem v_disp1 (he : VE X e te de) (hf : VE X f tf df) : VO X (.Dict [some e] [f] pos) (tDisp [(te, tf)]) (dDisp1 de df) :=
  ⟨pe_disp (pps_cons he.pe hf.pe pps_nil) rfl rfl (by simp) (by simp), fun g0 H0 g s σ H P Q r p k q hq => by
    have f0 : Fresh g H g (upd H q (.dK [])) := .laid hq
    have r0 := (f0.step r).rel
    refine he.adq g0 H0 g s σ _ _ _ r0 p fun x H1 g1 s1 d1 st1 z1 p1 => hf.adq g0 H0 g1 s1 σ H1 _ _ st1.rel p1 fun y H2 g2 s2 d2 st2 z2 ⟨kk, ek, p2⟩ => ?_
    have st := st1.trans st2
    have nB : ¬ BagC g q := fun z => mutSome (r.bag.mut z) hq
    have nO : ¬ OwnC s.ρ σ q := fun z => by
      obtain ⟨e, o⟩ := r.ownAt z
      exact mutSome o.mut hq
    have h2 : H2 q = some (.dK []) := st.ext.keep q _ upd_same fun t => t.elim nB nO
    subst ek
    have e1 := (z1.step st1.rel st2).key
    subst e1
    have mu : Mut (H2 q) := by rw [h2]; trivial
    obtain ⟨st3, n1, n2, n3, n4⟩ := Step.born (o := .dK (mergeK [] [(kk, y)])) r hq st mu
    refine ⟨h2, [(kk, y)], rfl, by simp, k q _ g2 s2 _ st3 ⟨.inr (.inr ⟨[(kk, y)], toK [(kk, d2)], rfl, upd_same, ?_⟩), n1, n2, hq, n3, n4⟩ p2⟩
    exact (Two.cons (z2.stay (Stay.upd mu n1)) .nil : Two X.K g2 _ [(kk, y)] [(kk, d2)]).seesK⟩
end
/-! ### pass, break, continue -/
def sBrk : DS := fun D s => D.bk s
def sCnt : DS := fun D s => D.ct s
section
variable {X : Cx} {pos : Pos}
theorem vs_pass : VS X (.Pass pos) tNext sNext := ⟨ps_pass, adq_next⟩
theorem vs_break : VS X (.Break pos) tBreak sBrk := ⟨ps_break, fun g0 H0 g s σ H D D' r p e => e.bk g s σ H r .refl p⟩
theorem vs_continue : VS X (.Continue pos) tCont sCnt := ⟨ps_continue, fun g0 H0 g s σ H D D' r p e => e.ct g s σ H r .refl p⟩
end
end VS
namespace VS
open PySem PySem.Spec L2
open PyProof.Rows hiding St

/-! ### defs: room, the guards being none -/
structure RoomG (k : Nat) (A : Around) : Prop where
  r : Room k A
  g : A.guards = some []
theorem RoomG.mono {j k : Nat} {A : Around} (h : RoomG k A) (l : j ≤ k) : RoomG j A := ⟨h.r.mono l, h.g⟩
theorem RoomG.deeper {k : Nat} {A : Around} (h : RoomG (k + 1) A) (env : Env) : RoomG k (A.deeper env) := ⟨h.r.deeper env, h.g⟩
abbrev PreV := List V → Hp → VK → Prop
structure FnV (P : Program) (w : World) (K : PySem.W.Frag) (mg : Str → Option Value) (base : Heap) (k : Nat) (f : Addr) (fd : FuncData) (ps : List Str) (sp : PreV) : Prop where
  len : ∀ {vs H Q}, sp vs H Q → vs.length = ps.length
  go : ∀ {A : Around} {outer : List Env} {s : Shared} {H : Hp} {args : Args} {us : List Value} {vs : List V} {Q : VK}, RoomG k A → Env0 P w K mg base A outer s H → BindsTo s fd args (ps.zip us) → Vals vs us → sp vs H Q →
    codeAny (model P w) A (.call (.ref f) args) (CR L2.CX0 outer P w H s Q E0) s
theorem FnV.mono {P : Program} {w : World} {K : PySem.W.Frag} {mg : Str → Option Value} {base : Heap} {j k : Nat} {f : Addr} {fd : FuncData} {ps : List Str} {sp : PreV} (F : FnV P w K mg base j f fd ps sp) (h : j ≤ k) : FnV P w K mg base k f fd ps sp :=
  ⟨F.len, fun hr => F.go (hr.mono h)⟩
abbrev bodyCx (P : Program) (w : World) (K : PySem.W.Frag) (mg : Str → Option Value) (base : Heap) (N : List Str) (x : Str) (scope : Scope) (f : Addr) (cd : Value) (A : Around) (outer : List Env) (s : Shared) (H : Hp) : Cx := (cxOf L2.CX0 P w K mg base N x scope f cd A outer s H E0).nox
section
variable {P : Program} {w : World} {K : PySem.W.Frag} {mg : Str → Option Value} {base : Heap}
/-- a def by its body -/
theorem fnv_of {k : Nat} {f : Addr} {fd : FuncData} {x : Str} {params : Arguments} {body : List Stmt} {scope : Scope} {N ps : List Str} {sp : PreV} (F : FunD K x x params body scope [] [] f fd) (S : FnScope N ps scope) (len : ∀ {vs H Q}, sp vs H Q → vs.length = ps.length)
    (hb : ∀ (cd : Value) (A : Around) (outer : List Env) (s : Shared) (H : Hp) (vs : List V) (Q : VK), RoomG k (A.deeper (envOfC x scope s.heap.objs.size f cd)) → sp vs H Q →
      ∃ t, PSs (bodyCx P w K mg base N x scope f cd A outer s H) body t ∧ t { nx := fun _ H' => Q .non H', rt := Q } (start N vs) H) : FnV P w K mg base (k + 1) f fd ps sp := by
  obtain ⟨oc, od, dV, kV, doc, pm, an, cdv, ct, osl, rfl, lk, hcd, _, _⟩ := F.ex
  refine ⟨len, fun {A outer s H args us vs Q} hr e0 hbd rv hsp => ?_⟩
  obtain ⟨t, ht, hq⟩ := hb cdv A outer s H vs Q (hr.deeper _) hsp
  have ht' := PSs.nox ht
  have KX : K.In s.heap := e0.mod.kin.keeps fun b o e => (e0.bs b o e).1
  have lim : s.heap.NoLimit := e0.mod.nolimit.keeps fun b o e => (e0.bs b o e).1
  have kinds : ∀ y ∈ ps.zip us, scope.names.lookup y.1 = some .local ∨ (scope.names.lookup y.1 = some .cell ∧ ((cellsFrom (s.heap.objs.size + 1) scope.names []).lookup y.1).isSome = true) := by
    rintro ⟨n, v⟩ hy
    have q := S.par n (List.of_mem_zip hy).1
    exact q.imp id fun q => ⟨q, PySem.W.cellsFrom_some _ _ _ (.inl q)⟩
  refine codeAny_call_function hr.r.depth (KX _ _ lk) rfl S.co S.gen rfl (PySem.W.codeRec_of KX hcd) (hbd _ _ _ _ (wpAny_newFunctionEnv_cells S.kind kinds fun env he s1 xx => ?_))
  subst he
  have I : Inv (cxOf L2.CX0 P w K mg base N x scope f cdv A outer s H E0) [] (start N vs) H s1 := inv_start S hr.r.hd e0 (len hsp) rv xx
  refine ⟨lim.keeps xx.toInCall.keep, codeAny_func (wpAny_mono (ht'.run [] s1 (start N vs) H _ I hq) (fun fl s' hs => ?_) fun e s' hs => hs)⟩
  have fin : ∀ {σ' : St} {H' : Hp} {v : V} {u : Value}, Inv (cxOf L2.CX0 P w K mg base N x scope f cdv A outer s H E0) [] σ' H' s' → RelV v u → Q v H' → CE outer P w H s Q u s' :=
    fun J rv q => ⟨_, _, J.os, J.bare, J.base, J.hok, rv, q⟩
  cases fl with
  | ret u => exact let ⟨_, _, _, J, rv, q⟩ := hs; fin J rv q
  | next => exact let ⟨_, _, J, q⟩ := hs; fin (v := .non) (u := Value.none) J rfl q
  | brk => exact let ⟨_, _, _, q⟩ := hs; q.elim
  | cont => exact let ⟨_, _, _, q⟩ := hs; q.elim
end
section
variable {X : Cx} {k : Nat} {f : Addr} {fd : FuncData} {ps ks : List Str} {sp : PreV} {x : Str} {p pos : Pos} {e : Expr} {es : List Expr} {kws : List Keyword} {t tk : TA} {pins : List (Addr × Obj)} {σ : St} {H : Hp} {s : Shared} {Q : VK} {us ws : List Value} {vs zs : List V}
theorem run_v {args : List Value} {kw : List (Str × Value)} {us : List Value} (F : FnV X.prog X.w X.K X.mg X.base k f fd ps sp) (hr : RoomG k X.A) (I : Inv X pins σ H s) (hb : BindsTo s fd ⟨args, kw⟩ (ps.zip us)) (r : Vals vs us) (h : sp vs H Q) :
    wpAny (model X.prog X.w) X.A (call (.ref f) args kw) (EP X pins σ Q) X.xe s := by
  refine wpAny_call (codeAny_mono (F.go hr I.env0 hb r h) fun res s' hq => ?_)
  match res, hq with
  | .ok (.ret u), hq => exact I.after hq
theorem pe_v (F : FnV X.prog X.w X.K X.mg X.base k f fd ps sp) (hr : RoomG k X.A) (hg : Gl X x) (hm : X.mg x = some (.ref f)) (hk : PySem.W.keepIn X.K (.ref f) = true) (hb : Binds X.K fd ps []) (ha : PA X (e :: es) t)
    (hdb : (x == ("__debug__" : Str)) = false := by decide) (he : starEach (e :: es) X.env = (false, eval e X.env) :: starEach es X.env := by rfl) (hpl : (backTo pos (starEach es X.env)).any (·.1) = false := by rfl) :
    PE X (.Call (.Name x p) (e :: es) [] pos) (tCB sp t) := ⟨fun pins s σ H Q I h =>
  wpAny_Call_Name_kw (ld_glob I hg hm (PySem.W.callWith_K (h₀ := X.base) I.ok.mod.kin hk (thn (ha.run pos pins s σ H _ I h) fun us s1 ⟨vs, H1, I1, r, q⟩ => ⟨I1.kIn, by
    have hl : (us ++ []).length = ps.length := by rw [List.append_nil, ← r.length]; exact F.len q
    have b := hb s1 us I1.kIn hl
    rw [List.append_nil] at b
    exact run_v F hr I1 b r q⟩) he hpl) hdb)⟩
theorem pe_v0 (F : FnV X.prog X.w X.K X.mg X.base k f fd ps sp) (hr : RoomG k X.A) (hg : Gl X x) (hm : X.mg x = some (.ref f)) (hk : PySem.W.keepIn X.K (.ref f) = true) (hb : Binds X.K fd ps [])
    (hdb : (x == ("__debug__" : Str)) = false := by decide) : PE X (.Call (.Name x p) [] [] pos) (tCB sp tNil) := ⟨fun pins s σ H Q I h =>
  wpAny_Call_Name_kw (ld_glob I hg hm (PySem.W.callWith_K0 I.kIn hk (by
    have hl : (([] : List Value) ++ []).length = ps.length := by
      have := F.len h
      simpa using this
    exact run_v (vs := []) (us := []) F hr I (by have b := hb s [] I.kIn hl; simpa using b) .nil h)) hdb)⟩
/-- positional values us, keywords' values ws, put in the parameters' order by js -/
def pick {α : Type} (js : List Nat) (xs : List α) : List α := js.filterMap fun j => xs[j]?
theorem Vals.pick (r : Vals vs us) (js : List Nat) : Vals (VS.pick js vs) (VS.pick js us) := by
  unfold VS.pick
  induction js with
  | nil => exact .nil
  | cons j js ih =>
    rw [List.filterMap_cons, List.filterMap_cons]
    cases q : vs[j]? with
    | none =>
      have : us[j]? = none := by
        rw [List.getElem?_eq_none_iff] at q ⊢
        rw [← r.length]; exact q
      rw [this]
      exact ih
    | some v =>
      obtain ⟨u, eu, ru⟩ := r.get q
      rw [eu]
      exact .cons ru ih
def tCKw (sp : PreV) (js : List Nat) (n m : Nat) (t tk : TA) : TE := fun σ H Q => t σ H fun vs H1 => tk σ H1 fun zs H2 => vs.length = n ∧ zs.length = m ∧ sp (pick js (vs ++ zs)) H2 Q
structure KwB (K : PySem.W.Frag) (fd : FuncData) (ps ks : List Str) (n : Nat) (js : List Nat) : Prop where
  to : ∀ (s : Shared) (us ws : List Value), us.length = n → ws.length = ks.length → BindsTo s fd ⟨us, ks.zip ws⟩ (ps.zip (pick js (us ++ ws)))
theorem pe_vk0 {js : List Nat} (F : FnV X.prog X.w X.K X.mg X.base k f fd ps sp) (hr : RoomG k X.A) (hg : Gl X x) (hm : X.mg x = some (.ref f)) (hk : PySem.W.keepIn X.K (.ref f) = true) (hb : KwB X.K fd ps ks 0 js) (hkw : PK X kws tk)
    (hall : (backToKw pos (keywordEach kws X.env)).all (·.1.isSome) = true := by rfl) (hks : (backToKw pos (keywordEach kws X.env)).filterMap (·.1) = ks := by rfl)
    (hdb : (x == ("__debug__" : Str)) = false := by decide) (hpl : ((backTo pos (starEach [] X.env)).any (·.1) || (backToKw pos (keywordEach kws X.env)).any (·.1.isNone)) = false := by rfl) :
    PE X (.Call (.Name x p) [] kws pos) (tCKw sp js 0 ks.length tNil tk) := ⟨fun pins s σ H Q I h =>
  wpAny_Call_Name_kw (ld_glob I hg hm (PySem.W.callWith_KW0 (h₀ := X.base) I.ok.mod.kin hk hall (thn (hkw.run pos pins s σ H _ I h) fun ws s2 ⟨zs, H2, I2, rz, l1, l2, q2⟩ => ⟨I2.kIn, by
    rw [hks]
    have b := hb.to s2 [] ws rfl (by rw [← rz.length]; exact l2)
    exact run_v F hr I2 b (Vals.pick (vs := [] ++ zs) (us := [] ++ ws) rz js) q2⟩) hpl) hdb)⟩
theorem pe_vk {js : List Nat} {n : Nat} (F : FnV X.prog X.w X.K X.mg X.base k f fd ps sp) (hr : RoomG k X.A) (hg : Gl X x) (hm : X.mg x = some (.ref f)) (hk : PySem.W.keepIn X.K (.ref f) = true) (hb : KwB X.K fd ps ks n js) (ha : PA X (e :: es) t) (hkw : PK X kws tk)
    (hall : (backToKw pos (keywordEach kws X.env)).all (·.1.isSome) = true := by rfl) (hks : (backToKw pos (keywordEach kws X.env)).filterMap (·.1) = ks := by rfl)
    (hdb : (x == ("__debug__" : Str)) = false := by decide) (he : starEach (e :: es) X.env = (false, eval e X.env) :: starEach es X.env := by rfl)
    (hpl : ((backTo pos (starEach (e :: es) X.env)).any (·.1) || (backToKw pos (keywordEach kws X.env)).any (·.1.isNone)) = false := by rfl) :
    PE X (.Call (.Name x p) (e :: es) kws pos) (tCKw sp js n ks.length t tk) := ⟨fun pins s σ H Q I h =>
  wpAny_Call_Name_kw (ld_glob I hg hm (PySem.W.callWith_KW (h₀ := X.base) I.ok.mod.kin hk hall (thn (ha.run pos pins s σ H _ I h) fun us s1 ⟨vs, H1, I1, r, q⟩ => thn (hkw.run pos pins s1 σ H1 _ I1 q) fun ws s2 ⟨zs, H2, I2, rz, l1, l2, q2⟩ => ⟨I2.kIn, by
    rw [hks]
    have b := hb.to s2 us ws (by rw [← r.length]; exact l1) (by rw [← rz.length]; exact l2)
    exact run_v F hr I2 b (Vals.pick (r.append rz) js) q2⟩) hpl he) hdb)⟩
end
theorem FunD.kw {K : PySem.W.Frag} {x qual : Str} {params : Arguments} {body : List Stmt} {scope : Scope} {f : Addr} {fd : FuncData} {ps ks : List Str} {n : Nat} {js : List Nat} (F : FunD K x qual params body scope [] [] f fd)
    (h : ∀ (kV doc pm : Value) (an : Option Addr) (cdv ct : Value) (us ws : List Value), us.length = n → ws.length = ks.length → bindArgs (PySem.W.fnOf x qual params body scope .none kV doc pm an cdv ct) ⟨us, ks.zip ws⟩ = pure (ps.zip (pick js (us ++ ws)))) : KwB K fd ps ks n js := by
  obtain ⟨oc, od, dV, kV, doc, pm, an, cdv, ct, osl, rfl, lk, hcd, hD, hK⟩ := F.ex
  rcases hD with ⟨_, rfl⟩ | ⟨e, _⟩
  · exact ⟨fun s us ws l1 l2 => .of_eq (h kV doc pm an cdv ct us ws l1 l2)⟩
  · exact absurd rfl e
end VS
namespace VS
open PySem PySem.Spec L2
open PyProof.Rows hiding St

/-! ### a def's promise over data -/
abbrev VSp := List PyData → Bag → (PyData → Bag → Prop) → Prop
def After (K : PySem.W.Frag) (g : Gh) (H : Hp) (P : PyData → Bag → Prop) (Q : VK) : Prop := ∀ v d β' H' g', Ext (BagC g) g H g' H' → Sees K g' H' v d → BagOk g' β' H' → Ft g' H' → P d β' → Q v H'
def toSp (K : PySem.W.Frag) (n : Nat) (sp : VSp) : PreV := fun vs H Q => ∃ (g : Gh) (ds : List PyData) (β : Bag) (P : PyData → Bag → Prop), vs.length = n ∧ SeesAll K g H vs ds ∧ BagOk g β H ∧ Ft g H ∧ sp ds β P ∧ After K g H P Q
section
variable {K : PySem.W.Frag} {g0 g g1 g2 : Gh} {H0 H H1 H2 : Hp} {s s1 s2 : S} {σ : St} {β' : Bag}
theorem Step.ret (r : Rel K g0 H0 g s σ H) (e : Ext (BagC g) g H g1 H1) (b : BagOk g1 β' H1) (ft : Ft g1 H1) : Step K g0 H0 g s σ H g1 ⟨s.ρ, β'⟩ H1 := by
  have tk : TOk (BagC g) g H := ⟨fun a h => r.bag.mut h, fun a h => r.bag.nf h⟩
  have st := e.stay tk
  refine ⟨⟨r.len, fun i sl h => (r.slot i sl h).stay st fun a ⟨d, h1, h2⟩ u hu => ?_, r.apart, fun a h => ?_, b, ?_, ft⟩, ?_, fun _ h => h⟩
  · subst h1
    exact e.keep a u hu (r.nf a ⟨i, d, h, h2⟩).2.1
  · obtain ⟨h1, h2, h3⟩ := r.nf a h
    have nn : H a ≠ none := by
      obtain ⟨d, q⟩ := r.ownAt h
      exact mutSome q.mut
    refine ⟨fun f => ?_, fun z => ?_, h3⟩
    · rcases e.new a f h1 with z | z
      · exact nn z
      · exact h2 z
    · rcases e.bagc z with z | z
      · exact h2 z
      · exact nn z
  · exact r.grow.trans e fun a h => by
      rcases r.grow.bagc h with z | z
      · exact .inl z
      · exact .inr z
  · refine ⟨fun a u h n => e.keep a u h fun z => n (.inl z), e.there, e.mono, fun a f n => (e.new a f n).imp id .inl, e.newt, e.bag, e.bagn⟩
end
def dFn (n : Nat) (sp : VSp) (t : DA) : DE := fun s P => t s fun ds s1 => ds.length = n ∧ sp ds s1.β fun d β' => P d ⟨s1.ρ, β'⟩
def dFnK (sp : VSp) (js : List Nat) (n m l : Nat) (t u : DA) : DE := fun s P => t s fun ds s1 => u s1 fun es s2 => ds.length = n ∧ es.length = m ∧ (pick js (ds ++ es)).length = l ∧ sp (pick js (ds ++ es)) s2.β fun d β' => P d ⟨s2.ρ, β'⟩
section
variable {K : PySem.W.Frag} {ta tb : TA} {da db : DA} {n m l : Nat} {sp : VSp} {js : List Nat}
theorem adq_fn (h : AdqA K ta da) : AdqE K (tCB (toSp K n sp) ta) (dFn n sp da) := fun g0 H0 g s σ H P Q r p k =>
  h g0 H0 g s σ H _ _ r p fun vs H1 g1 s1 ds st z ⟨hl, p1⟩ => ⟨g1, ds, s1.β, _, by rw [z.length]; exact hl, z, st.rel.bag, st.rel.ft, p1, fun v d β' H' g' e zz b ft p2 => k v H' g' _ d (st.trans (Step.ret st.rel e b ft)) zz p2⟩
theorem SeesAll.pick {g : Gh} {H : Hp} {vs : List V} {ds : List PyData} (z : SeesAll K g H vs ds) (js : List Nat) : SeesAll K g H (VS.pick js vs) (VS.pick js ds) := by
  unfold VS.pick
  induction js with
  | nil => exact .nil
  | cons j js ih =>
    rw [List.filterMap_cons, List.filterMap_cons]
    cases q : ds[j]? with
    | none =>
      have : vs[j]? = none := by
        rw [List.getElem?_eq_none_iff] at q ⊢
        rw [z.length]; exact q
      rw [this]
      exact ih
    | some v =>
      obtain ⟨u, eu, ru⟩ := z.at q
      rw [eu]
      exact .cons ru ih
theorem adq_fnK (h : AdqA K ta da) (h2 : AdqA K tb db) : AdqE K (tCKw (toSp K l sp) js n m ta tb) (dFnK sp js n m l da db) := fun g0 H0 g s σ H P Q r p k =>
  h g0 H0 g s σ H _ _ r p fun vs H1 g1 s1 ds st z p1 => h2 g0 H0 g1 s1 σ H1 _ _ st.rel p1 fun zs H2 g2 s2 es st2 z2 ⟨l1, l2, l3, p2⟩ => by
    have za := ((z.step st.rel st2).app z2).pick js
    exact ⟨by rw [z.length]; exact l1, by rw [z2.length]; exact l2, g2, _, s2.β, _, by rw [za.length]; exact l3, za, st2.rel.bag, st2.rel.ft, p2, fun v d β' H' g' e zz b ft p3 => k v H' g' _ d ((st.trans st2).trans (Step.ret st2.rel e b ft)) zz p3⟩
end
structure VK_ (X : Cx) (kws : List Keyword) (t : TA) (d : DA) : Prop where
  pk : PK X kws t
  adq : AdqA X.K t d
/-- a def as it stands in the program: named x, its text st -/
structure Def (P : Program) (w : World) (K : PySem.W.Frag) (mg : Str → Option Value) (base : Heap) (k : Nat) (x : Str) (st : Stmt) (ps : List Str) (sp : VSp) : Prop where
  ex : ∃ (f : Addr) (fd : FuncData), mg x = some (.ref f) ∧ FunD K x x (defArgs st) (defBody st) (defScope st) [] [] f fd ∧ FnV P w K mg base k f fd ps (toSp K ps.length sp) ∧ Binds K fd ps []
section
variable {X : Cx} {k : Nat} {x : Str} {st : Stmt} {ps ks : List Str} {sp : VSp} {p pos : Pos} {e : Expr} {es : List Expr} {kws : List Keyword} {t tk : TA} {da dk : DA}
theorem vk_nil : VK_ X [] tNil dNil := ⟨pk_nil, adq_nil⟩
theorem vk_cons {kpos : Pos} {nm : Option Str} {te : TE} {de : DE} (h : VE X e te de) (hr : VK_ X kws t da) : VK_ X (⟨nm, e, kpos⟩ :: kws) (tCons te t) (dCons de da) := ⟨pk_cons h.pe hr.pk, adq_cons h.adq hr.adq⟩
theorem v_fn (D : Def X.prog X.w X.K X.mg X.base k x st ps sp) (hr : RoomG k X.A) (hg : Gl X x) (ha : VA X (e :: es) t da)
    (hdb : (x == ("__debug__" : Str)) = false := by decide) (he : starEach (e :: es) X.env = (false, eval e X.env) :: starEach es X.env := by rfl) (hpl : (backTo pos (starEach es X.env)).any (·.1) = false := by rfl) :
    VE X (.Call (.Name x p) (e :: es) [] pos) (tCB (toSp X.K ps.length sp) t) (dFn ps.length sp da) :=
  ⟨let ⟨f, fd, hm, F, V, hb⟩ := D.ex; pe_v V hr hg hm F.kp hb ha.pa hdb he hpl, adq_fn ha.adq⟩
theorem v_fn0 (D : Def X.prog X.w X.K X.mg X.base k x st ps sp) (hr : RoomG k X.A) (hg : Gl X x) (hdb : (x == ("__debug__" : Str)) = false := by decide) :
    VE X (.Call (.Name x p) [] [] pos) (tCB (toSp X.K ps.length sp) tNil) (dFn ps.length sp dNil) :=
  ⟨let ⟨f, fd, hm, F, V, hb⟩ := D.ex; pe_v0 V hr hg hm F.kp hb hdb, adq_fn adq_nil⟩
abbrev KwFn (x : Str) (st : Stmt) (ps ks : List Str) (n : Nat) (js : List Nat) : Prop := ∀ (kV doc pm : Value) (an : Option Addr) (cdv ct : Value) (us ws : List Value), us.length = n → ws.length = ks.length → bindArgs (PySem.W.fnOf x x (defArgs st) (defBody st) (defScope st) .none kV doc pm an cdv ct) ⟨us, ks.zip ws⟩ = pure (ps.zip (pick js (us ++ ws)))
theorem v_fnK0 {js : List Nat} (D : Def X.prog X.w X.K X.mg X.base k x st ps sp) (hr : RoomG k X.A) (hg : Gl X x) (hk : KwFn x st ps ks 0 js) (ha : VK_ X kws tk dk)
    (hall : (backToKw pos (keywordEach kws X.env)).all (·.1.isSome) = true := by rfl) (hks : (backToKw pos (keywordEach kws X.env)).filterMap (·.1) = ks := by rfl)
    (hdb : (x == ("__debug__" : Str)) = false := by decide) (hpl : ((backTo pos (starEach [] X.env)).any (·.1) || (backToKw pos (keywordEach kws X.env)).any (·.1.isNone)) = false := by rfl) :
    VE X (.Call (.Name x p) [] kws pos) (tCKw (toSp X.K ps.length sp) js 0 ks.length tNil tk) (dFnK sp js 0 ks.length ps.length dNil dk) :=
  ⟨let ⟨f, fd, hm, F, V, hb⟩ := D.ex; pe_vk0 V hr hg hm F.kp (VS.FunD.kw F hk) ha.pk hall hks hdb hpl, adq_fnK adq_nil ha.adq⟩
theorem v_fnK {js : List Nat} {n : Nat} (D : Def X.prog X.w X.K X.mg X.base k x st ps sp) (hr : RoomG k X.A) (hg : Gl X x) (hk : KwFn x st ps ks n js) (ha : VA X (e :: es) t da) (hw : VK_ X kws tk dk)
    (hall : (backToKw pos (keywordEach kws X.env)).all (·.1.isSome) = true := by rfl) (hks : (backToKw pos (keywordEach kws X.env)).filterMap (·.1) = ks := by rfl)
    (hdb : (x == ("__debug__" : Str)) = false := by decide) (he : starEach (e :: es) X.env = (false, eval e X.env) :: starEach es X.env := by rfl)
    (hpl : ((backTo pos (starEach (e :: es) X.env)).any (·.1) || (backToKw pos (keywordEach kws X.env)).any (·.1.isNone)) = false := by rfl) :
    VE X (.Call (.Name x p) (e :: es) kws pos) (tCKw (toSp X.K ps.length sp) js n ks.length t tk) (dFnK sp js n ks.length ps.length da dk) :=
  ⟨let ⟨f, fd, hm, F, V, hb⟩ := D.ex; pe_vk V hr hg hm F.kp (VS.FunD.kw F hk) ha.pa hw.pk hall hks hdb he hpl, adq_fnK ha.adq hw.adq⟩
end
/-! ### a def by its body's reading -/
def initS (N : Nat) (ds : List PyData) (β : Bag) : S := ⟨ds.map Slot.sh ++ List.replicate (N - ds.length) Slot.un, β⟩
theorem seesAll_slot {K : PySem.W.Frag} {g : Gh} {H : Hp} {vs : List V} {ds : List PyData} (z : SeesAll K g H vs ds) (N : List Str) (i : Nat) (sl : Slot) (h : (ds.map Slot.sh ++ List.replicate (N.length - ds.length) Slot.un)[i]? = some sl) : SlotOk K g H sl (start N vs)[i]? := by
  by_cases hi : i < ds.length
  · rw [List.getElem?_append_left (by simpa using hi), List.getElem?_map, List.getElem?_eq_getElem hi] at h
    cases h
    obtain ⟨v, ev, zv⟩ := z.at (List.getElem?_eq_getElem hi)
    refine ⟨v, ?_, zv⟩
    unfold L2.start
    rw [List.getElem?_append_left (by rw [List.length_map, z.length]; exact hi), List.getElem?_map, ev]
    rfl
  · rw [List.getElem?_append_right (by simpa using hi)] at h
    have := List.mem_of_getElem? h
    rw [List.mem_replicate] at this
    rw [this.2]
    trivial
theorem init_rel {K : PySem.W.Frag} {g : Gh} {H : Hp} {vs : List V} {ds : List PyData} {β : Bag} (z : SeesAll K g H vs ds) (N : List Str) (b : BagOk g β H) (ft : Ft g H) : Rel K g H g (initS N.length ds β) (start N vs) H := by
  have no : ∀ (i : Nat) (d : PyData), (initS N.length ds β).ρ[i]? ≠ some (Slot.ow d) := by
    intro i d h
    have := List.mem_of_getElem? h
    unfold initS at this
    rcases List.mem_append.mp this with q | q
    · obtain ⟨_, _, e⟩ := List.mem_map.mp q
      cases e
    · rw [List.mem_replicate] at q
      cases q.2
  refine ⟨?_, fun i sl h => seesAll_slot z N i sl h, fun i j d e a h => absurd h (no i d), fun a ⟨i, d, h, _⟩ => absurd h (no i d), b, .refl, ft⟩
  simp [initS, L2.start, z.length]
theorem def_of {P : Program} {w : World} {K : PySem.W.Frag} {mg : Str → Option Value} {base : Heap} {k : Nat} {x : Str} {st : Stmt} {N ps : List Str} {sp : VSp} {f : Addr} {fd : FuncData} (hm : mg x = some (.ref f)) (F : FunD K x x (defArgs st) (defBody st) (defScope st) [] [] f fd)
    (S : FnScope N ps (defScope st)) (hbind : ∀ (kV doc pm : Value) (an : Option Addr) (cdv ct : Value) (us : List Value), us.length = ps.length → bindArgs (PySem.W.fnOf x x (defArgs st) (defBody st) (defScope st) .none kV doc pm an cdv ct) ⟨us, []⟩ = pure (ps.zip us))
    (ts : TS) (d : DS)
    (hb : ∀ (cd : Value) (A : Around) (outer : List Env) (s : Shared) (H : Hp), RoomG k (A.deeper (envOfC x (defScope st) s.heap.objs.size f cd)) → VB (bodyCx P w K mg base N x (defScope st) f cd A outer s H) (defBody st) ts d)
    (hd : ∀ (ds : List PyData) (β : Bag) (Q : PyData → Bag → Prop), ds.length = ps.length → sp ds β Q → d { nx := fun s => Q .none s.β, rt := Q } (initS N.length ds β)) :
    Def P w K mg base (k + 1) x st ps sp := by
  refine ⟨f, fd, hm, F, fnv_of F S (fun {vs H Q} ⟨_, _, _, _, h, _⟩ => h) fun cd A outer s H vs Q hr h => ?_, F.bindsN hbind⟩
  obtain ⟨g, ds, β, P', hl, z, b, ft, hs, aft⟩ := h
  have B := hb cd A outer s H hr
  refine ⟨ts, B.pss, B.adq g H g (initS N.length ds β) (start N vs) H { nx := fun s => P' .none s.β, rt := P' } _ (init_rel z N b ft) (hd ds β P' (by rw [← z.length]; exact hl) hs) ⟨fun g' s' σ' H' r _ p => aft .non .none s'.β H' g' r.grow .non r.bag r.ft p, fun g' s' σ' H' r _ p => p.elim, fun g' s' σ' H' r _ p => p.elim, fun g' H' v d β' e z b f p => aft v d β' H' g' e z b f p⟩⟩
end VS
namespace VS
open PySem PySem.Spec L2
open PyProof.Rows hiding St

/-! ### the law's end -/
section
variable {P : Program} {w : World} {K : PySem.W.Frag} {mg mb : Str → Option Value} {k : Nat} {fa a : Addr} {fd : FuncData} {x : Str} {sp : PreV} {s₁ : Shared} {vs : List Value} {ns : List Int}
/-- over one abstract heap in which at most the script stands -/
theorem law_over {H : Hp} (KX : K.In s₁.heap) (hns : s₁.heap.Ns mainGlobals mg) (hb : s₁.heap.Ns builtinsNs mb) (hbb : ∀ x : Str, x ≠ "__name__" → mb x = bootBuiltins x) (hlim : s₁.heap.NoLimit) (hg : s₁.gens = #[])
    (ha : s₁.heap.get? a = some { cls := .type "list", data := .seq vs.toArray }) (hr : RoomG k callerA) (F : ∀ base : Heap, K.In base → base.Ns mainGlobals mg → FnV P w K mg base k fa fd [x] sp) (hbind : ∀ (s : Shared) (u : Value), BindsTo s fd ⟨[u], []⟩ [(x, u)])
    (hO : Only H) (hok : HOk P w H s₁.heap) (hA : ∀ b, H b ≠ none → b = a) (hK : H a ≠ none → K.lookup a = none) (hsp : sp [.ref a] H fun v _ => v = .bl true) :
    codeAny (model P w) callerA (.call (.ref fa) ⟨[.ref a], []⟩) (fun r s' => r = .ok (.ret (.bool true)) ∧ OldK s₁.heap s'.heap ∧ s'.os = s₁.os ∧ AllBare s'.gens) s₁ := by
  -- a dict of the heap is none of the tracked objects
  have dictFree : ∀ {b : Addr} {o : Obj} {es : Array DictEntry} {ep : Nat}, s₁.heap.get? b = some o → o.data = .dict es ep → H b = none := by
    intro b o es ep e d
    refine Classical.byContradiction fun q => ?_
    obtain rfl := hA b q
    cases ha.symm.trans e
    exact absurd (show Data.seq vs.toArray _ = Data.dict es ep from d) (fun z => nomatch z)
  have nsH : ∀ {b : Addr} {m : Str → Option Value}, s₁.heap.Ns b m → (hidT s₁.heap H).Ns b m :=
    fun ⟨o, es, ep, e, d, r⟩ => ⟨o, es, ep, hidT_get e (dictFree e d), d, r⟩
  have inH : K.In (hidT s₁.heap H) := by
    intro b o e
    refine hidT_get (KX b o e) (Classical.byContradiction fun q => ?_)
    obtain rfl := hA b q
    rw [hK q] at e
    cases e
  have md : Mod K mg (hidT s₁.heap H) := ⟨inH, nsH hns, ⟨mb, nsH hb, hbb⟩, let ⟨mc, h1, h2⟩ := hlim; ⟨mc, nsH h1, h2⟩⟩
  have e0 : Env0 P w K mg (hidT s₁.heap H) callerA [] s₁ H :=
    ⟨rfl, md, fun b o e => of_hidT e, Nat.le_of_eq (hidT_size _ _), trivial, fun b hb => absurd (show b ∈ ([] : List Addr) from hb) (by simp), hok, .of_eq hg⟩
  have run := (F _ inH (nsH hns)).go (args := ⟨[.ref a], []⟩) (us := [.ref a]) hr e0 (hbind s₁ (.ref a)) (.cons (show RelV (V.ref a) (Value.ref a) from rfl) .nil) hsp
  refine codeAny_mono run fun r s' h => ?_
  match r, h with
  | .ok (.ret u), h =>
    obtain ⟨v, H', os, bare, un, hok', r', q⟩ := h
    obtain rfl : v = .bl true := q
    obtain rfl : u = Value.bool true := r'
    refine ⟨rfl, .of_keep fun b o e => ?_, os, bare⟩
    rcases hO b with z | ⟨ob, xs, z⟩
    · exact un.keep b o e z (fun q => absurd (show b ∈ ([] : List Addr) from q) (by simp)) (by simp)
    · have e2 := (hok' b _ (un.frzs b ob _ z)).1
      cases ((hok b _ z).1).symm.trans e
      exact e2
theorem law_g (KX : K.In s₁.heap) (hns : s₁.heap.Ns mainGlobals mg) (hb : s₁.heap.Ns builtinsNs mb) (hbb : ∀ x : Str, x ≠ "__name__" → mb x = bootBuiltins x) (hlim : s₁.heap.NoLimit) (hg : s₁.gens = #[])
    (ha : s₁.heap.get? a = some { cls := .type "list", data := .seq vs.toArray }) (hi : IntsAre vs ns) (hl : ns.length ≤ sizeLine) (hr : RoomG k callerA)
    (F : ∀ base : Heap, K.In base → base.Ns mainGlobals mg → FnV P w K mg base k fa fd [x] sp) (hbind : ∀ (s : Shared) (u : Value), BindsTo s fd ⟨[u], []⟩ [(x, u)]) (hsp : ∀ H : Hp, Only H → SqL K H a (ns.map V.int) → sp [.ref a] H fun v _ => v = .bl true) :
    codeAny (model P w) callerA (.call (.ref fa) ⟨[.ref a], []⟩) (fun r s' => r = .ok (.ret (.bool true)) ∧ OldK s₁.heap s'.heap ∧ s'.os = s₁.os ∧ AllBare s'.gens) s₁ := by
  have rv := vals_ints hi
  have lv := hi.length
  cases hk : K.lookup a with
  | some o =>
    cases (KX a o hk).symm.trans ha
    have S : SqL K (fun _ => none) a (ns.map V.int) := .inr ⟨_, vs.toArray, _, hk, rfl, rfl, rfl, by rw [List.size_toArray, lv]; exact hl, by simpa using rv⟩
    exact law_over (H := fun _ => none) KX hns hb hbb hlim hg ha hr F hbind (fun _ => .inl rfl) (fun b u z => nomatch z) (fun b z => absurd rfl z) (fun z => absurd rfl z) (hsp _ (fun _ => .inl rfl) S)
  | none =>
    let ob : Obj := { cls := .type "list", data := .seq vs.toArray }
    let H : Hp := fun b => if b = a then some (.frz ob (.lst (ns.map V.int))) else none
    have at_ : H a = some (.frz ob (.lst (ns.map V.int))) := if_pos rfl
    have off : ∀ {b}, b ≠ a → H b = none := fun h => if_neg h
    have O : Only H := fun b => if hb : b = a then .inr ⟨ob, ns.map V.int, hb ▸ at_⟩ else .inl (off hb)
    refine law_over (H := H) KX hns hb hbb hlim hg ha hr F hbind O (fun b u z => ?_) (fun b z => ?_) (fun _ => hk) (hsp H O (.inl (.inr ⟨ob, at_⟩)))
    · by_cases hb : b = a
      · subst hb
        cases at_.symm.trans z
        exact ⟨ha, by rw [List.length_map]; exact hl, vs, _, rv, ha⟩
      · cases (off hb).symm.trans z
    · exact Classical.byContradiction fun hb => z (off hb)
end
theorem walk_g {l : PySem.W.OpenLaw} {n k : Nat} {q : Program} {loose : List Str} {XP : (Str → Option Value) → Heap → Prop} {YP : World → Heap → Prop} {d : DefRec} {x : Str} (hn : l.most = some n) (hn2 : n ≤ sizeLine) (hdf : d.params.defaults = []) (hr : RoomG k callerA)
    (F : ∀ (w : World) (mg : Str → Option Value) (fa : Addr) (h : Heap), YP w h → h.Ns mainGlobals mg → mg d.name = some (.ref fa) →
      ∃ (K : PySem.W.Frag) (fd : FuncData) (sp : PreV), K.In h ∧ (∀ (s : Shared) (u : Value), BindsTo s fd ⟨[u], []⟩ [(x, u)]) ∧ (∀ (H : Hp) (a : Addr) (ns : List Int), ns.length ≤ n → Only H → SqL K H a (ns.map V.int) → sp [.ref a] H fun v _ => v = .bl true) ∧
        ∀ base : Heap, K.In base → base.Ns mainGlobals mg → FnV l.prog w K mg base k fa fd [x] sp) :
    PySem.W.WalkO q loose XP YP l.row.toRowW d [] (fun f vs => PySem.call f vs) := by
  refine Att.attach_call hn hdf fun w s₀ s₁ mg mb fa o pm cd doc a vs ns G Y ho hd hcd hmg hobj hints hlen hg => ?_
  obtain ⟨K, fd, sp, KX, hb, hsp, hF⟩ := F w mg fa _ Y G.T.g hmg
  exact law_g KX G.T.g G.T.b G.T.builtins G.T.nolimit hg hobj hints (Nat.le_trans hlen hn2) hr hF hb fun H hO hS => hsp H a ns hlen hO hS
theorem only_scr {K : PySem.W.Frag} {H : Hp} {a : Addr} {ns : List Int} (g : Gh) (hO : Only H) (hS : SqL K H a (ns.map V.int)) : Sees K g H (.ref a) (scrD ns) := by
  refine .scr fun H' hz => ?_
  rcases hS with (e | ⟨o, e⟩) | h
  · rcases hO a with z | ⟨_, _, z⟩ <;> (rw [e] at z; cases z)
  · exact .inl (.inr ⟨o, hz a o _ e⟩)
  · exact .inr h
end VS
namespace VS
open PySem PySem.Spec L2
open PyProof.Rows hiding St

/-! ### short rules for printed terms -/
theorem PI.or {X : Cx} {tg e : Expr} {w w' : TI} (h : PI X tg e w) (h' : PI X tg e w') : PI X tg e (fun σ H R => w σ H R ∨ w' σ H R) := ⟨fun pins s σ H R I q => q.elim (h.run pins s σ H R I) (h'.run pins s σ H R I)⟩
/-- over a list or a tuple: the reader says which -/
def dSeqI (t : DE) : DI := fun s P => dItL t s P ∨ dItT t s P
section
variable {X : Cx} {tg e a b : Expr} {te ta tb : TE} {de da db : DE} {pos : Pos}
theorem vi_seq (h : VE X e te de) : VI X tg e (fun σ H R => iList X.K te σ H R ∨ iTup X.K te σ H R) (dSeqI de) :=
  ⟨PI.or (pi_list h.pe) (pi_tup h.pe), fun g0 H0 g s σ H P R r p k => p.elim (fun p => .inl (adq_itL h.adq g0 H0 g s σ H P R r p k)) fun p => .inr (adq_itT h.adq g0 H0 g s σ H P R r p k)⟩
theorem v_nm (i : Nat) {x : Str} {pos : Pos} (hN : X.N[i]? = some x := by rfl) (hv : Vis X.env.scope x := by first | exact Or.inl rfl | exact Or.inr (Or.inl rfl) | exact Or.inr (Or.inr rfl)) (hd : (x == ("__debug__" : Str)) = false := by decide)
    (hcd : (x == ("__classdict__" : Str)) = false := by decide) : VE X (.Name x pos) (tVar i) (dVar i) := v_var i (pv i hN hv hd hcd)
theorem v_add (ha : VE X a ta da) (hb : VE X b tb db) : VE X (.BinOp a .Add b pos) (tOp (rAddA X.K) ta tb) (dOp dAdd da db) := v_op op_addA opv_add ha hb
theorem v_cat (ha : VE X a ta da) (hb : VE X b tb db) : VO X (.BinOp a .Add b pos) (tOp rCat ta tb) (dOp dCat da db) := v_opO op_cat opv_cat ha hb
theorem v_sub (ha : VE X a ta da) (hb : VE X b tb db) : VE X (.BinOp a .Sub b pos) (tOp (rI0 fun i j => .int (i - j)) ta tb) (dOp dSub da db) := v_op op_sub (opv_I0 fun _ _ _ _ => .int _) ha hb
theorem v_mul (ha : VE X a ta da) (hb : VE X b tb db) : VE X (.BinOp a .Mult b pos) (tOp (rI CMul fun i j => .int (i * j)) ta tb) (dOp dMul da db) := v_op op_mul (opv_I fun _ _ _ _ => .int _) ha hb
theorem v_rep (ha : VE X a ta da) (hb : VE X b tb db) : VO X (.BinOp a .Mult b pos) (tOp rRep ta tb) (dOp dRep da db) := v_opO op_rep opv_rep ha hb
theorem v_fdiv (ha : VE X a ta da) (hb : VE X b tb db) : VE X (.BinOp a .FloorDiv b pos) (tOp (rI CDiv fun i j => .int (i / j)) ta tb) (dOp dFdiv da db) := v_op op_fdiv (opv_I fun _ _ _ _ => .int _) ha hb
theorem v_mod (ha : VE X a ta da) (hb : VE X b tb db) : VE X (.BinOp a .Mod b pos) (tOp (rI (fun _ j => 0 < j) fun i j => .int (i % j)) ta tb) (dOp dMod da db) := v_op op_mod (opv_I fun _ _ _ _ => .int _) ha hb
theorem v_pow (ha : VE X a ta da) (hb : VE X b tb db) : VE X (.BinOp a .Pow b pos) (tOp (rI CPow fun i j => .int (i ^ j.toNat)) ta tb) (dOp dPow da db) := v_op op_pow (opv_I fun _ _ _ _ => .int _) ha hb
theorem v_shl (ha : VE X a ta da) (hb : VE X b tb db) : VE X (.BinOp a .LShift b pos) (tOp (rI CPow fun i j => .int (i * 2 ^ j.toNat)) ta tb) (dOp dShl da db) := v_op op_shl (opv_I fun _ _ _ _ => .int _) ha hb
theorem v_shr (ha : VE X a ta da) (hb : VE X b tb db) : VE X (.BinOp a .RShift b pos) (tOp (rI (fun _ j => 0 ≤ j) fun i j => .int (i / 2 ^ j.toNat)) ta tb) (dOp dShr da db) := v_op op_shr (opv_I fun _ _ _ _ => .int _) ha hb
theorem v_band (ha : VE X a ta da) (hb : VE X b tb db) : VE X (.BinOp a .BitAnd b pos) (tOp (rI0 fun i j => .int (Builtin.bitAnd i j)) ta tb) (dOp dAnd da db) := v_op op_and (opv_I0 fun _ _ _ _ => .int _) ha hb
theorem v_bor (ha : VE X a ta da) (hb : VE X b tb db) : VE X (.BinOp a .BitOr b pos) (tOp (rI0 fun i j => .int (Builtin.bitOr i j)) ta tb) (dOp dOr da db) := v_op op_or (opv_I0 fun _ _ _ _ => .int _) ha hb
theorem v_xor (ha : VE X a ta da) (hb : VE X b tb db) : VE X (.BinOp a .BitXor b pos) (tOp (rI0 fun i j => .int (Builtin.bitXor i j)) ta tb) (dOp dXor da db) := v_op op_xor (opv_I0 fun _ _ _ _ => .int _) ha hb
/-! comparisons: as values, as tests -/
theorem lt_v {K : PySem.W.Frag} : OpV K (rI0 fun i j => .bl (decide (i < j))) dLt := opv_I0 fun _ _ _ _ => .bl _
theorem le_v {K : PySem.W.Frag} : OpV K (rI0 fun i j => .bl (decide (i ≤ j))) dLe := opv_I0 fun _ _ _ _ => .bl _
theorem gt_v {K : PySem.W.Frag} : OpV K (rI0 fun i j => .bl (decide (j < i))) dGt := opv_I0 fun _ _ _ _ => .bl _
theorem ge_v {K : PySem.W.Frag} : OpV K (rI0 fun i j => .bl (decide (j ≤ i))) dGe := opv_I0 fun _ _ _ _ => .bl _
/-! stores of names -/
theorem vs_setN {i : Nat} {x : Str} {p' : Pos} (h : VE X e te de) (hN : X.N.Nodup) (hi : X.N[i]? = some x := by rfl) (hx : Loc X.env.scope x := by first | exact .inl rfl | exact .inr rfl) (hs : swapsWith e (some (.Name x p')) pos.line X.env = pure false := by rfl)
    (hf : X.fn x = true ∨ X.env.scope.names.lookup x = some .local := by first | exact .inl rfl | exact .inr rfl) : VS X (.Assign [.Name x p'] e pos) (tAsg te (gName i)) (sAsg de (bName i)) := vs_set h.adq (ps_set hN hi hx h.pe hs hf)
theorem vs_ownN {i : Nat} {x : Str} {p' : Pos} (h : VO X e te de) (hN : X.N.Nodup) (hi : X.N[i]? = some x := by rfl) (hx : Loc X.env.scope x := by first | exact .inl rfl | exact .inr rfl) (hs : swapsWith e (some (.Name x p')) pos.line X.env = pure false := by rfl)
    (hf : X.fn x = true ∨ X.env.scope.names.lookup x = some .local := by first | exact .inl rfl | exact .inr rfl) : VS X (.Assign [.Name x p'] e pos) (tAsg te (gName i)) (sOwn de i) := vs_own h.adq (ps_set hN hi hx h.pe hs hf)
theorem vg_nm (i : Nat) {x : Str} (hN : X.N.Nodup) (hi : X.N[i]? = some x := by rfl) (hx : Loc X.env.scope x := by first | exact .inl rfl | exact .inr rfl) (hf : X.fn x = true ∨ X.env.scope.names.lookup x = some .local := by first | exact .inl rfl | exact .inr rfl) :
    VG X (.Name x pos) [i] (gName i) (bName i) := vg_name (pg_name hN hi hx hf)
theorem pg_nm (i : Nat) {x : Str} (hN : X.N.Nodup) (hi : X.N[i]? = some x := by rfl) (hx : Loc X.env.scope x := by first | exact .inl rfl | exact .inr rfl) (hf : X.fn x = true ∨ X.env.scope.names.lookup x = some .local := by first | exact .inl rfl | exact .inr rfl) :
    PG X (.Name x pos) (gName i) := pg_name hN hi hx hf
end
/-! calls of defs, the number of parameters written -/
section
variable {X : Cx} {k n l m : Nat} {x : Str} {st : Stmt} {ps ks : List Str} {sp : VSp} {p pos : Pos} {e : Expr} {es : List Expr} {kws : List Keyword} {t tk : TA} {da dk : DA} {js : List Nat}
theorem v_call (D : Def X.prog X.w X.K X.mg X.base k x st ps sp) (hr : RoomG k X.A) (hg : Gl X x) (ha : VA X (e :: es) t da) (hn : ps.length = n := by rfl)
    (hdb : (x == ("__debug__" : Str)) = false := by decide) (he : starEach (e :: es) X.env = (false, eval e X.env) :: starEach es X.env := by rfl) (hpl : (backTo pos (starEach es X.env)).any (·.1) = false := by rfl) :
    VE X (.Call (.Name x p) (e :: es) [] pos) (tCB (toSp X.K n sp) t) (dFn n sp da) := by
  subst hn
  exact v_fn D hr hg ha hdb he hpl
theorem v_call0 (D : Def X.prog X.w X.K X.mg X.base k x st ps sp) (hr : RoomG k X.A) (hg : Gl X x) (hn : ps.length = n := by rfl) (hdb : (x == ("__debug__" : Str)) = false := by decide) :
    VE X (.Call (.Name x p) [] [] pos) (tCB (toSp X.K n sp) tNil) (dFn n sp dNil) := by
  subst hn
  exact v_fn0 D hr hg hdb
theorem v_callK0 (ks : List Str) (D : Def X.prog X.w X.K X.mg X.base k x st ps sp) (hr : RoomG k X.A) (hg : Gl X x) (hk : KwFn x st ps ks 0 js) (ha : VK_ X kws tk dk) (hn : ps.length = l := by rfl) (hm : ks.length = m := by rfl)
    (hall : (backToKw pos (keywordEach kws X.env)).all (·.1.isSome) = true := by rfl) (hks : (backToKw pos (keywordEach kws X.env)).filterMap (·.1) = ks := by rfl)
    (hdb : (x == ("__debug__" : Str)) = false := by decide) (hpl : ((backTo pos (starEach [] X.env)).any (·.1) || (backToKw pos (keywordEach kws X.env)).any (·.1.isNone)) = false := by rfl) :
    VE X (.Call (.Name x p) [] kws pos) (tCKw (toSp X.K l sp) js 0 m tNil tk) (dFnK sp js 0 m l dNil dk) := by
  subst hn
  subst hm
  exact v_fnK0 D hr hg hk ha hall hks hdb hpl
theorem v_callK (ks : List Str) (D : Def X.prog X.w X.K X.mg X.base k x st ps sp) (hr : RoomG k X.A) (hg : Gl X x) (hk : KwFn x st ps ks n js) (ha : VA X (e :: es) t da) (hw : VK_ X kws tk dk) (hn : ps.length = l := by rfl) (hm : ks.length = m := by rfl)
    (hall : (backToKw pos (keywordEach kws X.env)).all (·.1.isSome) = true := by rfl) (hks : (backToKw pos (keywordEach kws X.env)).filterMap (·.1) = ks := by rfl)
    (hdb : (x == ("__debug__" : Str)) = false := by decide) (he : starEach (e :: es) X.env = (false, eval e X.env) :: starEach es X.env := by rfl)
    (hpl : ((backTo pos (starEach (e :: es) X.env)).any (·.1) || (backToKw pos (keywordEach kws X.env)).any (·.1.isNone)) = false := by rfl) :
    VE X (.Call (.Name x p) (e :: es) kws pos) (tCKw (toSp X.K l sp) js n m t tk) (dFnK sp js n m l da dk) := by
  subst hn
  subst hm
  exact v_fnK D hr hg hk ha hw hall hks hdb he hpl
end
/-! methods -/
theorem app_m {X : Cx} : MtR X "list.append" rAppend := mt_append
theorem ext_m {X : Cx} : MtR X "list.extend" rExtend := mt_extend
theorem pop_m {X : Cx} : MtR X "list.pop" rPop := mt_pop
theorem popAt_m {X : Cx} : MtR X "list.pop" rPopAt := mt_popAt
section
variable {X : Cx} {o e : Expr} {i : Nat} {ta : TA} {da : DA} {apos cpos : Pos}
end
/-! names for what the printed readings say -/
abbrev rSubI : R2 := rI0 fun i j => .int (i - j)
abbrev rMulI : R2 := rI CMul fun i j => .int (i * j)
abbrev rFdivI : R2 := rI CDiv fun i j => .int (i / j)
abbrev rModI : R2 := rI (fun _ j => 0 < j) fun i j => .int (i % j)
abbrev rPowI : R2 := rI CPow fun i j => .int (i ^ j.toNat)
abbrev rShlI : R2 := rI CPow fun i j => .int (i * 2 ^ j.toNat)
abbrev rShrI : R2 := rI (fun _ j => 0 ≤ j) fun i j => .int (i / 2 ^ j.toNat)
abbrev rAndI : R2 := rI0 fun i j => .int (Builtin.bitAnd i j)
abbrev rOrI : R2 := rI0 fun i j => .int (Builtin.bitOr i j)
abbrev rXorI : R2 := rI0 fun i j => .int (Builtin.bitXor i j)
abbrev rLtI : R2 := rI0 fun i j => .bl (decide (i < j))
abbrev rLeI : R2 := rI0 fun i j => .bl (decide (i ≤ j))
abbrev rGtI : R2 := rI0 fun i j => .bl (decide (j < i))
abbrev rGeI : R2 := rI0 fun i j => .bl (decide (j ≤ i))
abbrev rIsNo : R2 := fun x y H Q => y = .non ∧ Q (.bl (decide (x = .non))) H
abbrev rNotNo : R2 := fun x y H Q => y = .non ∧ Q (.bl (!decide (x = .non))) H
abbrev rSlX (K : PySem.W.Frag) : V → Option Int → Option Int → Hp → VK → Prop := fun x lo hi H Q => rSlL K x lo hi H Q ∨ rSlA K x lo hi H Q
abbrev rLenA (K : PySem.W.Frag) : List V → Hp → VK → Prop := fun xs H Q => ∃ p ys, xs = [.ref p] ∧ (SqL K H p ys ∨ SqT K H p ys) ∧ Q (.int ys.length) H
abbrev rListA (K : PySem.W.Frag) : List V → Hp → VK → Prop := fun xs H Q => ∃ p ys, xs = [.ref p] ∧ (SqL K H p ys ∨ SqT K H p ys) ∧ ∀ l, H l = none → Q (.ref l) (upd H l (.lst ys))
abbrev rTupA (K : PySem.W.Frag) : List V → Hp → VK → Prop := fun xs H Q => ∃ p ys, xs = [.ref p] ∧ ((SqL K H p ys ∧ ∀ l, H l = none → Q (.ref l) (upd H l (.tup ys))) ∨ (SqT K H p ys ∧ Q (.ref p) H))
abbrev rAbsI : List V → Hp → VK → Prop := fun xs H Q => ∃ i, xs = [.int i] ∧ Q (.int (if i < 0 then -i else i)) H
abbrev rInt1 : List V → Hp → VK → Prop := fun xs H Q => (∃ i, xs = [.int i] ∧ Q (.int i) H) ∨ ∃ k, xs = [.bl k] ∧ Q (.int (if k then 1 else 0)) H
abbrev tTru (K : PySem.W.Frag) (ta : TE) : TT := fun σ H Q => ta σ H fun x H' => ∃ k, TruV K x H' k ∧ Q k H'
abbrev iSeq (K : PySem.W.Frag) (te : TE) : TI := fun σ H R => iList K te σ H R ∨ iTup K te σ H R
theorem bb_len : bootBuiltins "len" = some (.builtin "len") := by decide +kernel
theorem bb_all : bootBuiltins "all" = some (.builtin "all") := by decide +kernel
theorem bb_any : bootBuiltins "any" = some (.builtin "any") := by decide +kernel
theorem bb_sum : bootBuiltins "sum" = some (.builtin "sum") := by decide +kernel
theorem bb_max : bootBuiltins "max" = some (.builtin "max") := by decide +kernel
theorem bb_min : bootBuiltins "min" = some (.builtin "min") := by decide +kernel
theorem bb_abs : bootBuiltins "abs" = some (.builtin "abs") := by decide +kernel
theorem bb_repr : bootBuiltins "repr" = some (.builtin "repr") := by decide +kernel
theorem bb_sorted : bootBuiltins "sorted" = some (.builtin "sorted") := by decide +kernel
theorem bb_isinstance : bootBuiltins "isinstance" = some (.builtin "isinstance") := by decide +kernel
theorem bb_list : bootBuiltins "list" = some (.type "list") := by decide +kernel
theorem bb_tuple : bootBuiltins "tuple" = some (.type "tuple") := by decide +kernel
theorem bb_dict : bootBuiltins "dict" = some (.type "dict") := by decide +kernel
theorem bb_int : bootBuiltins "int" = some (.type "int") := by decide +kernel
theorem bb_bool : bootBuiltins "bool" = some (.type "bool") := by decide +kernel
theorem bb_str : bootBuiltins "str" = some (.type "str") := by decide +kernel
theorem def_of' {P : Program} {w : World} {K : PySem.W.Frag} {mg : Str → Option Value} {base : Heap} {k : Nat} {x : Str} {st : Stmt} {N ps : List Str} {sp : VSp} {f : Addr} {fd : FuncData} (hm : mg x = some (.ref f)) (F : FunD K x x (defArgs st) (defBody st) (defScope st) [] [] f fd)
    (S : FnScope N ps (defScope st)) (hbind : ∀ (kV doc pm : Value) (an : Option Addr) (cdv ct : Value) (us : List Value), us.length = ps.length → bindArgs (PySem.W.fnOf x x (defArgs st) (defBody st) (defScope st) .none kV doc pm an cdv ct) ⟨us, []⟩ = pure (ps.zip us)) (ts : TS) (d : DS)
    (hd : ∀ (ds : List PyData) (β : Bag) (Q : PyData → Bag → Prop), ds.length = ps.length → sp ds β Q → d { nx := fun s => Q .none s.β, rt := Q } (initS N.length ds β))
    (hb : ∀ (cd : Value) (A : Around) (outer : List Env) (s : Shared) (H : Hp), RoomG k (A.deeper (envOfC x (defScope st) s.heap.objs.size f cd)) → VB (bodyCx P w K mg base N x (defScope st) f cd A outer s H) (defBody st) ts d) :
    Def P w K mg base (k + 1) x st ps sp := by
  refine ⟨f, fd, hm, F, fnv_of F S (fun {vs H Q} ⟨_, _, _, _, h, _⟩ => h) fun cd A outer s H vs Q hr h => ?_, F.bindsN hbind⟩
  obtain ⟨g, ds, β, P', hl, z, b, ft, hs, aft⟩ := h
  have B := hb cd A outer s H hr
  refine ⟨ts, B.pss, B.adq g H g (initS N.length ds β) (start N vs) H { nx := fun s => P' .none s.β, rt := P' } _ (init_rel z N b ft) (hd ds β P' (by rw [← z.length]; exact hl) hs) ⟨fun g' s' σ' H' r _ p => aft .non .none s'.β H' g' r.grow .non r.bag r.ft p, fun g' s' σ' H' r _ p => p.elim, fun g' s' σ' H' r _ p => p.elim, fun g' H' v d β' e z b f p => aft v d β' H' g' e z b f p⟩⟩
end VS
namespace VS
open PySem PySem.Spec L2
open PyProof.Rows hiding St

/-! ### list(reversed(..)), the script's slice -/
def dLstRev (t : DE) : DE := fun s P => t s fun d s1 => match d with
  | .list ds => P (.list ds.reverse) s1
  | _ => False
section
variable {X : Cx} {e : Expr} {te : TE} {de : DE} {p p2 pos pos2 : Pos}
theorem v_listRev (hc : X.calm = true) (hg : Gl X "list") (hm : X.mg "list" = none) (hg2 : Gl X "reversed") (hm2 : X.mg "reversed" = none) (he : VE X e te de) (hs : starEach [e] X.env = (false, eval e X.env) :: starEach [] X.env := by rfl)
    (hs2 : starEach [.Call (.Name "reversed" p2) [e] [] pos2] X.env = (false, eval (.Call (.Name "reversed" p2) [e] [] pos2) X.env) :: starEach [] X.env := by rfl) :
    VO X (.Call (.Name "list" p) [.Call (.Name "reversed" p2) [e] [] pos2] [] pos) (VT.tLstRev X.K te) (dLstRev de) :=
  ⟨VT.pe_listRev hc hg hm hg2 hm2 he.pe hs hs2, fun g0 H0 g s σ H P Q r p k => he.adq g0 H0 g s σ H _ _ r p fun v H1 g1 s1 d st z p1 => by
    cases d <;> first | exact p1.elim | skip
    cases z with
    | lst f e' a => exact ⟨_, _, rfl, .inl (.inl e'), fun q hq => k q _ g1 s1 _ (st.laid hq) (st.new hq (.inl ⟨_, _, rfl, upd_same, (SeesAll.stay (Fresh.laid hq).stay a).rev⟩)) p1⟩⟩
end
theorem ints_inj : ∀ {ns ms : List Int}, (ns.map PyData.int) = ms.map PyData.int → ns = ms
  | [], [], _ => rfl
  | [], _ :: _, h => by simp at h
  | _ :: _, [], h => by simp at h
  | n :: ns, m :: ms, h => by
    rw [List.map_cons, List.map_cons, List.cons.injEq, PyData.int.injEq] at h
    rw [h.1, ints_inj h.2]
def dScrSl (t : DE) (u w : DO_) : DE := fun s P => t s fun d s1 => u s1 fun lo s2 => w s2 fun hi s3 => ∃ ns, d = scrD ns ∧ P (.list (cutD (ns.map .int) lo hi)) s3
theorem Sees.script {K : PySem.W.Frag} {g : Gh} {H : Hp} {v : V} {ns : List Int} (z : Sees K g H v (scrD ns)) : ∃ a, v = .ref a ∧ SqL K H a (ns.map V.int) := by
  generalize e : scrD ns = d at z
  cases z <;> first | (cases e; done) | skip
  rename_i a ms h
  rw [PyData.dict.injEq, List.cons.injEq, Prod.mk.injEq, PyData.list.injEq] at e
  have e := e.1.2
  have := ints_inj e
  subst this
  exact ⟨_, rfl, h H fun _ _ _ e => e⟩
section
variable {X : Cx} {e : Expr} {te : TE} {de : DE} {pos p2 : Pos} {lo hi : Option Expr} {tl th : TO} {u w : DO_}
theorem v_scr (he : VE X e te de) (hl : VP X lo tl u) (hh : VP X hi th w) : VO X (.Subscript e (.Slice lo hi none p2) pos) (tSl (rSlL X.K) te tl th) (dScrSl de u w) := ⟨pe_slice sl_list he.pe hl.po hh.po, fun g0 H0 g s σ H P Q r p k =>
  he.adq g0 H0 g s σ H _ _ r p fun v H1 g1 s1 d st1 z1 p1 => hl.adq g0 H0 g1 s1 σ H1 _ _ st1.rel p1 fun lo H2 g2 s2 st2 p2 => hh.adq g0 H0 g2 s2 σ H2 _ _ st2.rel p2 fun hi H3 g3 s3 st3 ⟨ns, ed, p3⟩ => by
    subst ed
    obtain ⟨a, rfl, S⟩ := ((z1.step st1.rel st2).step st2.rel st3).script
    have st := (st1.trans st2).trans st3
    exact ⟨a, _, rfl, S, fun q hq => k q _ g3 s3 _ (st.laid hq) (st.new hq (.inl ⟨_, _, rfl, upd_same, (seesAll_ints ns).cut lo hi⟩)) p3⟩⟩
end

/-! ### the bag -/
def dBagAt (i k : Nat) : DE := fun s P => s.ρ[i]? = some (.sh bagD) ∧ ((k = 1 ∧ P (.int s.β.dig) s) ∨ (k = 2 ∧ P (.int s.β.mix) s))
def dBagNe (i : Nat) : DT := fun s P => s.ρ[i]? = some (.sh bagD) ∧ P (!s.β.cells.isEmpty) s
def dBagPop (i : Nat) : DE := fun s P => s.ρ[i]? = some (.sh bagD) ∧ ∃ c, s.β.cells[s.β.cells.length - 1]? = some c ∧ P (.int c) ⟨s.ρ, ⟨s.β.cells.dropLast, s.β.dig, s.β.mix, s.β.on⟩⟩
def sBagPut (t : DE) (i k : Nat) : DS := fun D s => t s fun d s1 => s1.ρ[i]? = some (.sh bagD) ∧ ∃ n, d = .int n ∧ ((k = 1 ∧ D.nx ⟨s1.ρ, ⟨s1.β.cells, n, s1.β.mix, s1.β.on⟩⟩) ∨ (k = 2 ∧ D.nx ⟨s1.ρ, ⟨s1.β.cells, s1.β.dig, n, s1.β.on⟩⟩))
section
variable {K : PySem.W.Frag} {g0 g : Gh} {H0 H : Hp} {s : S} {σ : St} {i : Nat}
theorem Sees.bagAt {v : V} (z : Sees K g H v bagD) : ∃ b c, v = .ref b ∧ g.bag = some (b, c) := by
  generalize e : bagD = d at z
  cases z <;> first | (cases e; done) | skip
  exact ⟨_, _, rfl, by assumption⟩
theorem Rel.bagAt (r : Rel K g0 H0 g s σ H) (h : s.ρ[i]? = some (.sh bagD)) : ∃ b c, σ[i]? = some (some (.ref b)) ∧ g.bag = some (b, c) ∧ H b = some (.lst [.ref c, .int s.β.dig, .int s.β.mix]) ∧ H c = some (.lst (s.β.cells.map V.int)) ∧ b ≠ c ∧ ¬ g.F b ∧ ¬ g.F c := by
  obtain ⟨v, ev, z⟩ := r.slot i _ h
  obtain ⟨b, c, rfl, eb⟩ := z.bagAt
  exact ⟨b, c, ev, eb, r.bag.2 b c eb⟩
/-- the bag's objects change -/
theorem Step.bagPut {a : Addr} {o : HO} {β' : Bag} (r : Rel K g0 H0 g s σ H) (ha : BagC g a) (b : BagOk g β' (upd H a o)) : Step K g0 H0 g s σ H g ⟨s.ρ, β'⟩ (upd H a o) := by
  have nn : H a ≠ none := mutSome (r.bag.mut ha)
  refine Step.ret r (Ext.at ha nn) b fun x f => ?_
  rw [upd_ne (by rintro rfl; exact r.bag.nf ha f)]
  exact r.ft x f
theorem ix0 {a b c : V} : atI [a, b, c] 0 = some a := rfl
theorem ix1 {a b c : V} : atI [a, b, c] 1 = some b := rfl
theorem ix2 {a b c : V} : atI [a, b, c] 2 = some c := rfl
theorem adq_bagAt (k : Nat) : AdqE K (tOp (rIx K) (tVar i) (tC (.int (k : Int)))) (dBagAt i k) := by
  rintro g0 H0 g s σ H P Q r ⟨h, p⟩ kk
  obtain ⟨b, c, ev, eb, hb, _⟩ := r.bagAt h
  rcases p with ⟨rfl, p⟩ | ⟨rfl, p⟩
  · exact ⟨_, ev, .inl ⟨b, _, 1, _, rfl, rfl, .inl (.inl hb), ix1, kk _ H g s _ (.refl r) (.int _) p⟩⟩
  · exact ⟨_, ev, .inl ⟨b, _, 2, _, rfl, rfl, .inl (.inl hb), ix2, kk _ H g s _ (.refl r) (.int _) p⟩⟩
theorem ints_lay : ∀ ns : List Int, PyData.canLayAll0 (ns.map .int) = true
  | [] => rfl
  | n :: ns => by
    have := ints_lay ns
    simp [PyData.canLayAll0, this, PyData.canLay0]
theorem ints_depth : ∀ ns : List Int, PyData.depthAll (ns.map .int) = 0
  | [] => rfl
  | n :: ns => by
    have := ints_depth ns
    simp [PyData.depthAll, this, PyData.depth]
theorem shaped_ints (ns : List Int) : SeqAt.shaped (.list (ns.map .int)) = true := by
  unfold SeqAt.shaped
  rw [Bool.and_eq_true]
  refine ⟨ints_lay ns, decide_eq_true ?_⟩
  simp [PyData.depth, ints_depth]
theorem eqv_empty (ns : List Int) : (!PyData.eqv (.list (ns.map .int)) (.list [])) = !ns.isEmpty := by
  cases ns <;> simp [PyData.eqv, PyData.eqvAll]
theorem dp_ints {a : Addr} (ns : List Int) (h : H a = some (.lst (ns.map V.int))) : Dp K H (.ref a) (.list (ns.map .int)) :=
  .lst (.of h) ((seesAll_ints (g := ⟨fun _ => False, none⟩) ns).dp (ints_lay ns))
theorem adq_bagNe : AdqT K (tTest (tOp (rNeD K) (tOp (rIx K) (tVar i) (tC (.int 0))) (tLst tNil))) (dBagNe i) := by
  rintro g0 H0 g s σ H P Q r ⟨h, p⟩ kk
  obtain ⟨b, c, ev, eb, hb, hc, _⟩ := r.bagAt h
  refine ⟨_, ev, .inl ⟨b, _, 0, _, rfl, rfl, .inl (.inl hb), ix0, Nat.zero_le _, fun q hq => ?_⟩⟩
  have nc : upd H q (.lst []) c = some (.lst (s.β.cells.map V.int)) := by rw [upd_ne (by rintro rfl; rw [hq] at hc; cases hc)]; exact hc
  refine ⟨.list (s.β.cells.map .int), .list [], dp_ints _ nc, .lst (.of upd_same) .nil, shaped_ints _, shaped_ints [], _, rfl, ?_⟩
  rw [eqv_empty]
  exact kk _ _ g s ((Fresh.laid hq).step r) p
theorem adq_bagPop : AdqE K (tBM0 K "list" rPop (tOp (rIx K) (tVar i) (tC (.int 0)))) (dBagPop i) := by
  rintro g0 H0 g s σ H P Q r ⟨h, v, hv, p⟩ kk
  obtain ⟨b, c, ev, eb, hb, hc, ne, n1, n2⟩ := r.bagAt h
  refine ⟨_, ev, .inl ⟨b, _, 0, _, rfl, rfl, .inl (.inl hb), ix0, .inl ⟨rfl, _, .inl (.inl hc)⟩, c, _, .int v, rfl, rfl, hc, ?_, ?_⟩⟩
  · rw [List.length_map, List.getElem?_map, hv]
    rfl
  · refine kk _ _ g _ _ (Step.bagPut (β' := ⟨s.β.cells.dropLast, s.β.dig, s.β.mix, s.β.on⟩) r ⟨b, c, eb, .inr rfl⟩ ⟨r.bag.1, fun b' c' e => ?_⟩) (.int v) p
    rw [eb] at e
    cases e
    exact ⟨by rw [upd_ne ne]; exact hb, by rw [upd_same, List.map_dropLast], ne, n1, n2⟩
end
section
variable {X : Cx} {a b e : Expr} {i k : Nat} {te : TE} {de : DE} {j j2 : Nat} {pos pos2 p3 spos apos cpos : Pos}
theorem pe_bagIx (k : Nat) (ha : PE X a (tVar i)) (hs : PlainIx (.Constant (.int (k : Int)) j p3)) : PE X (.Subscript a (.Constant (.int (k : Int)) j p3) pos) (tOp (rIx X.K) (tVar i) (tC (.int (k : Int)))) := pe_ix ix_seq ha pe_int hs
theorem v_bagAt (k : Nat) (ha : PE X a (tVar i)) (hs : PlainIx (.Constant (.int (k : Int)) j p3)) : VE X (.Subscript a (.Constant (.int (k : Int)) j p3) pos) (tOp (rIx X.K) (tVar i) (tC (.int (k : Int)))) (dBagAt i k) := ⟨pe_bagIx k ha hs, adq_bagAt k⟩
theorem vt_bagNe (ho : OpR X (compareOp .NotEq) (rNeD X.K)) (ha : PE X a (tVar i)) (hs : PlainIx (.Constant (.int 0) j p3)) (hm : behindInMarks .NotEq (.List [] pos2) = false) :
    VT X (.Compare (.Subscript a (.Constant (.int 0) j p3) spos) [.NotEq] [.List [] pos2] pos) (tTest (tOp (rNeD X.K) (tOp (rIx X.K) (tVar i) (tC (.int 0))) (tLst tNil))) (dBagNe i) := ⟨pt_cmpR ho (pe_ix ix_seq ha pe_int hs) (pe_lst pa_nil) hm, adq_bagNe⟩
theorem v_bagPop (ha : PE X a (tVar i)) (hs : PlainIx (.Constant (.int 0) j p3)) (hbase : attributeBase (.Subscript a (.Constant (.int 0) j p3) spos) "pop" X.env (eval (.Subscript a (.Constant (.int 0) j p3) spos) X.env) = eval (.Subscript a (.Constant (.int 0) j p3) spos) X.env := by rfl) (hline : (apos.endLine == cpos.line) = true := by rfl) :
    VE X (.Call (.Attribute (.Subscript a (.Constant (.int 0) j p3) spos) "pop" apos) [] [] cpos) (tBM0 X.K "list" rPop (tOp (rIx X.K) (tVar i) (tC (.int 0)))) (dBagPop i) :=
  ⟨pe_bm0 PySem.F.plainAttrs_list PySem.F.slot_list_pop PySem.F.type_list_pop pop_m (pe_ix ix_seq ha pe_int hs) hbase hline, adq_bagPop⟩
theorem vs_bagPut (k : Nat) (he : VE X e te de) (ho : PE X a (tVar i))
    (ha : ∀ v, assign (.Subscript a (.Constant (.int (k : Int)) j p3) spos) X.env v = (do
      let ov ← holding [v] (eval a X.env)
      let iv ← holding [v, ov] (eval (.Constant (.int (k : Int)) j p3) X.env)
      standAt spos
      holding [v, ov, iv] (setItem ov iv v)
      release [v, ov, iv] []) := by intro _; rfl)
    (hs : swapsWithSole [.Subscript a (.Constant (.int (k : Int)) j p3) spos] e pos.line X.env = pure false := by rfl) (hw : swappedStores [.Subscript a (.Constant (.int (k : Int)) j p3) spos] e X.env = pure none := by rfl)
    (h1 : (assignEach [.Subscript a (.Constant (.int (k : Int)) j p3) spos] X.env).map (·.2) = [assign (.Subscript a (.Constant (.int (k : Int)) j p3) spos) X.env] := by rfl) :
    VS X (.Assign [.Subscript a (.Constant (.int (k : Int)) j p3) spos] e pos) (tAsg te (gSub (tVar i) (tC (.int (k : Int))) rSetL)) (sBagPut de i k) := ⟨ps_asg he.pe (pg_sub ho pe_int set_list ha) hs hw h1, fun g0 H0 g s σ H D D' r p kk =>
  he.adq g0 H0 g s σ H _ _ r p fun v H1 g1 s1 d st1 z ⟨h, n, ed, p1⟩ => by
    subst ed
    cases z
    obtain ⟨b, c, ev, eb, hb, hc, ne, n1, n2⟩ := st1.rel.bagAt h
    have fin : ∀ (m : Nat) (dg mx : Int), ixN 3 (k : Int) = some m → ([V.ref c, .int s1.β.dig, .int s1.β.mix].set m (.int n)) = [.ref c, .int dg, .int mx] → D.nx ⟨s1.ρ, ⟨s1.β.cells, dg, mx, s1.β.on⟩⟩ →
        tVar i σ H1 fun o H2 => tC (.int (k : Int)) σ H2 fun y H3 => rSetL o y (.int n) H3 fun H4 => D'.nx σ H4 := by
      intro m dg mx hm hset hd
      refine ⟨_, ev, b, _, _, m, rfl, rfl, hb, hm, ?_⟩
      rw [hset]
      have st2 : Step X.K g0 H0 g1 s1 σ H1 g1 ⟨s1.ρ, ⟨s1.β.cells, dg, mx, s1.β.on⟩⟩ (upd H1 b (.lst [.ref c, .int dg, .int mx])) := Step.bagPut st1.rel ⟨b, c, eb, .inl rfl⟩ ⟨st1.rel.bag.1, fun b' c' e => by
        rw [eb] at e
        cases e
        exact ⟨upd_same, by rw [upd_ne (Ne.symm ne)]; exact hc, ne, n1, n2⟩⟩
      exact kk.nx g1 _ σ _ st2.rel ((st1.trans st2).stay r) hd
    rcases p1 with ⟨rfl, p1⟩ | ⟨rfl, p1⟩
    · exact fin 1 n s1.β.mix rfl rfl p1
    · exact fin 2 s1.β.dig n rfl rfl p1⟩
end
/-- return [cells, digits, mixed]: the bag is made -/
def sBagRet (t u w : DE) : DS := fun D s => t s fun d s1 => u s1 fun e s2 => w s2 fun f s3 => ∃ ns i j, d = .list (ns.map .int) ∧ e = .int i ∧ f = .int j ∧ s3.β.on = false ∧ D.rt bagD ⟨ns, i, j, true⟩
section
variable {X : Cx} {a b c : Expr} {ta tb tc : TE} {da db dc : DE} {pos lpos : Pos}
theorem vs_retBag (ha : VO X a ta da) (hb : VE X b tb db) (hc : VE X c tc dc) (h1 : starEach [a, b, c] X.env = (false, eval a X.env) :: starEach [b, c] X.env := by rfl) (h2 : starEach [b, c] X.env = (false, eval b X.env) :: starEach [c] X.env := by rfl) (h3 : starEach [c] X.env = (false, eval c X.env) :: starEach [] X.env := by rfl) :
    VS X (.Return (some (.List [a, b, c] lpos)) pos) (tRet (tLst (tCons ta (tCons tb (tCons tc tNil))))) (sBagRet da db dc) := ⟨ps_ret (pe_lst (pa_cons ha.pe (pa_cons hb.pe (pa_cons hc.pe pa_nil h3) h2) h1)), fun g0 H0 g s σ H D D' r p k =>
  ha.adq g0 H0 g s σ H _ _ r p fun x H1 g1 s1 d st1 n1 p1 => hb.adq g0 H0 g1 s1 σ H1 _ _ st1.rel p1 fun y H2 g2 s2 e st2 z2 p2 => hc.adq g0 H0 g2 s2 σ H2 _ _ st2.rel p2 fun w H3 g3 s3 f st3 z3 ⟨ns, i, j, e1, e2, e3, off, p3⟩ => by
    subst e1 e2 e3
    obtain ⟨o, nf, nb, nn, no, n0⟩ := (n1.step st1.rel st2).step st2.rel st3
    cases z3
    cases z2.step st2.rel st3
    refine ⟨by show 3 ≤ sizeLine; decide, fun q hq => ?_⟩
    obtain ⟨xs, ex, zx⟩ := o.lst
    have ei := zx.ints
    subst ei
    have none3 := st3.rel.bag.1 off
    have ne : q ≠ x := by
      rintro rfl
      rw [ex] at hq
      cases hq
    have gr := st3.rel.grow
    have b0 : g0.bag = none := by
      cases q0 : g0.bag with
      | none => rfl
      | some p0 =>
        have := gr.bag p0 q0
        rw [none3] at this
        cases this
    refine k.rt ⟨g3.F, some (q, x)⟩ _ _ bagD ⟨ns, i, j, true⟩ ⟨fun a' u h n => ?_, fun a' h => ?_, gr.mono, gr.new, fun a' f n => ?_, fun p0 h => ?_, fun x' y' h n => ?_⟩ (.bag rfl) ⟨(fun h => nomatch h), fun b' c' h => ?_⟩ (fun a' f => ?_) p3
    · have := gr.keep a' u h n
      rw [upd_ne (by rintro rfl; rw [hq] at this; cases this)]
      exact this
    · have := gr.there a' h
      by_cases q' : a' = q
      · rw [q', upd_same]; exact fun z => by cases z
      · rw [upd_ne q']; exact this
    · have := gr.newt a' f n
      by_cases q' : a' = q
      · rw [q', upd_same]; exact fun z => by cases z
      · rw [upd_ne q']; exact this
    · rw [b0] at h; cases h
    · have h : some (q, x) = some (x', y') := h
      cases h
      exact ⟨Classical.byContradiction fun z => gr.there _ z hq, n0⟩
    · have h : some (q, x) = some (b', c') := h
      cases h
      exact ⟨upd_same, by rw [upd_ne (Ne.symm ne)]; exact ex, ne, fun f => st3.rel.ft _ f hq, nf⟩
    · by_cases q' : a' = q
      · rw [q', upd_same]; exact fun z => by cases z
      · rw [upd_ne q']; exact st3.rel.ft a' f⟩
end

/-! ### d.update(pairs), d a dict of ints and texts -/
def mUpdK : DM := fun d es P => ∃ (m ps : List (Key × PyData)), d = dictK (toK m) ∧ es = [.list (pairK ps)] ∧ m.length + ps.length ≤ sizeLine ∧ P .none (dictK (toK (mergeD m ps)))
section
variable {K : PySem.W.Frag} {g : Gh} {H : Hp}
theorem OwnAt.dK {a : Addr} {m : List (Key × PyData)} (h : OwnAt K g H a (dictK (toK m))) : ∃ ks, H a = some (.dK ks) ∧ Two K g H ks m := by
  rcases h with ⟨xs, es, h0, e, z⟩ | ⟨ks, kvs, h0, e, z⟩ | ⟨ks, kvs, h0, e, z⟩
  · cases h0
  · rw [PyData.dict.injEq, List.cons.injEq] at h0
    cases h0.1
  · rw [PyData.dict.injEq, List.cons.injEq] at h0
    obtain ⟨_, h0⟩ := h0
    subst h0
    exact ⟨ks, e, z.two⟩
theorem Two.mergeK : ∀ {ps : List (Key × V)} {ms : List (Key × PyData)} {a : List (Key × V)} {m : List (Key × PyData)}, Two K g H a m → Two K g H ps ms → Two K g H (L2.mergeK a ps) (mergeD m ms)
  | [], [], _, _, h, _ => h
  | [], _ :: _, _, _, _, t => nomatch t
  | _ :: _, [], _, _, _, t => nomatch t
  | (k, v) :: ps, (k', d) :: ms, a, m, h, t => by
    cases t with
    | cons z t =>
      show Two K g H (L2.mergeK (putK a k v) ps) (mergeD (putD m k d) ms)
      exact Two.mergeK (Two.put (k := k) h z) t
theorem pairs_seenK : ∀ {xs : List V} {m : List (Key × PyData)}, SeesAll K g H xs (pairK m) → ∃ ps : List (Addr × Key × V), xs = ps.map (fun p => .ref p.1) ∧ (∀ p ∈ ps, H p.1 = some (.tup [kV p.2.1, p.2.2])) ∧ Two K g H (ps.map (·.2)) m
  | _, [], h => by
    cases h
    exact ⟨[], rfl, (fun p hp => nomatch hp), .nil⟩
  | x :: xs, (k, d) :: m, h => by
    cases h with
    | cons z r =>
      obtain ⟨ps, rfl, h1, h2⟩ := pairs_seenK (m := m) r
      cases z with
      | @tup T ys _ e zz =>
        cases zz with
        | cons z1 zz =>
          cases zz with
          | cons z2 zz =>
            cases zz
            have e1 := z1.key
            subst e1
            refine ⟨(T, k, _) :: ps, rfl, fun p hp => ?_, .cons z2 h2⟩
            rcases List.mem_cons.mp hp with rfl | hp
            · exact e
            · exact h1 p hp
theorem methv_updK : MethV K "dict" VT.rUpdK mUpdK := by
  rintro g H a d xs ds P Q ft o nf z ⟨m, ps, rfl, rfl, hl, p⟩ k
  obtain ⟨b, ys, rfl, eb, zb⟩ := one_list z
  obtain ⟨ks, e, t⟩ := o.dK
  obtain ⟨qs, rfl, h1, h2⟩ := pairs_seenK zb
  have mu : Mut (H a) := by rw [e]; trivial
  have l2 := h2.len
  rw [List.length_map] at l2
  refine ⟨a, b, ks, qs, rfl, rfl, e, eb, h1, by rw [t.len, l2]; exact hl, k _ _ _ _ (.inr (.inr ⟨_, _, rfl, upd_same, ?_⟩)) .non p⟩
  exact ((Two.mergeK t h2).stay (Stay.upd mu nf)).seesK
end

/-! ### a, b = a tuple or a list -/
def gSeq (K : PySem.W.Frag) (n : Nat) (t : TGs) : TG := fun v σ H Q => gTup K n t v σ H Q ∨ gLst K n t v σ H Q
def bSeq (n : Nat) (c : DGs) : DG := fun d s P => match d with
  | .tuple ds => ds.length = n ∧ c ds s P
  | .list ds => ds.length = n ∧ c ds s P
  | _ => False
theorem adq_gseq {K : PySem.W.Frag} {L : List Nat} {tgs : TGs} {c : DGs} {n : Nat} (h : AdqGs K L tgs c) : AdqG K L (gSeq K n tgs) (bSeq n c) := fun g0 H0 g s σ H v d P Q r z p k => by
  cases d <;> first | exact p.elim | skip
  · cases z with
    | lst f e a => exact .inr ⟨_, _, rfl, .inl (.inl e), by rw [a.length]; exact p.1, h g0 H0 g s σ H _ _ _ _ r a p.2 k⟩
  · cases z with
    | tup e a => exact .inl ⟨_, _, rfl, .of e, by rw [a.length]; exact p.1, h g0 H0 g s σ H _ _ _ _ r a p.2 k⟩
theorem PG.or {X : Cx} {e : Expr} {t t' : TG} (h : PG X e t) (h' : PG X e t') : PG X e (fun v σ H Q => t v σ H Q ∨ t' v σ H Q) := ⟨fun pins s σ H v u Q I r q => q.elim (h.run pins s σ H v u Q I r) (h'.run pins s σ H v u Q I r)⟩
theorem vg_seq {X : Cx} {L : List Nat} {tgs : TGs} {c : DGs} {pos : Pos} {es : List Expr} {k n : Nat} (hc : X.calm = true) (h : VGs X es L tgs c) (hn : (assignEach es X.env).length = n := by rfl) (hst : (assignEach es X.env).findIdx? (·.1) = none := by rfl) : VG X (.Tuple es k pos) L (gSeq X.K n tgs) (bSeq n c) :=
  ⟨PG.or (pg_tup hc h.pgs hn hst) (pg_lst hc h.pgs hn hst), adq_gseq h.adq⟩
end VS
namespace VS
open PySem PySem.Spec L2
open PyProof.Rows hiding St

/-! ### -x -/
section
variable {X : Cx} {a : Expr} {ta : TE} {da : DE} {pos : Pos}
def dNeg (t : DE) : DE := fun s P => t s fun d s1 => match d with
  | .int i => P (.int (-i)) s1
  | _ => False
theorem v_neg (h : VE X a ta da) : VE X (.UnaryOp .USub a pos) (tUn (rU fun i => .int (-i)) ta) (dNeg da) := ⟨pe_un un_neg h.pe, fun g0 H0 g s σ H P Q q p k =>
  h.adq g0 H0 g s σ H _ _ q p fun x H1 g1 s1 d st1 z p1 => by
    cases d <;> first | exact p1.elim | skip
    cases z
    exact ⟨_, rfl, k _ H1 g1 s1 _ st1 (.int _) p1⟩⟩
end

/-! ### zip of two tuples -/
section
variable {K : PySem.W.Frag} {ta : TA} {da : DA}
theorem walk_zipT {a b : Addr} {xs ys : List V} {n : Nat} (hn : n = min xs.length ys.length) : Walk (RZ.ItzT K a b) n (fun H => SqT K H a xs ∧ SqT K H b ys) (YPair (fun i => xs[i]?) (fun i => ys[i]?)) := by
  subst hn
  refine ⟨fun i H hi ⟨qa, qb⟩ => ?_, fun H ⟨qa, qb⟩ => ⟨xs, ys, qa, qb, by omega⟩, fun i H x H' hi ⟨qa, qb⟩ ⟨T, u, v, e1, e2, e3, h1, h2⟩ => ⟨T, u, v, e1, e2, e3, h1 xs qa, h2 ys qb⟩⟩
  have l1 : i < xs.length := by omega
  have l2 : i < ys.length := by omega
  exact ⟨xs, ys, xs[i], ys[i], qa, qb, List.getElem?_eq_getElem l1, List.getElem?_eq_getElem l2⟩
theorem walkD_zipT (a b : Addr) (ds es : List PyData) : WalkD K (RZ.ItzT K a b) (fun g H => (∃ xs, H a = some (.tup xs) ∧ SeesAll K g H xs ds) ∧ ∃ ys, H b = some (.tup ys) ∧ SeesAll K g H ys es) (zipD ds es) where
  go := fun i g H hi ⟨⟨xs, e, z⟩, ys, e', z'⟩ => (walk_zipT rfl).goes i H (by rw [z.length, z'.length]; simpa [zipD] using hi) ⟨.of e, .of e'⟩
  yl := fun i g H x H' hi ⟨⟨xs, e, z⟩, ys, e', z'⟩ y => by
    obtain ⟨T, a1, a2, h1, h2, h3, h4, h5⟩ := (walk_zipT rfl).yields i H x H' (by rw [z.length, z'.length]; simpa [zipD] using hi) ⟨.of e, .of e'⟩ y
    obtain ⟨d, q1, q2⟩ := z.at' h4
    obtain ⟨f', r1, r2⟩ := z'.at' h5
    subst h1 h3
    have f : Fresh g H g (upd H T (.tup [a1, a2])) := .laid h2
    refine ⟨g, .tuple [d, f'], f, ?_, .tup upd_same (.cons (q2.stay f.stay) (.cons (r2.stay f.stay) .nil))⟩
    simp [zipD, List.getElem?_zipWith, q1, r1]
  st := fun g H ⟨⟨xs, e, z⟩, ys, e', z'⟩ => by
    rw [show (zipD ds es).length = min xs.length ys.length by simp [zipD, z.length, z'.length]]
    exact (walk_zipT rfl).stops H ⟨.of e, .of e'⟩
def dZipT (t : DA) : DI := fun s P => t s fun ds s1 => match ds with
    | [.tuple xs, .tuple ys] => P (zipD xs ys) s1
    | _ => False
theorem adq_zipT (h : AdqA K ta da) : AdqI K (RZ.iZipA K ta) (dZipT da) := fun g0 H0 g s σ H P R r p k =>
  h g0 H0 g s σ H _ _ r p fun vs H1 g1 s1 ds st z p1 => by
    cases z with
    | nil => exact p1.elim
    | cons z1 z2 =>
      cases z1 <;> first | (cases z2 <;> exact p1.elim) | skip
      cases z2 with
      | nil => exact p1.elim
      | cons z3 z4 =>
        cases z3 <;> first | (cases z4 <;> exact p1.elim) | skip
        cases z4 with
        | cons _ _ => exact p1.elim
        | nil =>
          rename_i e1 a1 _ _ _ e2 a2
          exact ⟨_, _, _, _, rfl, .inr ⟨.of e1, .of e2, k _ H1 g1 s1 _ (fun g H => (∃ xs, H _ = some (.tup xs) ∧ SeesAll K g H xs _) ∧ ∃ xs, H _ = some (.tup xs) ∧ SeesAll K g H xs _) st (walkD_zipT _ _ _ _) ⟨⟨_, e1, a1⟩, _, e2, a2⟩
            (fun ga Ha gb Hb s h => ⟨let ⟨xs, e, z⟩ := h.1; ⟨xs, s.t _ _ e, SeesAll.stay s z⟩, let ⟨xs, e, z⟩ := h.2; ⟨xs, s.t _ _ e, SeesAll.stay s z⟩⟩) p1⟩⟩
end
section
variable {X : Cx} {a b : Expr} {ta : TA} {da : DA} {p pos tpos : Pos} {elts : List Expr} {kk : Nat}
theorem vi_zipT (hg : Gl X "zip") (hm : X.mg "zip" = none) (ha : VA X [a, b] ta da) (hs : starEach [a, b] X.env = (false, eval a X.env) :: starEach [b] X.env := by rfl) (hpl : (backTo pos (starEach [b] X.env)).any (·.1) = false := by rfl) :
    VI X (.Tuple elts kk tpos) (.Call (.Name "zip" p) [a, b] [] pos) (RZ.iZipA X.K ta) (dZipT da) := ⟨RZ.pi_zipA hg hm ha.pa hs hpl, adq_zipT ha.adq⟩
end

/-! ### str(i), x.upper() -/
section
variable {K : PySem.W.Frag}
def rStrI : List V → Hp → VK → Prop := fun xs H Q => ∃ i, xs = [.int i] ∧ i.natAbs.log2 < 1920 ∧ Q (.str (toString i)) H
def dStrI : D1 := fun ds P => ∃ i : Int, ds = [.int i] ∧ i.natAbs.log2 < 1920 ∧ P (.str (toString i))
theorem call_strI {X : Cx} : CallR X (.type "str") rStrI := call_str_int
theorem callv_strI : CallV K rStrI dStrI := by
  rintro g H xs ds P Q ft z ⟨i, rfl, h1, p⟩ k
  cases z with
  | cons a r =>
    cases r
    cases a
    exact ⟨i, rfl, h1, k _ _ g _ .refl (.str _) p⟩
def rUpper : V → List V → Hp → VK → Prop := fun x xs H Q => ∃ a, x = .str a ∧ xs = [] ∧ a.length ≤ 5592405 ∧ Q (.str (Txt.upper a)) H
theorem mt_upper {X : Cx} : MtR X "str.upper" rUpper :=
  mt0 (C := fun a => a.length ≤ 5592405) (g := fun a => .str (Txt.upper a)) fun a _ s _ hc h =>
    PySem.SC.upper (PyProof.Rows.short24 (by have h1 : a.length ≤ 5592405 := hc; have := PyProof.Rows.len_upper a; omega)) (h _ (s.toks + 1) ⟨_, rfl⟩)
def dUpper (t : DE) : DE := fun s P => t s fun d s1 => match d with
  | .str a => a.length ≤ 5592405 ∧ P (.str (Txt.upper a)) s1
  | _ => False
theorem v_upper {X : Cx} {o : Expr} {to : TE} {do_ : DE} {apos pos : Pos} (h : VE X o to do_) (hbase : attributeBase o "upper" X.env (eval o X.env) = eval o X.env := by rfl) (hline : (apos.endLine == pos.line) = true := by rfl) :
    VE X (.Call (.Attribute o "upper" apos) [] [] pos) (tM0 rUpper to) (dUpper do_) := ⟨pe_m0 PySem.F.slot_str_upper PySem.F.type_str_upper mt_upper h.pe hbase hline, fun g0 H0 g s σ H P Q r p k =>
  h.adq g0 H0 g s σ H _ _ r p fun x H1 g1 s1 d st1 z p1 => by
    cases d <;> first | exact p1.elim | skip
    cases z
    exact ⟨⟨_, rfl⟩, _, rfl, rfl, p1.1, k _ H1 g1 s1 _ st1 (.str _) p1.2⟩⟩
end

/-! ### isinstance, dicts among the values -/
def typed : PyData → Prop
  | .dict ((.bool _, .none) :: _) => True
  | .dict _ => False
  | _ => True
theorem Sees.tyX {K : PySem.W.Frag} {g : Gh} {H : Hp} {v : V} {d : PyData} (h : Sees K g H v d) (hd : typed d) : TyX K H v (.type (tyD d)) := by
  cases h with
  | non => exact .base .non
  | bl b => exact .base (.bl b)
  | int i => exact .base (.int i)
  | str x => exact .base (.str x)
  | lst f e z => exact .base (.lst e)
  | tup e z => exact .base (.tup e)
  | dicT f e z => exact .base (.dT e)
  | dicK f e z => exact .base (.dK e)
  | bag e => exact hd.elim
  | scr e => exact hd.elim
def dIsX (T : String) (t : DE) : DE := fun s P => t s fun d s1 => ∃ b, kitB (tyD d) T = some b ∧ typed d ∧ P (.bool b) s1
section
variable {X : Cx} {a c : Expr} {ta : TE} {da : DE} {p pos : Pos} {T : String}
theorem v_isX (hg : Gl X "isinstance") (hm : X.mg "isinstance" = none) (hb : bootBuiltins "isinstance" = some (.builtin "isinstance")) (ha : VE X a ta da) (hc : PE X c (tC (.ty T)))
    (h1 : starEach [a, c] X.env = (false, eval a X.env) :: starEach [c] X.env := by rfl) (h2 : starEach [c] X.env = (false, eval c X.env) :: starEach [] X.env := by rfl) (hpl : (backTo pos (starEach [c] X.env)).any (·.1) = false := by rfl) :
    VE X (.Call (.Name "isinstance" p) [a, c] [] pos) (tCB (rIsi X.K) (tCons ta (tCons (tC (.ty T)) tNil))) (dIsX T da) :=
  ⟨pe_callB call_isi hg hm hb (pa_cons ha.pe (pa_cons hc pa_nil h2) h1) (by decide) (by decide) h1 hpl, fun g0 H0 g s σ H P Q r p k => ha.adq g0 H0 g s σ H _ _ r p fun v H1 g1 s1 d st z ⟨b, e, hd, p1⟩ =>
    ⟨v, .ty T, .type (tyD d), .type T, b, rfl, .ty T, z.tyX hd, kit_ty e, k _ H1 g1 s1 _ st (.bl b) p1⟩⟩
end

/-! ### a text in texts -/
def dInS (neg : Bool) : D2 := fun d e P => ∃ (x : Str) (ns : List Str), d = .str x ∧ e = .tuple (ns.map .str) ∧ P (.bool (if neg then !(decide (x ∈ ns)) else decide (x ∈ ns)))
theorem SeesAll.strs {K : PySem.W.Frag} {g : Gh} {H : Hp} : ∀ {xs : List V} {ns : List Str}, SeesAll K g H xs (ns.map .str) → xs = ns.map V.str
  | _, [], h => by cases h; rfl
  | _, n :: ns, h => by
    cases h with
    | cons a r =>
      cases a
      rw [SeesAll.strs r]
      rfl
theorem inV_strs (i : Str) (ns : List Str) : inV (.str i) (ns.map V.str) = decide (i ∈ ns) := by
  unfold inV
  induction ns with
  | nil => simp
  | cons n ns ih =>
    rw [List.map_cons, List.any_cons, ih]
    by_cases q : n = i
    · subst q; simp [eqV]
    · simp [eqV, q, Ne.symm q]
theorem flatsS (ns : List Str) : (ns.map V.str).all flatV = true := by simp [flatV]
theorem opv_inS {K : PySem.W.Frag} : OpV K (rInA K) (dInS false) := by
  rintro g H x y d e P Q ft hx hy ⟨i, ns, rfl, rfl, p⟩ k
  cases hx
  have p : P (.bool (decide (i ∈ ns))) := p
  rw [← inV_strs] at p
  cases hy with
  | tup q z =>
    rw [z.strs] at q
    exact .inl ⟨_, _, rfl, .inr (.of q), rfl, flatsS ns, k _ _ g _ .refl (.bl _) p⟩
theorem opv_notInS {K : PySem.W.Frag} : OpV K (rNotInA K) (dInS true) := by
  rintro g H x y d e P Q ft hx hy ⟨i, ns, rfl, rfl, p⟩ k
  cases hx
  have p : P (.bool (!decide (i ∈ ns))) := p
  rw [← inV_strs] at p
  cases hy with
  | tup q z =>
    rw [z.strs] at q
    exact .inl ⟨_, _, rfl, .inr (.of q), rfl, flatsS ns, k _ _ g _ .refl (.bl _) p⟩
end VS
namespace VS
open PySem PySem.Spec L2
open PyProof.Rows hiding St

/-! ### repr, dicts among the data -/
mutual
/-- a datum, the marks of its dicts left out -/
def strip : PyData → PyData
  | .none => .none
  | .bool b => .bool b
  | .int i => .int i
  | .str x => .str x
  | .list xs => .list (stripAll xs)
  | .tuple xs => .tuple (stripAll xs)
  | .dict [] => .dict []
  | .dict (_ :: kvs) => .dict (stripKv kvs)
def stripAll : List PyData → List PyData
  | [] => []
  | x :: xs => strip x :: stripAll xs
def stripKv : List (PyData × PyData) → List (PyData × PyData)
  | [] => []
  | (k, v) :: r => (k, strip v) :: stripKv r
end
def markK : PyData × PyData → Bool
  | (.bool b, .none) => !b
  | _ => false
def markT : PyData × PyData → Bool
  | (.bool b, .none) => b
  | _ => false
mutual
/-- no bag in it, no script, no dict of tuples but {} -/
def plainD : PyData → Bool
  | .none => true
  | .bool _ => true
  | .int _ => true
  | .str _ => true
  | .list xs => plainAll xs
  | .tuple xs => plainAll xs
  | .dict [] => false
  | .dict (p :: kvs) => (markK p || (markT p && kvs.isEmpty)) && plainKv kvs
def plainAll : List PyData → Bool
  | [] => true
  | x :: xs => plainD x && plainAll xs
def plainKv : List (PyData × PyData) → Bool
  | [] => true
  | (_, v) :: r => plainD v && plainKv r
end
section
variable {X : Cx} {pins : List (Addr × Obj)} {σ : St} {H : Hp} {s : Shared} {g : Gh}
theorem notSys {a : Addr} {o : HO} (hz : H sysModules = none) (e : H a = some o) : sysModules ≠ a := fun q => by
  rw [← q, hz] at e
  cases e
mutual
theorem Sees.reads (I : Inv X pins σ H s) (hz : H sysModules = none) : ∀ (d : PyData) (v : V) (u : Value), Sees X.K g H v d → plainD d = true → RelV v u → ∃ as, Reads s.heap u (strip d) as ∧ sysModules ∉ as
  | .none, _, _, h, _, r => by
    cases h
    cases r
    exact ⟨_, Reads.none, fun q => nomatch q⟩
  | .bool b, _, _, h, _, r => by
    cases h
    cases r
    exact ⟨_, Reads.bool b, fun q => nomatch q⟩
  | .int i, _, _, h, _, r => by
    cases h
    obtain ⟨t, rfl⟩ := r
    exact ⟨_, Reads.int i t, fun q => nomatch q⟩
  | .str x, _, _, h, _, r => by
    cases h
    obtain ⟨t, rfl⟩ := r
    exact ⟨_, Reads.str x t, fun q => nomatch q⟩
  | .list ds, _, _, h, hp, r => by
    cases h with
    | lst f e a =>
      cases r
      obtain ⟨its, rv, ⟨o, n, ho, hc, _, hd⟩, _⟩ := I.list (.of e)
      obtain ⟨as, hr, hn⟩ := SeesAll.reads I hz ds _ its a hp rv
      refine ⟨_, Reads.list ho hc hd hr, fun q => ?_⟩
      rcases List.mem_cons.mp q with q | q
      · exact notSys hz e q
      · exact hn q
  | .tuple ds, _, _, h, hp, r => by
    cases h with
    | tup e a =>
      cases r
      obtain ⟨its, rv, ⟨o, ho, hc, n, hd⟩, _⟩ := I.tuple (.of e)
      obtain ⟨as, hr, hn⟩ := SeesAll.reads I hz ds _ its a hp rv
      exact ⟨_, Reads.tuple ho hc hd hr, hn⟩
  | .dict [], _, _, h, hp, r => by cases hp
  | .dict (p :: kvs), _, _, h, hp, r => by
    have hp : ((markK p || (markT p && kvs.isEmpty)) && plainKv kvs) = true := hp
    obtain ⟨hm, hk⟩ := Bool.and_eq_true_iff.mp hp
    cases h with
    | dicT f e z =>
      have hm : (false || (true && kvs.isEmpty)) = true := hm
      have : kvs = [] := by simpa using hm
      subst this
      cases z
      cases r
      obtain ⟨_, hs, xs, kv, o, es, ep, ho, hx, hd, hl, _⟩ := dt_of I.hok e
      cases kv
      have he : es.toList = [] := hl
      refine ⟨_, Reads.dict (kvs := []) (as := []) (bs := []) ho hx.1 hd ?_ ?_, fun q => ?_⟩
      · rw [he]; exact .nil
      · rw [he]; exact .nil
      · rw [List.append_nil] at q
        exact notSys hz e (List.mem_singleton.mp q)
    | dicK f e z =>
      cases r
      obtain ⟨_, hs, vs, kv, o, es, ep, ho, hx, hd, hko, hpr, _⟩ := dk_of I.hok e
      obtain ⟨as, bs, h1, h2, n1, n2⟩ := SeesK.reads I hz kvs _ vs es.toList z hk kv hpr
      refine ⟨_, Reads.dict ho hx.1 hd h1 h2, fun q => ?_⟩
      rcases List.mem_append.mp q with q | q
      · rcases List.mem_cons.mp q with q | q
        · exact notSys hz e q
        · exact n1 q
      · exact n2 q
    | bag e => cases hm
    | scr e => cases hm
theorem SeesAll.reads (I : Inv X pins σ H s) (hz : H sysModules = none) : ∀ (ds : List PyData) (vs : List V) (us : List Value), SeesAll X.K g H vs ds → plainAll ds = true → Vals vs us → ∃ as, ReadsAll s.heap us (stripAll ds) as ∧ sysModules ∉ as
  | [], _, _, h, _, r => by
    cases h
    cases r
    exact ⟨_, ReadsAll.nil, fun q => nomatch q⟩
  | d :: ds, _, _, h, hp, r => by
    have hp : (plainD d && plainAll ds) = true := hp
    obtain ⟨p1, p2⟩ := Bool.and_eq_true_iff.mp hp
    cases h with
    | cons h1 h2 =>
      cases r with
      | cons r1 r2 =>
        obtain ⟨as, q1, n1⟩ := Sees.reads I hz d _ _ h1 p1 r1
        obtain ⟨bs, q2, n2⟩ := SeesAll.reads I hz ds _ _ h2 p2 r2
        exact ⟨_, ReadsAll.cons q1 q2, fun q => (List.mem_append.mp q).elim n1 n2⟩
theorem SeesK.reads (I : Inv X pins σ H s) (hz : H sysModules = none) : ∀ (kvs : List (PyData × PyData)) (ks : List (Key × V)) (vs : List (Key × Value)) (es : List DictEntry), SeesK X.K g H ks kvs → plainKv kvs = true → KV ks vs → Pairs (mixKind X.prog X.w) es vs →
    ∃ as bs, ReadsAll s.heap (es.map (·.key)) ((stripKv kvs).map (·.1)) as ∧ ReadsAll s.heap (es.map (·.val)) ((stripKv kvs).map (·.2)) bs ∧ sysModules ∉ as ∧ sysModules ∉ bs
  | [], _, _, _, h, _, r, q => by
    cases h
    cases r
    cases q
    exact ⟨_, _, ReadsAll.nil, ReadsAll.nil, (fun q => nomatch q), fun q => nomatch q⟩
  | (k0, d) :: kvs, _, _, _, h, hp, r, q => by
    have hp : (plainD d && plainKv kvs) = true := hp
    obtain ⟨p1, p2⟩ := Bool.and_eq_true_iff.mp hp
    cases h with
    | cons h1 h2 =>
      rename_i k v ks
      cases r with
      | cons r1 r2 =>
        rename_i kw vs
        cases q with
        | cons c1 c2 c3 =>
          rename_i en es
          obtain ⟨e1, rv⟩ := r1
          rw [← c2] at rv
          obtain ⟨bs, q2, n2⟩ := Sees.reads I hz d _ _ h1 p1 rv
          obtain ⟨as', bs', q3, q4, n3, n4⟩ := SeesK.reads I hz kvs _ _ _ h2 p2 r2 c3
          have e1 : k = kw.1 := e1
          have c1 : keyIs kw.1 en.key = true := c1
          have kr : Reads s.heap en.key (keyD k) [] := by
            rw [e1]
            rcases keyIs_shape c1 with ⟨i, t, z1, z2⟩ | ⟨x, t, z1, z2⟩
            · rw [z1, z2]; exact Reads.int i t
            · rw [z1, z2]; exact Reads.str x t
          exact ⟨_, _, ReadsAll.cons kr q3, ReadsAll.cons q2 q4, (fun q => n3 q), fun q => (List.mem_append.mp q).elim n2 n4⟩
end
end
/-- the heap's own table of modules is none of the tracked objects -/
abbrev SysAt (base : Heap) : Prop := ∃ o, base.get? sysModules = some o
def rReprX (K : PySem.W.Frag) : List V → Hp → VK → Prop := fun xs H Q => ∃ (x : V) (d : PyData) (g : Gh), xs = [x] ∧ Sees K g H x d ∧ plainD d = true ∧ (strip d).showable = true ∧ (strip d).depth ≤ 32 ∧ (strip d).shown.length ≤ sizeLine ∧ Q (.str (strip d).shown) H
theorem call_reprX {X : Cx} (hg : X.A.guards = some []) (hu : X.A.units + 64 < cLine) (hb : SysAt X.base) : CallR X (.builtin "repr") (rReprX X.K) := by
  intro pins s σ H xs us Q I r h
  obtain ⟨x, d, g, rfl, hd, hl, hs, hdp, hz, q⟩ := h
  obtain ⟨u, rfl, ru⟩ := vals1 r
  obtain ⟨ob, eb⟩ := hb
  obtain ⟨as, rd, hn⟩ := Sees.reads I (I.bs _ _ eb).2 d x u hd hl ru
  generalize strip d = e at rd hs hdp hz q
  cases rd with
  | none => exact PySem.P.repr_of_none ⟨.str _, H, I.tok _, ⟨_, rfl⟩, q⟩
  | bool b => exact PySem.P.repr_of_bool ⟨.str _, H, I.tok _, ⟨_, rfl⟩, q⟩
  | int i t => exact PySem.P.repr_of_int (of_decide_eq_true hs) ⟨.str _, H, I.tok _, ⟨_, rfl⟩, q⟩
  | str y t => exact PySem.P.repr_of_str ⟨.str _, H, I.tok _, ⟨_, rfl⟩, q⟩ hz
  | list h1 h2 h3 h4 =>
    exact repr_of_reads' (.list h1 h2 h3 h4) hs (fun _ => hn) hg (by omega) (fun _ _ e => e) (fun h' u tk hk => ⟨.str _, H, I.kept hk, ⟨_, rfl⟩, q⟩) hz
  | tuple h1 h2 h3 h4 =>
    exact repr_of_reads' (.tuple h1 h2 h3 h4) hs (fun _ => hn) hg (by omega) (fun _ _ e => e) (fun h' u tk hk => ⟨.str _, H, I.kept hk, ⟨_, rfl⟩, q⟩) hz
  | dict h1 h2 h3 h4 h5 =>
    exact repr_of_reads' (.dict h1 h2 h3 h4 h5) hs (fun _ => hn) hg (by omega) (fun _ _ e => e) (fun h' u tk hk => ⟨.str _, H, I.kept hk, ⟨_, rfl⟩, q⟩) hz
def dReprX : D1 := fun ds P => ∃ d, ds = [d] ∧ plainD d = true ∧ (strip d).showable = true ∧ (strip d).depth ≤ 32 ∧ (strip d).shown.length ≤ sizeLine ∧ P (.str (strip d).shown)
theorem callv_reprX {K : PySem.W.Frag} : CallV K (rReprX K) dReprX := by
  rintro g H xs ds P Q ft z ⟨d, rfl, h1, h2, h3, h4, p⟩ k
  cases z with
  | cons a r =>
    cases r
    exact ⟨_, d, g, rfl, a, h1, h2, h3, h4, k _ _ g _ .refl (.str _) p⟩
end VS
namespace VS
open PySem PySem.Spec L2
open PyProof.Rows hiding St

/-! ### the law's end, the table of modules known to be there -/
section
variable {P : Program} {w : World} {K : PySem.W.Frag} {mg mb : Str → Option Value} {k : Nat} {fa a : Addr} {fd : FuncData} {x : Str} {sp : PreV} {s₁ : Shared} {vs : List Value} {ns : List Int}
theorem law_overX {H : Hp} (KX : K.In s₁.heap) (hns : s₁.heap.Ns mainGlobals mg) (hb : s₁.heap.Ns builtinsNs mb) (hbb : ∀ x : Str, x ≠ "__name__" → mb x = bootBuiltins x) (hlim : s₁.heap.NoLimit) (hsy : ∃ mm, s₁.heap.Ns sysModules mm) (hg : s₁.gens = #[])
    (ha : s₁.heap.get? a = some { cls := .type "list", data := .seq vs.toArray }) (hr : RoomG k callerA) (F : ∀ base : Heap, K.In base → base.Ns mainGlobals mg → SysAt base → FnV P w K mg base k fa fd [x] sp) (hbind : ∀ (s : Shared) (u : Value), BindsTo s fd ⟨[u], []⟩ [(x, u)])
    (hO : Only H) (hok : HOk P w H s₁.heap) (hA : ∀ b, H b ≠ none → b = a) (hK : H a ≠ none → K.lookup a = none) (hsp : sp [.ref a] H fun v _ => v = .bl true) :
    codeAny (model P w) callerA (.call (.ref fa) ⟨[.ref a], []⟩) (fun r s' => r = .ok (.ret (.bool true)) ∧ OldK s₁.heap s'.heap ∧ s'.os = s₁.os ∧ AllBare s'.gens) s₁ := by
  -- a dict of the heap is none of the tracked objects
  have dictFree : ∀ {b : Addr} {o : Obj} {es : Array DictEntry} {ep : Nat}, s₁.heap.get? b = some o → o.data = .dict es ep → H b = none := by
    intro b o es ep e d
    refine Classical.byContradiction fun q => ?_
    obtain rfl := hA b q
    cases ha.symm.trans e
    exact absurd (show Data.seq vs.toArray _ = Data.dict es ep from d) (fun z => nomatch z)
  have nsH : ∀ {b : Addr} {m : Str → Option Value}, s₁.heap.Ns b m → (hidT s₁.heap H).Ns b m :=
    fun ⟨o, es, ep, e, d, r⟩ => ⟨o, es, ep, hidT_get e (dictFree e d), d, r⟩
  have inH : K.In (hidT s₁.heap H) := by
    intro b o e
    refine hidT_get (KX b o e) (Classical.byContradiction fun q => ?_)
    obtain rfl := hA b q
    rw [hK q] at e
    cases e
  have md : Mod K mg (hidT s₁.heap H) := ⟨inH, nsH hns, ⟨mb, nsH hb, hbb⟩, let ⟨mc, h1, h2⟩ := hlim; ⟨mc, nsH h1, h2⟩⟩
  have e0 : Env0 P w K mg (hidT s₁.heap H) callerA [] s₁ H :=
    ⟨rfl, md, fun b o e => of_hidT e, Nat.le_of_eq (hidT_size _ _), trivial, fun b hb => absurd (show b ∈ ([] : List Addr) from hb) (by simp), hok, .of_eq hg⟩
  have run := (F _ inH (nsH hns) (let ⟨_, h⟩ := hsy; let ⟨o, _, _, e, _⟩ := nsH h; ⟨o, e⟩)).go (args := ⟨[.ref a], []⟩) (us := [.ref a]) hr e0 (hbind s₁ (.ref a)) (.cons (show RelV (V.ref a) (Value.ref a) from rfl) .nil) hsp
  refine codeAny_mono run fun r s' h => ?_
  match r, h with
  | .ok (.ret u), h =>
    obtain ⟨v, H', os, bare, un, hok', r', q⟩ := h
    obtain rfl : v = .bl true := q
    obtain rfl : u = Value.bool true := r'
    refine ⟨rfl, .of_keep fun b o e => ?_, os, bare⟩
    rcases hO b with z | ⟨ob, xs, z⟩
    · exact un.keep b o e z (fun q => absurd (show b ∈ ([] : List Addr) from q) (by simp)) (by simp)
    · have e2 := (hok' b _ (un.frzs b ob _ z)).1
      cases ((hok b _ z).1).symm.trans e
      exact e2
theorem law_gX (KX : K.In s₁.heap) (hns : s₁.heap.Ns mainGlobals mg) (hb : s₁.heap.Ns builtinsNs mb) (hbb : ∀ x : Str, x ≠ "__name__" → mb x = bootBuiltins x) (hlim : s₁.heap.NoLimit) (hsy : ∃ mm, s₁.heap.Ns sysModules mm) (hg : s₁.gens = #[])
    (ha : s₁.heap.get? a = some { cls := .type "list", data := .seq vs.toArray }) (hi : IntsAre vs ns) (hl : ns.length ≤ sizeLine) (hr : RoomG k callerA)
    (F : ∀ base : Heap, K.In base → base.Ns mainGlobals mg → SysAt base → FnV P w K mg base k fa fd [x] sp) (hbind : ∀ (s : Shared) (u : Value), BindsTo s fd ⟨[u], []⟩ [(x, u)]) (hsp : ∀ H : Hp, Only H → SqL K H a (ns.map V.int) → sp [.ref a] H fun v _ => v = .bl true) :
    codeAny (model P w) callerA (.call (.ref fa) ⟨[.ref a], []⟩) (fun r s' => r = .ok (.ret (.bool true)) ∧ OldK s₁.heap s'.heap ∧ s'.os = s₁.os ∧ AllBare s'.gens) s₁ := by
  have rv := vals_ints hi
  have lv := hi.length
  cases hk : K.lookup a with
  | some o =>
    cases (KX a o hk).symm.trans ha
    have S : SqL K (fun _ => none) a (ns.map V.int) := .inr ⟨_, vs.toArray, _, hk, rfl, rfl, rfl, by rw [List.size_toArray, lv]; exact hl, by simpa using rv⟩
    exact law_overX (H := fun _ => none) KX hns hb hbb hlim hsy hg ha hr F hbind (fun _ => .inl rfl) (fun b u z => nomatch z) (fun b z => absurd rfl z) (fun z => absurd rfl z) (hsp _ (fun _ => .inl rfl) S)
  | none =>
    let ob : Obj := { cls := .type "list", data := .seq vs.toArray }
    let H : Hp := fun b => if b = a then some (.frz ob (.lst (ns.map V.int))) else none
    have at_ : H a = some (.frz ob (.lst (ns.map V.int))) := if_pos rfl
    have off : ∀ {b}, b ≠ a → H b = none := fun h => if_neg h
    have O : Only H := fun b => if hb : b = a then .inr ⟨ob, ns.map V.int, hb ▸ at_⟩ else .inl (off hb)
    refine law_overX (H := H) KX hns hb hbb hlim hsy hg ha hr F hbind O (fun b u z => ?_) (fun b z => ?_) (fun _ => hk) (hsp H O (.inl (.inr ⟨ob, at_⟩)))
    · by_cases hb : b = a
      · subst hb
        cases at_.symm.trans z
        exact ⟨ha, by rw [List.length_map]; exact hl, vs, _, rv, ha⟩
      · cases (off hb).symm.trans z
    · exact Classical.byContradiction fun hb => z (off hb)
end
theorem walk_gX {l : PySem.W.OpenLaw} {n k : Nat} {q : Program} {loose : List Str} {XP : (Str → Option Value) → Heap → Prop} {YP : World → Heap → Prop} {d : DefRec} {x : Str} (hn : l.most = some n) (himp : importsNone q = true) (hn2 : n ≤ sizeLine) (hdf : d.params.defaults = []) (hr : RoomG k callerA)
    (F : ∀ (w : World) (mg : Str → Option Value) (fa : Addr) (h : Heap), YP w h → h.Ns mainGlobals mg → mg d.name = some (.ref fa) →
      ∃ (K : PySem.W.Frag) (fd : FuncData) (sp : PreV), K.In h ∧ (∀ (s : Shared) (u : Value), BindsTo s fd ⟨[u], []⟩ [(x, u)]) ∧ (∀ (H : Hp) (a : Addr) (ns : List Int), ns.length ≤ n → Only H → SqL K H a (ns.map V.int) → sp [.ref a] H fun v _ => v = .bl true) ∧
        ∀ base : Heap, K.In base → base.Ns mainGlobals mg → SysAt base → FnV l.prog w K mg base k fa fd [x] sp) :
    PySem.W.WalkO q loose XP YP l.row.toRowW d [] (fun f vs => PySem.call f vs) := by
  refine Att.attach_call hn hdf fun w s₀ s₁ mg mb fa o pm cd doc a vs ns G Y ho hd hcd hmg hobj hints hlen hg => ?_
  obtain ⟨K, fd, sp, KX, hb, hsp, hF⟩ := F w mg fa _ Y G.T.g hmg
  exact law_gX KX G.T.g G.T.b G.T.builtins G.T.nolimit (let ⟨mm, h, _⟩ := (G.T.seer himp).mods; ⟨mm, h⟩) hg hobj hints (Nat.le_trans hlen hn2) hr hF hb fun H hO hS => hsp H a ns hlen hO hS
end VS
namespace VS
open PySem PySem.Spec L2
open PyProof.Rows hiding St

/-! ### tuple(reversed(x)) -/
def dTupRev (t : DE) : DE := fun s P => t s fun d s1 => match d with
  | .list ds => P (.tuple ds.reverse) s1
  | _ => False
section
variable {X : Cx} {e : Expr} {te : TE} {de : DE} {p p2 pos pos2 : Pos}
theorem v_tupRev (hc : X.calm = true) (hg : Gl X "tuple") (hm : X.mg "tuple" = none) (hg2 : Gl X "reversed") (hm2 : X.mg "reversed" = none) (he : VE X e te de) (hs : starEach [e] X.env = (false, eval e X.env) :: starEach [] X.env := by rfl)
    (hs2 : starEach [.Call (.Name "reversed" p2) [e] [] pos2] X.env = (false, eval (.Call (.Name "reversed" p2) [e] [] pos2) X.env) :: starEach [] X.env := by rfl) :
    VE X (.Call (.Name "tuple" p) [.Call (.Name "reversed" p2) [e] [] pos2] [] pos) (RT.tTupRev X.K te) (dTupRev de) :=
  ⟨RT.pe_tupRev hc hg hm hg2 hm2 he.pe hs hs2, fun g0 H0 g s σ H P Q r p k => he.adq g0 H0 g s σ H _ _ r p fun v H1 g1 s1 d st z p1 => by
    cases d <;> first | exact p1.elim | skip
    cases z with
    | lst f e' a => exact ⟨_, _, rfl, .inl (.inl e'), fun q hq => k _ _ g1 s1 _ (st.laid hq) (.tup upd_same (SeesAll.stay (Fresh.laid hq).stay a).rev) p1⟩⟩
end
end VS
namespace VS
open PySem PySem.Spec L2
open PyProof.Rows hiding St

/-! ### a name's own list is given up ahead of an expression -/
def dDem (i : Nat) (t : DE) : DE := fun s P => match s.ρ[i]? with
  | some (.ow d) => t ⟨dem s.ρ i d, s.β⟩ P
  | _ => t s P
section
variable {K : PySem.W.Frag} {te : TE} {t : DE}
theorem adq_demO (i : Nat) (h : AdqO K te t) : AdqO K te (dDem i t) := by
  intro g0 H0 g s σ H P Q r p k
  unfold dDem at p
  split at p
  · rename_i d hd
    obtain ⟨a, e, q, st⟩ := r.dem hd
    exact h g0 H0 _ _ σ H P Q st.rel p fun a' H' g' s' d' st2 n q2 => k a' H' g' s' d' (st.trans st2) n q2
  · exact h g0 H0 g s σ H P Q r p k
theorem adq_dem (i : Nat) (h : AdqE K te t) : AdqE K te (dDem i t) := by
  intro g0 H0 g s σ H P Q r p k
  unfold dDem at p
  split at p
  · rename_i d hd
    obtain ⟨a, e, q, st⟩ := r.dem hd
    exact h g0 H0 _ _ σ H P Q st.rel p fun a' H' g' s' d' st2 n q2 => k a' H' g' s' d' (st.trans st2) n q2
  · exact h g0 H0 g s σ H P Q r p k
end
theorem v_demO {X : Cx} {e : Expr} {te : TE} {t : DE} (i : Nat) (h : VO X e te t) : VO X e te (dDem i t) := ⟨h.pe, adq_demO i h.adq⟩
theorem v_dem {X : Cx} {e : Expr} {te : TE} {t : DE} (i : Nat) (h : VE X e te t) : VE X e te (dDem i t) := ⟨h.pe, adq_dem i h.adq⟩
end VS
namespace VS
open PySem PySem.Spec L2
open PyProof.Rows hiding St

/-! ### min, max of two ints -/
section
variable {K : PySem.W.Frag}
def rMin2 : List V → Hp → VK → Prop := fun xs H Q => ∃ i j, xs = [.int i, .int j] ∧ Q (.int (if j < i then j else i)) H
def rMax2 : List V → Hp → VK → Prop := fun xs H Q => ∃ i j, xs = [.int i, .int j] ∧ Q (.int (if j > i then j else i)) H
theorem cr_min2 {X : Cx} (hc : X.calm = true) : CallR X (.builtin "min") rMin2 := call_min2 hc
theorem cr_max2 {X : Cx} (hc : X.calm = true) : CallR X (.builtin "max") rMax2 := call_max2 hc
def dMin2 : D1 := fun ds P => match ds with
  | [.int i, .int j] => P (.int (if j < i then j else i))
  | _ => False
def dMax2 : D1 := fun ds P => match ds with
  | [.int i, .int j] => P (.int (if j > i then j else i))
  | _ => False
theorem callv_min2 : CallV K rMin2 dMin2 := by
  intro g H xs ds P Q ft z p k
  unfold dMin2 at p
  split at p
  · cases z with
    | cons a b =>
      cases a
      cases b with
      | cons a b =>
        cases a
        cases b
        exact ⟨_, _, rfl, k _ _ g _ .refl (.int _) p⟩
  · exact p.elim
theorem callv_max2 : CallV K rMax2 dMax2 := by
  intro g H xs ds P Q ft z p k
  unfold dMax2 at p
  split at p
  · cases z with
    | cons a b =>
      cases a
      cases b with
      | cons a b =>
        cases a
        cases b
        exact ⟨_, _, rfl, k _ _ g _ .refl (.int _) p⟩
  · exact p.elim
end
/-! ### isinstance(x, (T, U)) -/
def kit2 (a T U : String) : Option Bool := match kitB a T with
  | some true => some true
  | some false => kitB a U
  | none => none
theorem kit2_any {K : PySem.W.Frag} {a T U : String} {b : Bool} (h : kit2 a T U = some b) : PySem.W.kitAny K (.type a) [.type T, .type U] = some b := by
  unfold kit2 at h
  cases h1 : kitB a T with
  | none => rw [h1] at h; cases h
  | some c =>
    rw [h1] at h
    cases c with
    | true =>
      cases h
      exact kitAny_cons (kit_ty h1) (fun z => nomatch z) fun _ => rfl
    | false =>
      have h : kitB a U = some b := h
      refine kitAny_cons (kit_ty h1) (fun _ => ?_) fun z => nomatch z
      refine kitAny_cons (kit_ty h) (fun e => ?_) fun e => e
      rw [e]
      exact kitAny_nil
def dIs2 (T U : String) (t : DE) : DE := fun s P => t s fun d s1 => ∃ b, kit2 (tyD d) T U = some b ∧ typed d ∧ P (.bool b) s1
section
variable {X : Cx} {a c1 c2 : Expr} {ta : TE} {da : DE} {p pos tp : Pos} {T U : String} {kk : Nat}
theorem v_is2 (hg : Gl X "isinstance") (hm : X.mg "isinstance" = none) (ha : VE X a ta da) (hc1 : PE X c1 (tC (.ty T))) (hc2 : PE X c2 (tC (.ty U)))
    (h1 : starEach [a, .Tuple [c1, c2] kk tp] X.env = (false, eval a X.env) :: starEach [.Tuple [c1, c2] kk tp] X.env := by rfl) (h2 : starEach [.Tuple [c1, c2] kk tp] X.env = (false, eval (.Tuple [c1, c2] kk tp) X.env) :: starEach [] X.env := by rfl)
    (h3 : starEach [c1, c2] X.env = (false, eval c1 X.env) :: starEach [c2] X.env := by rfl) (h4 : starEach [c2] X.env = (false, eval c2 X.env) :: starEach [] X.env := by rfl)
    (hpl : (backTo pos (starEach [.Tuple [c1, c2] kk tp] X.env)).any (·.1) = false := by rfl) :
    VE X (.Call (.Name "isinstance" p) [a, .Tuple [c1, c2] kk tp] [] pos) (tCB (rIsiT X.K) (tCons ta (tCons (tTup (tCons (tC (.ty T)) (tCons (tC (.ty U)) tNil))) tNil))) (dIs2 T U da) := by
  refine ⟨pe_callB call_isiT hg hm (by decide +kernel) (pa_cons ha.pe (pa_cons (pe_tup (pa_cons hc1 (pa_cons hc2 pa_nil h4) h3)) pa_nil h2) h1) (by decide) (by decide) h1 hpl, fun g0 H0 g s σ H P Q r p k => ha.adq g0 H0 g s σ H _ _ r p fun v H1 g1 s1 d st z ⟨b, e, hd, p1⟩ => ?_⟩
  refine ⟨(show 2 ≤ sizeLine by decide), fun q hq => ?_⟩
  have z2 := Sees.stay (Fresh.laid (o := .tup [.ty T, .ty U]) hq).stay z
  exact ⟨v, q, [.ty T, .ty U], .type (tyD d), [.type T, .type U], b, rfl, upd_same, .cons (.ty T) (.cons (.ty U) .nil), z2.tyX hd, kit2_any e, k _ _ g1 s1 _ (st.laid hq) (.bl b) p1⟩
end
/-! ### a def that calls itself: at no value yet -/
theorem Def.never {P : Program} {w : World} {K : PySem.W.Frag} {mg : Str → Option Value} {base : Heap} {k : Nat} {x : Str} {st : Stmt} {ps : List Str} {f : Addr} {fd : FuncData} (hm : mg x = some (.ref f)) (F : FunD K x x (defArgs st) (defBody st) (defScope st) [] [] f fd)
    (hbind : ∀ (kV doc pm : Value) (an : Option Addr) (cdv ct : Value) (us : List Value), us.length = ps.length → bindArgs (PySem.W.fnOf x x (defArgs st) (defBody st) (defScope st) .none kV doc pm an cdv ct) ⟨us, []⟩ = pure (ps.zip us)) :
    Def P w K mg base k x st ps (fun _ _ _ => False) :=
  ⟨f, fd, hm, F, ⟨fun {vs H Q} ⟨_, _, _, _, _, _, _, _, h, _⟩ => h.elim, fun {A outer s H args us vs Q} _ _ _ _ ⟨_, _, _, _, _, _, _, _, h, _⟩ => h.elim⟩, F.bindsN hbind⟩
end VS
/-! sorted of a tuple of data -/
namespace VT
open PySem PySem.Spec L2
open PyProof.Rows hiding St
open PySem.W (EachIs AllAlike Sortable SortsAt dataKind dataLe alike)
theorem sorted_ofTup {prog : Program} {w : World} {A : Around} {E : Value → Shared → Prop} {s : Shared} {r : Addr} {vs : List Value} {bs : List (V × PyData)} {Q : Value → Shared → Prop} (hr : IsTup s.heap r vs.toArray) (hn : vs.length ≤ sizeLine) (hu : A.units + 64 < cLine)
    (e1 : EachIs (fun u b => RelV b.1 u) vs bs) (e2 : EachIs (fun v b => ∃ as, Reads s.heap v b.2 as) vs bs) (hs : SortOk (bs.map (·.2)))
    (q : ∀ (h' : Heap) (out : List Value) (h'' : Heap), (∀ b o, s.heap.get? b = some o → h'.get? b = some o) → EachIs (fun u b => RelV b.1 u) out (bs.mergeSort (dataLe false (·.2))) → (∀ b o, h'.get? b = some o → h''.get? b = some o) → (∃ c, h''.get? h'.objs.size = some { cls := .type "list", data := .seq out.toArray c }) →
        Q (.ref h'.objs.size) { s with heap := h'' }) : wpAny (model prog w) A (call (.builtin "sorted") [.ref r]) Q E s := by
  obtain ⟨o, ho, hc, n, hd⟩ := hr
  refine PySem.Calls.call_function_entry PyProof.Rows.kind_sorted PyProof.Rows.plain_sorted PyProof.Rows.entry_sorted (PyProof.Rows.args_sorted1 _) ?_
  unfold Builtin.«sorted»
  refine wpAny_bind (m := checkCount "sorted" 1 1 _) (wpAny_pure ?_)
  refine wpAny_bind (wpAny_collect_seq (A := A.in1) r (T := "tuple") (.inr rfl) ho hc hd (fun h' hk => ?_) (by rw [List.size_toArray]; exact hn))
  refine wpAny_bind (wpAny_newList ?_ hn)
  have hL : (h'.push (PyProof.Rows.seqObj "list" vs.toArray 0)).get? h'.objs.size = some (PyProof.Rows.seqObj "list" vs.toArray 0) := Heap.get?_push_size _ rfl
  show wpAny _ _ _ _ _ { s with heap := h'.push (PyProof.Rows.seqObj "list" vs.toArray 0) }
  have keepR : ∀ b o, s.heap.get? b = some o → (PySem.W.sortingHeap (h'.push (PyProof.Rows.seqObj "list" vs.toArray 0)) h'.objs.size vs).get? b = some o := fun b o e =>
    PySem.W.sortingHeap_old (Nat.ne_of_lt (Heap.lt_size (hk b o e))) (Heap.get?_push_of_some _ (hk b o e))
  have e3 : EachIs (fun v d => ∃ as, Reads (PySem.W.sortingHeap (h'.push (PyProof.Rows.seqObj "list" vs.toArray 0)) h'.objs.size vs) v d as) vs (bs.map (·.2)) :=
    PySem.W.each_map (R := fun v d => ∃ as, Reads (PySem.W.sortingHeap (h'.push (PyProof.Rows.seqObj "list" vs.toArray 0)) h'.objs.size vs) v d as) (·.2) (e2.mono fun _ _ ⟨as, r⟩ => ⟨as, PyProof.Rows.Reads.keeps keepR r⟩)
  refine wpAny_bind (wpAny_holding (wpAny_call_entry PyProof.Rows.slot_list_sort ⟨_, hL, rfl⟩ PyProof.Rows.entry_list_sort
    (PySem.W.list_sort_vals (s := { s with heap := h'.push (PyProof.Rows.seqObj "list" vs.toArray 0) }) (κ := dataKind (PySem.W.sortingHeap (h'.push (PyProof.Rows.seqObj "list" vs.toArray 0)) h'.objs.size vs) (bs.map (·.2))) hL
      (sorts_ok (s := { s with heap := PySem.W.sortingHeap (h'.push (PyProof.Rows.seqObj "list" vs.toArray 0)) h'.objs.size vs }) e3 hs (by show A.units + 1 + 1 + 40 < cLine; omega)) hn ⟨.none, rfl, ?_⟩) (PyProof.Rows.args_list_sort _)))
  obtain ⟨c, hc⟩ := PyProof.Rows.sortedHeap_at (vs := vs) (out := (PySem.W.sortVals (dataKind (PySem.W.sortingHeap (h'.push (PyProof.Rows.seqObj "list" vs.toArray 0)) h'.objs.size vs) (bs.map (·.2))) false vs vs).toArray) hL
  refine wpAny_pure ⟨_, rfl, q h' _ _ hk (PySem.W.sortVals_data false e1 (e2.mono fun _ _ ⟨as, r⟩ => ⟨as, PyProof.Rows.Reads.keeps keepR r⟩) hs.1) (fun b o hb => ?_) ⟨c, hc⟩⟩
  rw [PyProof.Rows.sortedHeap_old (Nat.ne_of_lt (Heap.lt_size hb)) (by rw [Heap.size_push]; exact Nat.lt_succ_of_lt (Heap.lt_size hb))]
  exact Heap.get?_push_of_some _ hb
def rSortTp (K : PySem.W.Frag) : List V → Hp → VK → Prop := fun xs H Q => ∃ (a : Addr) (bs : List (V × PyData)), xs = [.ref a] ∧ SqT K H a (bs.map (·.1)) ∧ (∀ b ∈ bs, Dp K H b.1 b.2) ∧ SortOk (bs.map (·.2)) ∧
  ∀ p, H p = none → Q (.ref p) (upd H p (.lst ((bs.mergeSort (dataLe false (·.2))).map (·.1))))
theorem cr_sortTp {X : Cx} (hu : X.A.units + 64 < cLine) : CallR X (.builtin "sorted") (rSortTp X.K) := by
  intro pins s σ H xs us Q I r h
  obtain ⟨a, bs, rfl, hq, hd, hs, q⟩ := h
  obtain ⟨u, rfl, ru⟩ := vals1 r
  cases ru
  obtain ⟨its, rv, pl, hz⟩ := I.tuple hq
  rw [List.length_map] at hz
  have hl : its.length = bs.length := by have := rv.length; rw [List.length_map] at this; exact this.symm
  have e1 : EachIs (fun u b => RelV b.1 u) its bs := each_vals rv fun u b _ r => r
  have e2 : EachIs (fun v b => ∃ as, Reads s.heap v b.2 as) its bs := each_vals rv fun u b hb r => Dp.reads I b.2 b.1 u (hd b hb) r
  refine sorted_ofTup pl (by omega) hu e1 e2 hs fun h' out h'' hk he kp2 hc => ?_
  have I1 : Inv X pins σ H { s with heap := h' } := I.kept (t' := s.toks) hk
  obtain ⟨c, hc⟩ := hc
  have hf : H h'.objs.size = none := I1.hok.fresh (Nat.le_refl _)
  refine ⟨.ref _, _, I1.laid (t' := s.toks) (a := h'.objs.size) (o := .lst ((bs.mergeSort (dataLe false (·.2))).map (·.1))) kp2 (Nat.le_refl _) ?_, rfl, q _ hf⟩
  exact ⟨by rw [List.length_map, List.length_mergeSort]; exact hz, out, c, vals_each he, hc⟩
end VT
namespace VS
open PySem PySem.Spec L2
open PyProof.Rows hiding St
open PySem.W (dataLe)
def dSortTp : D1 := fun ds P => ∃ xs, ds = [.tuple xs] ∧ SeqAt.shaped (.list xs) = true ∧ VT.SortOk xs ∧ P (.list (sortD xs))
theorem callv_sortTp {K : PySem.W.Frag} : CallVO K (VT.rSortTp K) dSortTp := by
  rintro g H xs ds P Q ft z ⟨es, rfl, hsh, hs, p⟩ k
  cases z with
  | cons z1 z2 =>
    cases z2
    cases z1 with
    | @tup a ys _ e q =>
      obtain ⟨h1, h2, h3⟩ := q.zip
      refine ⟨a, ys.zip es, rfl, by rw [h1]; exact .of e, fun b hb => (h3 b hb).dp ?_, by rw [h2]; exact hs, fun p' hp => ?_⟩
      · have hl : PyData.canLayAll0 es = true := lay_of_shaped hsh
        refine canLayAll_mem hl ?_
        rw [← h2]
        exact List.mem_map_of_mem hb
      · have := sorted_sees h3
        rw [h2] at this
        exact OpVO.lay (P := P) ft this p k p' hp
end VS
/-! t[::-1] of a tuple -/
namespace HT
open PySem PySem.Calls PyProof.Rows
section
variable {prog : Program} {w : World} {A : Around} {E : Value → Shared → Prop} {s : Shared}
theorem adjust_rev (n : Nat) : Builtin.Slice.sliceAdjust none none (-1) (n : Int) = ((n : Int) - 1, -1) := rfl
theorem places_rev (n : Nat) : Builtin.Slice.slicePlaces ((n : Int) - 1) (-1) (-1) = n := by
  unfold Builtin.Slice.slicePlaces
  have h1 : ¬ ((-1 : Int) > 0) := by decide
  simp only [h1, if_false]
  by_cases h : (n : Int) - 1 > -1
  · simp only [h, if_true]
    rw [show (- -1 : Int) = 1 by decide, Int.ediv_one]
    omega
  · simp only [h, if_false]
    omega
theorem fm_congr {α β : Type} {f g : α → Option β} : ∀ {l : List α}, (∀ x ∈ l, f x = g x) → l.filterMap f = l.filterMap g
  | [], _ => rfl
  | x :: l, h => by
    rw [List.filterMap_cons, List.filterMap_cons, h x (List.mem_cons_self ..), fm_congr fun y hy => h y (List.mem_cons_of_mem _ hy)]
theorem pick_rev (xs : Array Value) : ((List.range xs.size).filterMap fun (m : Nat) => xs[(((xs.size : Int) - 1) + (m : Int) * (-1)).toNat]?).toArray = xs.toList.reverse.toArray := by
  have e : ((List.range xs.size).filterMap fun (m : Nat) => xs[(((xs.size : Int) - 1) + (m : Int) * (-1)).toNat]?) = ((List.range xs.size).map fun k => xs.size - 1 - k).filterMap (xs[·]?) := by
    rw [List.filterMap_map]
    refine fm_congr fun m hm => ?_
    have hm := List.mem_range.mp hm
    have : (((xs.size : Int) - 1) + (m : Int) * (-1)).toNat = xs.size - 1 - m := by omega
    show xs[(((xs.size : Int) - 1) + (m : Int) * (-1)).toNat]? = xs[xs.size - 1 - m]?
    rw [this]
  rw [e, PySem.W.krv_range, List.filterMap_reverse, PySem.W.krv_all]
theorem sliceApplied_rev {sl : Addr} {vl vu vs : Value} {n : Nat} {Q : Int × Int × Nat → Shared → Prop} (hs : s.heap.IsSliceOf sl vl vu vs) (pl : IsPart vl none) (pu : IsPart vu none) (ps : IsPart vs (some (-1)))
    (h : Q ((n : Int) - 1, -1, n) s) : wpAny (model prog w) A (Builtin.Slice.sliceApplied (.ref sl) (pure (n : Int))) Q E s := by
  obtain ⟨os, hos, hcs, hds⟩ := id hs
  unfold Builtin.Slice.sliceApplied Builtin.Slice.sliceFields
  refine wpAny_bind (wpAny_bind (wpAny_field hos hds (x := vl) rfl (wpAny_bind (wpAny_field hos hds (x := vu) rfl (wpAny_bind (wpAny_field hos hds (x := vs) rfl (wpAny_pure ?_)))))))
  refine wpAny_bind (slicePart_ ps ?_)
  show wpAny _ _ (if ((-1 : Int) == 0) = true then _ else _) _ _ s
  rw [if_neg (by decide)]
  refine wpAny_bind (slicePart_ pl (wpAny_bind (slicePart_ pu (wpAny_bind (wpAny_pure ?_)))))
  show wpAny _ _ (match Builtin.Slice.sliceAdjust none none (-1) (n : Int) with | (lo, hi) => pure (lo, (-1 : Int), Builtin.Slice.slicePlaces lo hi (-1))) _ _ s
  rw [adjust_rev n]
  show wpAny _ _ (pure ((n : Int) - 1, (-1 : Int), Builtin.Slice.slicePlaces ((n : Int) - 1) (-1) (-1))) _ _ s
  rw [places_rev]
  exact wpAny_pure h
theorem getItem_tuple_rev {t sl : Addr} {items : Array Value} {vl vu vs : Value} {Q : Value → Shared → Prop} (ht : IsTup s.heap t items) (hs : s.heap.IsSliceOf sl vl vu vs) (pl : IsPart vl none) (pu : IsPart vu none) (ps : IsPart vs (some (-1)))
    (h : Q (.ref s.heap.objs.size) { s with heap := s.heap.push { cls := .type "tuple", data := .seq items.toList.reverse.toArray } })
    (hsz : items.size ≤ sizeLine) : wpAny (model prog w) A (getItem (.ref t) (.ref sl)) Q E s := by
  have htake : sizeOk (.seq items.toList.reverse.toArray) := by
    show items.toList.reverse.toArray.size ≤ sizeLine
    rw [List.size_toArray, List.length_reverse, Array.length_toList]
    omega
  obtain ⟨os, hos, hcs, hds⟩ := id hs
  have hTs : s.TypeIs (.ref sl) "slice" := ⟨os, hos, hcs⟩
  unfold getItem
  try with_reducible refine wpAny_holding ?_
  first | refine wpAny_bind (wpAny_pure ?_) | skip
  refine wpAny_bind (wpAny_sequenceKey ht.typeIs (by decide) ?_)
  refine wpAny_bind (wpAny_callSpecial?_slot (name := Str.ofString "__getitem__") ht.typeIs PyProof.Rows.slot_tuple_getitem
    (wpAny_call_entry PyProof.Rows.slot_tuple_getitem ht.typeIs entry_tuple_getitem ?_ (args_tuple_getitem _ _)))
  show wpAny _ _ (Builtin.Tuple.tupleItemsOf (.ref t) >>= _) _ _ s
  refine wpAny_bind (tupleItemsOf_ ht ?_)
  refine wpAny_bind (wpAny_typeOf hTs ?_)
  rw [if_pos (by decide)]
  refine wpAny_bind (sliceApplied_rev hs pl pu ps ?_)
  have hno : ¬ ((((items.size : Int) - 1) == 0 && (-1 : Int) == 1 && items.size == items.size) = true) := by
    intro q
    rw [Bool.and_eq_true, Bool.and_eq_true] at q
    exact absurd q.1.2 (by decide)
  show wpAny _ _ (if (((items.size : Int) - 1) == 0 && (-1 : Int) == 1 && items.size == items.size) = true then _ else _) _ _ s
  rw [if_neg hno, pick_rev]
  first
    | exact wpAny_bind (m := Builtin.Tuple.tupleExact _) (wpAny_newObj_type (wpAny_pure ⟨_, rfl, wpAny_pure h⟩) htake)
    | exact wpAny_bind (m := Builtin.Tuple.tupleExact _) (wpAny_newObj_type (wpAny_bind (wpAny_pure (wpAny_pure ⟨_, rfl, wpAny_pure h⟩))) htake)
    | exact wpAny_bind (wpAny_bind (m := Builtin.Tuple.tupleExact _) (wpAny_newObj_type (wpAny_pure (wpAny_pure ⟨_, rfl, wpAny_pure h⟩)) htake))
    | exact wpAny_bind (wpAny_bind (m := Builtin.Tuple.tupleExact _) (wpAny_newObj_type (wpAny_pure ⟨_, rfl, wpAny_pure h⟩) htake))
end
end HT
namespace VS
open PySem PySem.Spec L2
open PyProof.Rows hiding St
def tRevT (K : PySem.W.Frag) (te : TE) : TE := fun σ H Q => te σ H fun x H1 => ∃ a xs, x = .ref a ∧ SqT K H1 a xs ∧ ∀ p, H1 p = none → Q (.ref p) (upd H1 p (.tup xs.reverse))
theorem pe_revT {X : Cx} {te : TE} {e : Expr} {k : Nat} {p1 p2 p3 pos : Pos} (he : PE X e te) : PE X (.Subscript e (.Slice none none (some (.UnaryOp .USub (.Constant (.int 1) k p1) p2)) p3) pos) (tRevT X.K te) := by
  refine ⟨fun pins s σ H Q I h => ?_⟩
  refine Subscript_ (thn (he.run pins s σ H _ I h) fun v s1 ⟨x, H1, I1, r1, q1⟩ => ?_)
  obtain ⟨a, xs, ex, hx, q⟩ := q1
  subst ex
  cases r1
  have hst : PO X (some (.UnaryOp .USub (.Constant (.int 1) k p1) p2)) (tPart (tUn (rU fun i => .int (-i)) (tC (.int 1)))) := po_some (pe_un un_neg pe_int)
  refine wpAny_Slice (thn (po_none.run pins s1 σ H1 (fun o H2 => o = none ∧ H2 = H1) I1 ⟨rfl, rfl⟩) fun vl s2 ⟨l, H2, I2, pl, el, e2⟩ => ?_)
  subst el e2
  refine thn (po_none.run pins s2 σ H2 (fun o H3 => o = none ∧ H3 = H2) I2 ⟨rfl, rfl⟩) fun vu s3 ⟨u, H3, I3, pu, eu, e3⟩ => ?_
  subst eu e3
  refine thn (hst.run pins s3 σ H3 (fun o H4 => o = some (-1) ∧ H4 = H3) I3 ⟨1, rfl, -1, rfl, rfl, rfl⟩) fun vs s4 ⟨o, H4, I4, ps, eo, e4⟩ => ?_
  subst eo e4
  have I5 : Inv X pins σ H4 { s4 with heap := s4.heap.push { cls := .type "slice", data := .fields #[vl, vu, vs] } } := I4.kept (t' := s4.toks) fun b ob q => Heap.get?_push_of_some _ q
  obtain ⟨its, r, ht, hz⟩ := I5.tuple hx
  have hlen := r.length
  show wpAny (model X.prog X.w) X.A (subscriptTail e (.Slice none none (some (.UnaryOp .USub (.Constant (.int 1) k p1) p2)) p3) (.ref a) (.ref s4.heap.objs.size)) (EP X pins σ Q) X.xe { s4 with heap := s4.heap.push { cls := .type "slice", data := .fields #[vl, vu, vs] } }
  refine tail_any (ops := [.ref a, .ref s4.heap.objs.size]) ht.typeIs (PyProof.Rows.slot_tuple_getitem.lookup) ?_ (by with_unfolding_all rfl)
  refine HT.getItem_tuple_rev ht (Heap.IsSliceOf.new _ vl vu vs) pl pu ps ?_ (by rw [List.size_toArray]; omega)
  refine ⟨.ref _, _, I5.laid (t' := s4.toks) (o := .tup xs.reverse) (fun b ob q => Heap.get?_push_of_some _ q) (Nat.le_refl _) ?_, rfl, q _ (I5.hok.fresh (Nat.le_refl _))⟩
  exact ⟨by rw [List.length_reverse]; exact hz, _, r.reverse, IsTup.new _ _⟩
def dRevT (t : DE) : DE := fun s P => t s fun d s1 => match d with
  | .tuple ds => P (.tuple ds.reverse) s1
  | _ => False
theorem v_revT {X : Cx} {te : TE} {de : DE} {e : Expr} {k : Nat} {p1 p2 p3 pos : Pos} (he : VE X e te de) : VE X (.Subscript e (.Slice none none (some (.UnaryOp .USub (.Constant (.int 1) k p1) p2)) p3) pos) (tRevT X.K te) (dRevT de) :=
  ⟨pe_revT he.pe, fun g0 H0 g s σ H P Q r p k => he.adq g0 H0 g s σ H _ _ r p fun v H1 g1 s1 d st z p1 => by
    cases d <;> first | exact p1.elim | skip
    cases z with
    | tup e' a => exact ⟨_, _, rfl, .of e', fun q hq => k _ _ g1 s1 _ (st.laid hq) (.tup upd_same (SeesAll.stay (Fresh.laid hq).stay a).rev) p1⟩⟩
end VS
namespace VS
open PySem PySem.Spec L2
open PyProof.Rows hiding St
/-! ### x.bit_length(), ~x -/
section
variable {X : Cx} {a : Expr} {ta : TE} {da : DE} {pos apos : Pos}
def dBits (t : DE) : DE := fun s P => t s fun d s1 => match d with
  | .int i => P (.int (Builtin.Int.intBits i : Nat)) s1
  | _ => False
theorem v_bits (h : VE X a ta da) (hbase : attributeBase a "bit_length" X.env (eval a X.env) = eval a X.env := by rfl) (hline : (apos.endLine == pos.line) = true := by rfl) : VE X (.Call (.Attribute a "bit_length" apos) [] [] pos) (tBits ta) (dBits da) := ⟨pe_bits h.pe hbase hline, fun g0 H0 g s σ H P Q q p k =>
  h.adq g0 H0 g s σ H _ _ q p fun x H1 g1 s1 d st1 z p1 => by
    cases d <;> first | exact p1.elim | skip
    cases z
    exact ⟨_, rfl, k _ H1 g1 s1 _ st1 (.int _) p1⟩⟩
def dInv (t : DE) : DE := fun s P => t s fun d s1 => match d with
  | .int i => P (.int (Builtin.bitNot i)) s1
  | _ => False
theorem v_inv (h : VE X a ta da) : VE X (.UnaryOp .Invert a pos) (tUn (rU fun i => .int (Builtin.bitNot i)) ta) (dInv da) := ⟨pe_un un_inv h.pe, fun g0 H0 g s σ H P Q q p k =>
  h.adq g0 H0 g s σ H _ _ q p fun x H1 g1 s1 d st1 z p1 => by
    cases d <;> first | exact p1.elim | skip
    cases z
    exact ⟨_, rfl, k _ H1 g1 s1 _ st1 (.int _) p1⟩⟩
end
end VS
namespace VS
open PySem PySem.Spec L2
open PyProof.Rows hiding St
/-! ### i ** j, i << j of any size -/
def CPowW (i j : Int) : Prop := 0 ≤ j ∧ (Builtin.Int.intBits i : Int) * j ≤ 2 ^ 27
abbrev rPowWI : R2 := rI CPowW fun i j => .int (i ^ j.toNat)
abbrev rShlWI : R2 := rI CShl fun i j => .int (i * 2 ^ j.toNat)
abbrev dPowW : D2 := dI CPowW fun i j => .int (i ^ j.toNat)
abbrev dShlW : D2 := dI CShl fun i j => .int (i * 2 ^ j.toNat)
section
variable {X : Cx} {a b : Expr} {ta tb : TE} {da db : DE} {pos : Pos}
theorem op_powW : OpR X (binaryOp .Pow) rPowWI := opI fun _ _ _ _ _ _ _ hc q => pow_int hc.1 hc.2 q
theorem v_powW (ha : VE X a ta da) (hb : VE X b tb db) : VE X (.BinOp a .Pow b pos) (tOp (rI CPowW fun i j => .int (i ^ j.toNat)) ta tb) (dOp dPowW da db) := v_op op_powW (opv_I fun _ _ _ _ => .int _) ha hb
theorem v_shlW (ha : VE X a ta da) (hb : VE X b tb db) : VE X (.BinOp a .LShift b pos) (tOp (rI CShl fun i j => .int (i * 2 ^ j.toNat)) ta tb) (dOp dShlW da db) := v_op op_shlW (opv_I fun _ _ _ _ => .int _) ha hb
end
theorem big_pow : CPowW ((10 : Int) ^ ((57 : Int)).toNat) 7 := ⟨by decide, by decide +kernel⟩
end VS
namespace VS
open PySem PySem.Spec L2
open PyProof.Rows hiding St
/-! ### x * n of a text -/
def rMulS : R2 := fun x y H Q => ∃ a n, x = .str a ∧ y = .int n ∧ MulOk a n ∧ Q (.str (Txt.mul a n)) H
def dMulS : D2 := fun d e P => match d, e with
  | .str x, .int n => MulOk x n ∧ P (.str (Txt.mul x n))
  | _, _ => False
section
variable {X : Cx} {a b : Expr} {ta tb : TE} {da db : DE} {pos : Pos} {K : PySem.W.Frag}
theorem op_mulS : OpR X (binaryOp .Mult) rMulS := by
  intro pins s σ H x y v u Q I rx ry h
  obtain ⟨a, n, rfl, rfl, hc, q⟩ := h
  obtain ⟨t, rfl⟩ := rx
  obtain ⟨t', rfl⟩ := ry
  exact PySem.SB.mul hc fun t2 k => ⟨.str _, H, I.tok _, ⟨_, rfl⟩, q⟩
theorem opv_mulS : OpV K rMulS dMulS := by
  intro g H x y d e P Q ft hx hy hr k
  cases d <;> cases e <;> first | exact hr.elim | skip
  cases hx
  cases hy
  exact ⟨_, _, rfl, rfl, hr.1, k _ _ g _ .refl (.str _) hr.2⟩
theorem v_mulS (ha : VE X a ta da) (hb : VE X b tb db) : VE X (.BinOp a .Mult b pos) (tOp rMulS ta tb) (dOp dMulS da db) := v_op op_mulS opv_mulS ha hb
end
end VS
namespace VS
open PySem PySem.Spec L2
open PyProof.Rows hiding St
/-! ### tuple * int -/
theorem tuple_mul1 (l : Addr) (items : Array Value) (n : Nat) (dd : Option Addr) (sl : Array (Option Value)) (u : Tok) :
    Meets (Builtin.«tuple.__mul__» ⟨[.ref l, .int 1 u], []⟩) (fun _ R s => s.heap.get? l = some { cls := .type "tuple", dict := dd, data := .seq items n, slots := sl } ∧ R (.ok (.ret (Value.ref l))) s) :=
  .of_wp fun prog w A R s h => by
    obtain ⟨hp, g, d, tk, os⟩ := s
    obtain ⟨hl, h⟩ := h
    have f1 := AutoSeq1.idx_int
    wp_walk using wpAny_loadPart' hl
    exact ⟨_, rfl, h⟩
def rRepT1 (K : PySem.W.Frag) : R2 := fun x y H Q => ∃ l xs, x = .ref l ∧ y = .int 1 ∧ SqT K H l xs ∧ Q (.ref l) H
theorem op_repT1 {X : Cx} : OpR X (binaryOp .Mult) (rRepT1 X.K) := by
  intro pins s σ H x y v u Q I rx ry h
  obtain ⟨l, xs, rfl, rfl, hT, q⟩ := h
  cases rx
  obtain ⟨t, rfl⟩ := ry
  obtain ⟨its, r, ⟨⟨cls, dd, data, sl⟩, ho, hc, n, hd⟩, hs⟩ := I.tuple hT
  simp only at hc hd
  subst hc hd
  refine wpAny_binaryOp_repeat_ref (T := "tuple") (U := "int") (by decide) ⟨_, ho, rfl⟩ (fun s' => typeIs_int s' 1 t) noFill_tuple_mul F.fills_int_mul F.slot_int_rmul repeat_tuple F.slot_int_index.lookup
    (call_meets F.slot_int_rmul (typeIs_int s 1 t) F.entry_int_rmul (F.args_int_rmul_2 _ _) (int_rmul_tuple 1 t l its.toArray n dd sl)
      ⟨ho, rfl, ⟨_, ho, rfl⟩, call_meets F.slot_tuple_mul ⟨_, ho, rfl⟩ F.entry_tuple_mul (F.args_tuple_mul_2 _ _) (tuple_mul1 l its.toArray n dd sl t) ⟨ho, ?_⟩⟩)
  exact ⟨.ref l, H, I.tok _, rfl, q⟩
abbrev rRepTA (K : PySem.W.Frag) : R2 := fun x y H Q => rRepT1 K x y H Q ∨ rRepT K x y H Q
/-- a tuple times a count from 1 on -/
def dRepT : D2 := fun d e P => match d, e with
  | .tuple xs, .int n => 1 ≤ n ∧ n ≤ 1000 ∧ xs ≠ [] ∧ xs.length ≤ 1000 ∧ P (.tuple (List.replicate n.toNat xs).flatten)
  | _, _ => False
section
variable {X : Cx} {a b : Expr} {ta tb : TE} {da db : DE} {pos : Pos} {K : PySem.W.Frag}
theorem opv_repT : OpV K (rRepTA K) dRepT := by
  intro g H x y d e P Q ft hx hy hr k
  cases d <;> cases e <;> first | exact hr.elim | skip
  rename_i xs n
  obtain ⟨h1, h2, h3, h4, p⟩ := hr
  cases hx with
  | tup e1 a1 =>
    cases hy
    by_cases h : n = 1
    · subst h
      refine .inl ⟨_, _, rfl, rfl, .of e1, k _ _ g _ .refl (.tup e1 a1) ?_⟩
      simpa using p
    · exact .inr ⟨_, _, _, rfl, rfl, .of e1, fun z => h3 (by subst z; cases a1; rfl), by omega, h2, by rw [a1.length]; exact h4, OpV.layT (P := P) (a1.rep _) p k⟩
theorem v_repT (ha : VE X a ta da) (hb : VE X b tb db) : VE X (.BinOp a .Mult b pos) (tOp (rRepTA X.K) ta tb) (dOp dRepT da db) := v_op (op_repT1.or op_repT) opv_repT ha hb
end
/-! ### name = [.. for .. in an own list] -/
section
variable {X : Cx} {elt tg iter : Expr} {ifs : List Expr} {scope : Scope} {own : List (Str × Nat)} {pos spos : Pos} {L : List Nat} {g : TG} {b : DG} {tt : TT} {dt : DT} {te : TE} {de : DE}
theorem vs_lcSetB {i k : Nat} {y : Str} {py : Pos} (hc : X.calm = true) (hN : X.N.Nodup) (hy : X.N[i]? = some y) (hyl : X.env.scope.names.lookup y = some .local)
    (hsw : swapsWith (.ListComp elt [⟨tg, iter, ifs, 0⟩] scope pos) (some (.Name y py)) spos.line X.env = pure true) (hi : PE X iter (tVar k)) (ok : BlkOk X.N X.env.scope scope own) (hg : Blk X scope fun Y => VG Y tg L g b) (ht : Blk X scope fun Y => VTs Y ifs tt dt) (he : Blk X scope fun Y => VE Y elt te de)
    (hL : (L.all fun j => (own.map (·.2)).contains j) = true := by rfl) (hs : ∀ x, foldedSetIterable iter X.env x = pure x := by intro _; rfl) :
    VS X (.Assign [.Name y py] (.ListComp elt [⟨tg, iter, ifs, 0⟩] scope pos) spos) (tAsg (tLc (iList X.K (tVar k)) g tt te (own.map (·.2))) (gName i)) (sAsg (dLcB (own.map (·.2)) k b dt de) (bName i)) :=
  ⟨ps_setLc hc hN hy hyl hsw (pi_list hi) ok (fun s H C cl fp => (hg s H C cl fp).pg) (fun s H C cl fp => (ht s H C cl fp).pts) (fun s H C cl fp => (he s H C cl fp).pe) hs, adq_asg (v_lcB (pos := pos) hc hN hi ok hg ht he hL hs).adq.e (adq_name i)⟩
theorem vs_lcOwnB {i k : Nat} {y : Str} {py : Pos} (hc : X.calm = true) (hN : X.N.Nodup) (hy : X.N[i]? = some y) (hyl : X.env.scope.names.lookup y = some .local)
    (hsw : swapsWith (.ListComp elt [⟨tg, iter, ifs, 0⟩] scope pos) (some (.Name y py)) spos.line X.env = pure true) (hi : PE X iter (tVar k)) (ok : BlkOk X.N X.env.scope scope own) (hg : Blk X scope fun Y => VG Y tg L g b) (ht : Blk X scope fun Y => VTs Y ifs tt dt) (he : Blk X scope fun Y => VE Y elt te de)
    (hL : (L.all fun j => (own.map (·.2)).contains j) = true := by rfl) (hs : ∀ x, foldedSetIterable iter X.env x = pure x := by intro _; rfl) :
    VS X (.Assign [.Name y py] (.ListComp elt [⟨tg, iter, ifs, 0⟩] scope pos) spos) (tAsg (tLc (iList X.K (tVar k)) g tt te (own.map (·.2))) (gName i)) (sOwn (dLcB (own.map (·.2)) k b dt de) i) :=
  ⟨ps_setLc hc hN hy hyl hsw (pi_list hi) ok (fun s H C cl fp => (hg s H C cl fp).pg) (fun s H C cl fp => (ht s H C cl fp).pts) (fun s H C cl fp => (he s H C cl fp).pe) hs, adq_own i (v_lcB (pos := pos) hc hN hi ok hg ht he hL hs).adq⟩
end
end VS
namespace VS
open PySem PySem.Spec L2
open PyProof.Rows hiding St
/-! ### is True, is False -/
def rIsNB : R2 := fun x y H Q => ∃ b : Bool, x = .non ∧ y = .bl b ∧ Q (.bl false) H
theorem op_isNB {X : Cx} : OpR X (compareOp .Is) rIsNB := by
  intro pins s σ H x y v u Q I rx ry h
  obtain ⟨b, rfl, rfl, q⟩ := h
  cases rx
  cases (show u = Value.bool b from ry)
  exact wpAny_is_other rfl (fun z => nomatch z) ⟨.bl false, H, I, rfl, q⟩
abbrev rIsBA : R2 := fun x y H Q => rIsB x y H Q ∨ rIsNB x y H Q
theorem op_isBA {X : Cx} : OpR X (compareOp .Is) rIsBA := op_isBl.or op_isNB
def dIsB : D2 := fun d e P => match d, e with
  | .bool a, .bool b => P (.bool (decide (a = b)))
  | .none, .bool _ => P (.bool false)
  | _, _ => False
theorem opv_isB {K : PySem.W.Frag} : OpV K rIsBA dIsB := by
  intro g H x y d e P Q ft hx hy hr k
  cases d <;> cases e <;> first | exact hr.elim | skip
  · cases hx
    cases hy
    exact .inr ⟨_, rfl, rfl, k _ _ g _ .refl (.bl _) hr⟩
  · cases hx
    cases hy
    exact .inl ⟨_, _, rfl, rfl, k _ _ g _ .refl (.bl _) hr⟩
/-! ### zip of two lists, of two tuples -/
def dZipX (t : DA) : DI := fun s P => t s fun ds s1 => match ds with
    | [.tuple xs, .tuple ys] => P (zipD xs ys) s1
    | [.list xs, .list ys] => P (zipD xs ys) s1
    | _ => False
section
variable {K : PySem.W.Frag} {ta : TA} {da : DA}
theorem adq_zipX (h : AdqA K ta da) : AdqI K (RZ.iZipA K ta) (dZipX da) := fun g0 H0 g s σ H P R r p k =>
  h g0 H0 g s σ H _ _ r p fun vs H1 g1 s1 ds st z p1 => by
    cases z with
    | nil => exact p1.elim
    | cons z1 z2 =>
      cases z1 <;> first | (cases z2 <;> first | exact p1.elim | (rename_i q1 q2; cases q2 <;> exact p1.elim)) | skip
      · rename_i f1 e1 a1
        cases z2 with
        | nil => exact p1.elim
        | cons z3 z4 =>
          cases z3 <;> first | (cases z4 <;> exact p1.elim) | skip
          cases z4 with
          | cons _ _ => exact p1.elim
          | nil =>
            rename_i f2 e2 a2
            exact ⟨_, _, _, _, rfl, .inl ⟨.of e1, .of e2, k _ H1 g1 s1 _ (fun g H => (g.F _ ∧ ∃ xs, H _ = some (.lst xs) ∧ SeesAll K g H xs _) ∧ g.F _ ∧ ∃ xs, H _ = some (.lst xs) ∧ SeesAll K g H xs _) st ((walkD_zip _ _ _ _).imp fun _ _ q => ⟨q.1.2, q.2.2⟩) ⟨⟨f1, _, e1, a1⟩, f2, _, e2, a2⟩ (fun
              ga Ha gb Hb s h => ⟨let ⟨f, xs, e, z⟩ := h.1; ⟨s.f _ f, xs, s.k _ _ f e, SeesAll.stay s z⟩, let ⟨f, xs, e, z⟩ := h.2; ⟨s.f _ f, xs, s.k _ _ f e, SeesAll.stay s z⟩⟩) p1⟩⟩
      · rename_i e1 a1
        cases z2 with
        | nil => exact p1.elim
        | cons z3 z4 =>
          cases z3 <;> first | (cases z4 <;> exact p1.elim) | skip
          cases z4 with
          | cons _ _ => exact p1.elim
          | nil =>
            rename_i e2 a2
            exact ⟨_, _, _, _, rfl, .inr ⟨.of e1, .of e2, k _ H1 g1 s1 _ (fun g H => (∃ xs, H _ = some (.tup xs) ∧ SeesAll K g H xs _) ∧ ∃ xs, H _ = some (.tup xs) ∧ SeesAll K g H xs _) st (walkD_zipT _ _ _ _) ⟨⟨_, e1, a1⟩, _, e2, a2⟩
              (fun ga Ha gb Hb s h => ⟨let ⟨xs, e, z⟩ := h.1; ⟨xs, s.t _ _ e, SeesAll.stay s z⟩, let ⟨xs, e, z⟩ := h.2; ⟨xs, s.t _ _ e, SeesAll.stay s z⟩⟩) p1⟩⟩
end
section
variable {X : Cx} {a b : Expr} {ta : TA} {da : DA} {p pos tpos : Pos} {elts : List Expr} {kk : Nat}
theorem vi_zipX (hg : Gl X "zip") (hm : X.mg "zip" = none) (ha : VA X [a, b] ta da) (hs : starEach [a, b] X.env = (false, eval a X.env) :: starEach [b] X.env := by rfl) (hpl : (backTo pos (starEach [b] X.env)).any (·.1) = false := by rfl) :
    VI X (.Tuple elts kk tpos) (.Call (.Name "zip" p) [a, b] [] pos) (RZ.iZipA X.K ta) (dZipX da) := ⟨RZ.pi_zipA hg hm ha.pa hs hpl, adq_zipX ha.adq⟩
end
end VS
namespace VS
open PySem PySem.Spec L2
open PyProof.Rows hiding St
/-! ### dict(pairs), the keys ints; d[k] -/
def rDictP (K : PySem.W.Frag) : List V → Hp → VK → Prop := fun xs H Q => ∃ (a : Addr) (ps : List Addr) (kvs : List (Key × V)), xs = [.ref a] ∧ SqL K H a (ps.map V.ref) ∧ Paired (fun p kv => SqT K H p [kV kv.1, kv.2]) ps kvs ∧ ∀ p, H p = none → Q (.ref p) (upd H p (.dK (mergeK [] kvs)))
section
variable {K : PySem.W.Frag} {g : Gh} {H : Hp}
theorem Two.mgK : ∀ {ps : List (Key × V)} {ms : List (Key × PyData)} {a : List (Key × V)} {m : List (Key × PyData)}, Two K g H a m → Two K g H ps ms → Two K g H (L2.mergeK a ps) (mergeD m ms)
  | [], [], _, _, h, _ => h
  | [], _ :: _, _, _, _, t => nomatch t
  | _ :: _, [], _, _, _, t => nomatch t
  | (k, v) :: ps, (k', d) :: ms, a, m, h, t => by
    cases t with
    | cons z t =>
      show Two K g H (L2.mergeK (putK a k v) ps) (mergeD (putD m k d) ms)
      exact Two.mgK (Two.put (k := k) h z) t
theorem pairsK_seen : ∀ {xs : List V} {m : List (Key × PyData)}, SeesAll K g H xs (pairK m) → ∃ (ps : List Addr) (kvs : List (Key × V)), xs = ps.map V.ref ∧ Paired (fun p kv => SqT K H p [kV kv.1, kv.2]) ps kvs ∧ Two K g H kvs m
  | _, [], h => by
    cases h
    exact ⟨[], [], rfl, .nil, .nil⟩
  | x :: xs, (k, d) :: m, h => by
    cases h with
    | cons z r =>
      obtain ⟨ps, kvs, rfl, h1, h2⟩ := pairsK_seen (m := m) r
      cases z with
      | @tup T ys _ e zz =>
        cases zz with
        | cons z1 zz =>
          cases zz with
          | cons z2 zz =>
            cases zz
            have ek := z1.key
            subst ek
            exact ⟨T :: ps, (k, _) :: kvs, rfl, .cons (.of e) h1, .cons z2 h2⟩
theorem callv_dictK : CallVO K (rDictP K) dDictK := by
  rintro g H xs ds P Q ft z ⟨m, rfl, p⟩ k
  obtain ⟨a, ys, rfl, e, q⟩ := one_list z
  obtain ⟨ps, kvs, rfl, h1, h2⟩ := pairsK_seen q
  refine ⟨a, ps, kvs, rfl, .of e, h1, fun q' hq => ?_⟩
  have t : Two K g H (L2.mergeK [] kvs) (mergeD [] m) := Two.mgK .nil h2
  exact k q' _ g _ (Fresh.laid hq) hq (fun f => ft q' f hq) (.inr (.inr ⟨_, _, rfl, upd_same, (t.stay (Fresh.laid hq).stay).seesK⟩)) p
def rDGet : R2 := fun x y H Q => ∃ a v, x = .ref a ∧ DGet H a y (some v) ∧ Q v H
def dDGet : D2 := fun d e P => ∃ (m : List (Key × PyData)) (k : Key) (c : PyData), d = dictK (toK m) ∧ e = keyD k ∧ lookD m k = some c ∧ P c
theorem opv_dget : OpV K rDGet dDGet := by
  rintro g H x y d e P Q ft hx hy ⟨m, k, c, rfl, rfl, h3, p⟩ q
  obtain ⟨a, ks, rfl, f, e, t⟩ := hx.dictK
  obtain ⟨v, h4, h5⟩ := t.look h3
  have ey := hy.key
  subst ey
  refine ⟨a, v, rfl, ?_, q v _ g c .refl h5 p⟩
  rw [← h4]
  exact .k e
end
section
variable {X : Cx} {a b : Expr} {ta tb : TE} {da db : DE} {pos : Pos}
theorem v_dget (hu : X.A.units + 64 < cLine) (ha : VE X a ta da) (hb : VE X b tb db) (hs : NoSl b) : VE X (.Subscript a b pos) (tOp rDGet ta tb) (dOp dDGet da db) := ⟨pe_dget (by omega) ha.pe hb.pe hs, adq_op opv_dget ha.adq hb.adq⟩
end
end VS
namespace Hd
open PySem PySem.Spec PyProof.Rows L2
def top (i : Nat) : Stmt := PySem.Challenge.pw_baselots_k17_whole_main_flats_by_ranks.main.body.getD i (.Pass ⟨0, 0, 0, 0⟩)
abbrev s_lots_within : Stmt := top 1
abbrev s_free_lots : Stmt := top 2
abbrev s_code_of_lot : Stmt := top 4
abbrev s_lot_of_code : Stmt := top 5
abbrev s_code_ranks : Stmt := top 7
abbrev s_hull_code : Stmt := top 8
abbrev s_is_flat : Stmt := top 9
abbrev s_least_flat : Stmt := top 10
abbrev s_ranked_flats : Stmt := top 11
abbrev s_all_flats : Stmt := top 12
abbrev s_flats_of_rank : Stmt := top 13
abbrev s__law_own_bag : Stmt := top 15
abbrev s__law_draw : Stmt := top 16
abbrev s__law_pick : Stmt := top 17
abbrev s__law_size : Stmt := top 18
abbrev s__law_lots : Stmt := top 19
abbrev s__law_grown_row : Stmt := top 20
abbrev s__law_more : Stmt := top 21
abbrev s__law_columns_row : Stmt := top 22
abbrev s__law_blocks_row : Stmt := top 23
abbrev s__law_renamed_row : Stmt := top 24
abbrev s__law_row : Stmt := top 25
abbrev s__law_table : Stmt := top 26
abbrev s__law_closures : Stmt := top 27
abbrev s__law_is : Stmt := top 28
abbrev s__law_asked : Stmt := top 29
abbrev s__law_asked_ranks : Stmt := top 30
abbrev s__law_told : Stmt := top 31
abbrev s__law_are_least_right : Stmt := top 32
abbrev s_law : Stmt := top 33
def d_lots_within : He.DefD := ⟨("lots_within", none), "lots_within", "lots_within", defArgs s_lots_within, defBody s_lots_within, defScope s_lots_within, [], []⟩
def d_free_lots : He.DefD := ⟨("free_lots", none), "free_lots", "free_lots", defArgs s_free_lots, defBody s_free_lots, defScope s_free_lots, [], []⟩
def d_code_of_lot : He.DefD := ⟨("code_of_lot", none), "code_of_lot", "code_of_lot", defArgs s_code_of_lot, defBody s_code_of_lot, defScope s_code_of_lot, [], []⟩
def d_lot_of_code : He.DefD := ⟨("lot_of_code", none), "lot_of_code", "lot_of_code", defArgs s_lot_of_code, defBody s_lot_of_code, defScope s_lot_of_code, [], []⟩
def d_code_ranks : He.DefD := ⟨("code_ranks", none), "code_ranks", "code_ranks", defArgs s_code_ranks, defBody s_code_ranks, defScope s_code_ranks, [], []⟩
def d_hull_code : He.DefD := ⟨("hull_code", none), "hull_code", "hull_code", defArgs s_hull_code, defBody s_hull_code, defScope s_hull_code, [], []⟩
def d_is_flat : He.DefD := ⟨("is_flat", none), "is_flat", "is_flat", defArgs s_is_flat, defBody s_is_flat, defScope s_is_flat, [], []⟩
def d_least_flat : He.DefD := ⟨("least_flat", none), "least_flat", "least_flat", defArgs s_least_flat, defBody s_least_flat, defScope s_least_flat, [], []⟩
def d_ranked_flats : He.DefD := ⟨("ranked_flats", none), "ranked_flats", "ranked_flats", defArgs s_ranked_flats, defBody s_ranked_flats, defScope s_ranked_flats, [], []⟩
def d_all_flats : He.DefD := ⟨("all_flats", none), "all_flats", "all_flats", defArgs s_all_flats, defBody s_all_flats, defScope s_all_flats, [], []⟩
def d_flats_of_rank : He.DefD := ⟨("flats_of_rank", none), "flats_of_rank", "flats_of_rank", defArgs s_flats_of_rank, defBody s_flats_of_rank, defScope s_flats_of_rank, [], []⟩
def d__law_own_bag : He.DefD := ⟨("_law_own_bag", none), "_law_own_bag", "_law_own_bag", defArgs s__law_own_bag, defBody s__law_own_bag, defScope s__law_own_bag, [], []⟩
def d__law_draw : He.DefD := ⟨("_law_draw", none), "_law_draw", "_law_draw", defArgs s__law_draw, defBody s__law_draw, defScope s__law_draw, [], []⟩
def d__law_pick : He.DefD := ⟨("_law_pick", none), "_law_pick", "_law_pick", defArgs s__law_pick, defBody s__law_pick, defScope s__law_pick, [], []⟩
def d__law_size : He.DefD := ⟨("_law_size", none), "_law_size", "_law_size", defArgs s__law_size, defBody s__law_size, defScope s__law_size, [], []⟩
def d__law_lots : He.DefD := ⟨("_law_lots", none), "_law_lots", "_law_lots", defArgs s__law_lots, defBody s__law_lots, defScope s__law_lots, [], []⟩
def d__law_grown_row : He.DefD := ⟨("_law_grown_row", none), "_law_grown_row", "_law_grown_row", defArgs s__law_grown_row, defBody s__law_grown_row, defScope s__law_grown_row, [], []⟩
def d__law_more : He.DefD := ⟨("_law_more", none), "_law_more", "_law_more", defArgs s__law_more, defBody s__law_more, defScope s__law_more, [], []⟩
def d__law_columns_row : He.DefD := ⟨("_law_columns_row", none), "_law_columns_row", "_law_columns_row", defArgs s__law_columns_row, defBody s__law_columns_row, defScope s__law_columns_row, [], []⟩
def d__law_blocks_row : He.DefD := ⟨("_law_blocks_row", none), "_law_blocks_row", "_law_blocks_row", defArgs s__law_blocks_row, defBody s__law_blocks_row, defScope s__law_blocks_row, [], []⟩
def d__law_renamed_row : He.DefD := ⟨("_law_renamed_row", none), "_law_renamed_row", "_law_renamed_row", defArgs s__law_renamed_row, defBody s__law_renamed_row, defScope s__law_renamed_row, [], []⟩
def d__law_row : He.DefD := ⟨("_law_row", none), "_law_row", "_law_row", defArgs s__law_row, defBody s__law_row, defScope s__law_row, [], []⟩
def d__law_table : He.DefD := ⟨("_law_table", none), "_law_table", "_law_table", defArgs s__law_table, defBody s__law_table, defScope s__law_table, [], []⟩
def d__law_closures : He.DefD := ⟨("_law_closures", none), "_law_closures", "_law_closures", defArgs s__law_closures, defBody s__law_closures, defScope s__law_closures, [], []⟩
def d__law_is : He.DefD := ⟨("_law_is", none), "_law_is", "_law_is", defArgs s__law_is, defBody s__law_is, defScope s__law_is, [], []⟩
def d__law_asked : He.DefD := ⟨("_law_asked", none), "_law_asked", "_law_asked", defArgs s__law_asked, defBody s__law_asked, defScope s__law_asked, [], []⟩
def d__law_asked_ranks : He.DefD := ⟨("_law_asked_ranks", none), "_law_asked_ranks", "_law_asked_ranks", defArgs s__law_asked_ranks, defBody s__law_asked_ranks, defScope s__law_asked_ranks, [], []⟩
def d__law_told : He.DefD := ⟨("_law_told", none), "_law_told", "_law_told", defArgs s__law_told, defBody s__law_told, defScope s__law_told, [], []⟩
def d__law_are_least_right : He.DefD := ⟨("_law_are_least_right", none), "_law_are_least_right", "_law_are_least_right", defArgs s__law_are_least_right, defBody s__law_are_least_right, defScope s__law_are_least_right, [], []⟩
def d_law : He.DefD := ⟨("law", none), "law", "law", defArgs s_law, defBody s_law, defScope s_law, [], []⟩
def fn : List He.DefD := ([d_lots_within, d_free_lots, d_code_of_lot, d_lot_of_code, d_code_ranks, d_hull_code, d_is_flat, d_least_flat, d_ranked_flats, d_all_flats, d_flats_of_rank, d__law_own_bag, d__law_draw, d__law_pick, d__law_size, d__law_lots, d__law_grown_row, d__law_more, d__law_columns_row, d__law_blocks_row, d__law_renamed_row, d__law_row, d__law_table, d__law_closures, d__law_is, d__law_asked, d__law_asked_ranks, d__law_told, d__law_are_least_right, d_law] : List He.DefD)
def fa : List He.Fa := ([.glo "lots_within", .glo "free_lots", .glo "code_of_lot", .glo "lot_of_code", .glo "code_ranks", .glo "hull_code", .glo "is_flat", .glo "least_flat", .glo "ranked_flats", .glo "all_flats", .glo "flats_of_rank", .glo "_law_own_bag", .glo "_law_draw", .glo "_law_pick", .glo "_law_size", .glo "_law_lots", .glo "_law_grown_row", .glo "_law_more", .glo "_law_columns_row", .glo "_law_blocks_row", .glo "_law_renamed_row", .glo "_law_row", .glo "_law_table", .glo "_law_closures", .glo "_law_is", .glo "_law_asked", .glo "_law_asked_ranks", .glo "_law_told", .glo "_law_are_least_right", .glo "law"] : List He.Fa) ++ ([.free "abs", .free "all", .free "any", .free "dict", .free "enumerate", .free "int", .free "isinstance", .free "len", .free "list", .free "max", .free "min", .free "range", .free "repr", .free "reversed", .free "sorted", .free "str", .free "sum", .free "tuple", .free "zip"] : List He.Fa)
abbrev R : PySem.W.OpenRow := PySem.W.OpenLaw.row PySem.Challenge.rw_baselots_k17_whole_main_flats_by_ranks
abbrev hk : PySem.W.Hook := He.hookD 4 fa fn
def ob (s : PySem.W.SharedT) : He.AlD := He.obsDG 4 fa fn (HandSHeadRun.getT s)
theorem ob_eq (s : PySem.W.SharedT) : ob s = hk.obs s.abs := He.obsDG_eq (HandSHeadRun.getT_eq s)
def loose : List PySem.Str := (["lots_within", "free_lots", "code_of_lot", "lot_of_code", "code_ranks", "hull_code", "is_flat", "least_flat", "ranked_flats", "all_flats", "flats_of_rank", "_law_own_bag", "_law_draw", "_law_pick", "_law_size", "_law_lots", "_law_grown_row", "_law_more", "_law_columns_row", "_law_blocks_row", "_law_renamed_row", "_law_row", "_law_table", "_law_closures", "_law_is", "_law_asked", "_law_asked_ranks", "_law_told", "_law_are_least_right"] : List PySem.Str)
theorem run (w : World) : HandSHeadRun.RunEq R (PySem.W.view R.prog [33]) hk ob 4000 loose w := by
  intro os
  kernel_rfl
end Hd
namespace Wk
open PySem PySem.Spec L2 VS Hd
open PyProof.Rows hiding St
theorem _root_.VS.RoomG.u64 {k : Nat} {A : Around} (h : RoomG k A) : A.units + 64 < cLine := h.r.units
theorem _root_.VS.RoomG.u65 {k : Nat} {A : Around} (h : RoomG k A) : A.units + 65 < cLine := by have := h.r.un; omega
/-! ### lots_within: 0 lot, 1 found, 2 thing, 3 own -/
abbrev N_lots_within : List Str := ["lot", "found", "thing", "own"]
abbrev P_lots_within : List Str := ["lot"]
theorem sc_lots_within : FnScope N_lots_within P_lots_within (defScope s_lots_within) := ⟨rfl, rfl, rfl, by decide +kernel, rfl, by decide +kernel, by decide +kernel⟩
def D_lots_within : DS := (sSeq (sAsg (dLst (dCons (dTup dNil) dNil)) (bName 1)) (sSeq (sFor (dSeqI (dVar 0)) (bName 2) (sAsg (dOp dAdd (dVar 1) (dLc [3] (dSeqI (dVar 1)) (bName 3) dYes (dOp dAdd (dVar 3) (dTup (dCons (dVar 2) dNil))))) (bName 1))) (sRet (dVar 1))))
def T_lots_within (K : PySem.W.Frag) : TS := (tSeq (tAsg (tLst (tCons (tTup tNil) tNil)) (gName 1)) (tSeq (tFor (iSeq K (tVar 0)) (gName 2) (tAsg (tOp (rAddA K) (tVar 1) (tLc (iSeq K (tVar 1)) (gName 3) tYes (tOp (rAddA K) (tVar 3) (tTup (tCons (tVar 2) tNil))) [3])) (gName 1))) (tRet (tVar 1))))
theorem ok_lots_within {P : Program} {w : World} {K : PySem.W.Frag} {mg : Str → Option Value} {base : Heap} {f : Addr} {fd : FuncData} {sp : VSp} (hm : mg "lots_within" = some (.ref f)) (F : FunD K "lots_within" "lots_within" (defArgs s_lots_within) (defBody s_lots_within) (defScope s_lots_within) [] [] f fd)
    (hd : ∀ (ds : List PyData) (β : Bag) (Q : PyData → Bag → Prop), ds.length = 1 → sp ds β Q → D_lots_within { nx := fun s => Q .none s.β, rt := Q } (initS 4 ds β)) : Def P w K mg base (1) "lots_within" s_lots_within P_lots_within sp :=
  def_of' hm F sc_lots_within (fun _ _ _ _ _ _ us hl => match us, hl with | [_], _ => rfl) (T_lots_within K) (D_lots_within) hd fun cd A outer s H hr => have nd := sc_lots_within.nd; (vb_cons (vs_setN (i := 1) (VO.e (v_lst (va_cons (v_tup va_nil) va_nil))) nd)
  (vb_cons (vs_for PassesOwn.never (by rfl) (vi_seq (v_nm 0)) (vg_nm 2 nd) (vb_one (vs_setN (i := 1) (v_add (v_nm 1) (VO.e (v_lc (own := [("own", 3)]) (by rfl) nd (vi_seq (v_nm 1)) (blkOk_by (N := N_lots_within) (sc := defScope s_lots_within) (own := [("own", 3)]) (by decide +kernel)) (fun _ _ _ _ _ => (vg_nm 3 nd)) (fun _ _ _ _ _ => vts_nil) (fun _ _ _ _ _ => (v_add (v_nm 3) (v_tup (va_cons (v_nm 2) va_nil))))))) nd)))
  (vb_one (vs_ret (v_nm 1)))))
/-! ### free_lots: 0 table, 1 found, 2 base, 3 lot -/
abbrev N_free_lots : List Str := ["table", "found", "base", "lot"]
abbrev P_free_lots : List Str := ["table"]
theorem sc_free_lots : FnScope N_free_lots P_free_lots (defScope s_free_lots) := ⟨rfl, rfl, rfl, by decide +kernel, rfl, by decide +kernel, by decide +kernel⟩
def D_free_lots (sp_lots_within : VSp) : DS := (sSeq (sOwn dNewT 1) (sSeq (sFor (dSeqI (dOp dIx (dVar 0) (dC (.int 1)))) (bName 2) (sDrop (dMeth "dict" 1 mUpdT (dCons (dLc [3] (dSeqI (dFn 1 sp_lots_within (dCons (dVar 2) dNil))) (bName 3) dYes (dTup (dCons (dVar 3) (dCons (dC (.bool true)) dNil)))) dNil)))) (sRet (dCall dTupOf (dCons (dCall dSorted (dCons (dVar 1) dNil)) dNil)))))
def T_free_lots (K : PySem.W.Frag) (sp_lots_within : VSp) : TS := (tSeq (tAsg tDNewT (gName 1)) (tSeq (tFor (iSeq K (tOp (rIx K) (tVar 0) (tC (.int 1)))) (gName 2) (tDrop (tBM K "dict" VT.rUpdT (tVar 1) (tCons (tLc (iSeq K (tCB (toSp K 1 sp_lots_within) (tCons (tVar 2) tNil))) (gName 3) tYes (tTup (tCons (tVar 3) (tCons (tC (.bl true)) tNil))) [3]) tNil)))) (tRet (tCB (rTupA K) (tCons (tCB (rSortedA K) (tCons (tVar 1) tNil)) tNil)))))
theorem ok_free_lots {P : Program} {w : World} {K : PySem.W.Frag} {mg : Str → Option Value} {base : Heap} {f : Addr} {fd : FuncData} {sp : VSp} {sp_lots_within : VSp} (hm : mg "free_lots" = some (.ref f)) (F : FunD K "free_lots" "free_lots" (defArgs s_free_lots) (defBody s_free_lots) (defScope s_free_lots) [] [] f fd) (c_lots_within : Def P w K mg base 1 "lots_within" s_lots_within P_lots_within sp_lots_within) (m_tuple : mg "tuple" = none) (m_sorted : mg "sorted" = none)
    (hd : ∀ (ds : List PyData) (β : Bag) (Q : PyData → Bag → Prop), ds.length = 1 → sp ds β Q → D_free_lots sp_lots_within { nx := fun s => Q .none s.β, rt := Q } (initS 4 ds β)) : Def P w K mg base (2) "free_lots" s_free_lots P_free_lots sp :=
  def_of' hm F sc_free_lots (fun _ _ _ _ _ _ us hl => match us, hl with | [_], _ => rfl) (T_free_lots K sp_lots_within) (D_free_lots sp_lots_within) hd fun cd A outer s H hr => have nd := sc_free_lots.nd; (vb_cons (vs_ownN (i := 1) v_newT nd)
  (vb_cons (vs_for PassesOwn.never (by rfl) (vi_seq (v_ix (v_nm 0) v_int (by intro _ _; rfl))) (vg_nm 2 nd) (vb_one (vs_expr (v_meth PySem.F.plainAttrs_dict PySem.F.slot_dict_update PySem.F.type_dict_update (VT.mt_updateT (by rfl) hr.u64) methv_updT (pv 1) (va_cons (VO.e (v_lc (own := [("lot", 3)]) (by rfl) nd (vi_seq (v_call c_lots_within (hr.mono (by decide)) (by rfl) (va_cons (v_nm 2) va_nil))) (blkOk_by (N := N_free_lots) (sc := defScope s_free_lots) (own := [("lot", 3)]) (by decide +kernel)) (fun _ _ _ _ _ => (vg_nm 3 nd)) (fun _ _ _ _ _ => vts_nil) (fun _ _ _ _ _ => (v_tup (va_cons (v_nm 3) (va_cons v_bl va_nil)))))) va_nil)))))
  (vb_one (vs_ret (v_ty call_tuple_of callv_tuple (by rfl) m_tuple bb_tuple (va_cons (VO.e (v_bcO (cr_sortedA (by rfl) hr.u64) callv_sorted (by rfl) m_sorted bb_sorted (va_cons (v_nm 1) va_nil))) va_nil))))))
/-! ### code_of_lot: 0 lot, 1 thing -/
abbrev N_code_of_lot : List Str := ["lot", "thing"]
abbrev P_code_of_lot : List Str := ["lot"]
theorem sc_code_of_lot : FnScope N_code_of_lot P_code_of_lot (defScope s_code_of_lot) := ⟨rfl, rfl, rfl, by decide +kernel, rfl, by decide +kernel, by decide +kernel⟩
def D_code_of_lot : DS := (sRet (dCall dSumOf (dCons (dLc [1] (dSeqI (dVar 0)) (bName 1) dYes (dOp dShl (dC (.int 1)) (dVar 1))) dNil)))
def T_code_of_lot (K : PySem.W.Frag) : TS := (tRet (tCB (rSum K) (tCons (tLc (iSeq K (tVar 0)) (gName 1) tYes (tOp rShlI (tC (.int 1)) (tVar 1)) [1]) tNil)))
theorem ok_code_of_lot {P : Program} {w : World} {K : PySem.W.Frag} {mg : Str → Option Value} {base : Heap} {f : Addr} {fd : FuncData} {sp : VSp} (hm : mg "code_of_lot" = some (.ref f)) (F : FunD K "code_of_lot" "code_of_lot" (defArgs s_code_of_lot) (defBody s_code_of_lot) (defScope s_code_of_lot) [] [] f fd) (m_sum : mg "sum" = none)
    (hd : ∀ (ds : List PyData) (β : Bag) (Q : PyData → Bag → Prop), ds.length = 1 → sp ds β Q → D_code_of_lot { nx := fun s => Q .none s.β, rt := Q } (initS 2 ds β)) : Def P w K mg base (1) "code_of_lot" s_code_of_lot P_code_of_lot sp :=
  def_of' hm F sc_code_of_lot (fun _ _ _ _ _ _ us hl => match us, hl with | [_], _ => rfl) (T_code_of_lot K) (D_code_of_lot) hd fun cd A outer s H hr => have nd := sc_code_of_lot.nd; (vb_one (vs_ret (v_bc (cr_sum (by rfl)) callv_sum (by rfl) m_sum bb_sum (va_cons (VO.e (v_lc (own := [("thing", 1)]) (by rfl) nd (vi_seq (v_nm 0)) (blkOk_by (N := N_code_of_lot) (sc := defScope s_code_of_lot) (own := [("thing", 1)]) (by decide +kernel)) (fun _ _ _ _ _ => (vg_nm 1 nd)) (fun _ _ _ _ _ => vts_nil) (fun _ _ _ _ _ => (v_shl v_int (v_nm 1))))) va_nil))))
/-! ### lot_of_code: 0 code, 1 thing -/
abbrev N_lot_of_code : List Str := ["code", "thing"]
abbrev P_lot_of_code : List Str := ["code"]
theorem sc_lot_of_code : FnScope N_lot_of_code P_lot_of_code (defScope s_lot_of_code) := ⟨rfl, rfl, rfl, by decide +kernel, rfl, by decide +kernel, by decide +kernel⟩
def D_lot_of_code : DS := (sRet (dCall dTupOf (dCons (dLc [1] (dRange1 (dCons (dBits (dVar 0)) dNil)) (bName 1) (dTest (dOp dEq (dOp dAnd (dOp dShr (dVar 0) (dVar 1)) (dC (.int 1))) (dC (.int 1)))) (dVar 1)) dNil)))
def T_lot_of_code (K : PySem.W.Frag) : TS := (tRet (tCB (rTupA K) (tCons (tLc (iRng1 (tCons (tBits (tVar 0)) tNil)) (gName 1) (tTest (tOp (rEqD K) (tOp rAndI (tOp rShrI (tVar 0) (tVar 1)) (tC (.int 1))) (tC (.int 1)))) (tVar 1) [1]) tNil)))
theorem ok_lot_of_code {P : Program} {w : World} {K : PySem.W.Frag} {mg : Str → Option Value} {base : Heap} {f : Addr} {fd : FuncData} {sp : VSp} (hm : mg "lot_of_code" = some (.ref f)) (F : FunD K "lot_of_code" "lot_of_code" (defArgs s_lot_of_code) (defBody s_lot_of_code) (defScope s_lot_of_code) [] [] f fd) (m_tuple : mg "tuple" = none) (m_range : mg "range" = none)
    (hd : ∀ (ds : List PyData) (β : Bag) (Q : PyData → Bag → Prop), ds.length = 1 → sp ds β Q → D_lot_of_code { nx := fun s => Q .none s.β, rt := Q } (initS 2 ds β)) : Def P w K mg base (1) "lot_of_code" s_lot_of_code P_lot_of_code sp :=
  def_of' hm F sc_lot_of_code (fun _ _ _ _ _ _ us hl => match us, hl with | [_], _ => rfl) (T_lot_of_code K) (D_lot_of_code) hd fun cd A outer s H hr => have nd := sc_lot_of_code.nd; (vb_one (vs_ret (v_ty call_tuple_of callv_tuple (by rfl) m_tuple bb_tuple (va_cons (VO.e (v_lc (own := [("thing", 1)]) (by rfl) nd (vi_range1 (by rfl) m_range (va_cons (v_bits (v_nm 0)) va_nil)) (blkOk_by (N := N_lot_of_code) (sc := defScope s_lot_of_code) (own := [("thing", 1)]) (by decide +kernel)) (fun _ _ _ _ _ => (vg_nm 1 nd)) (fun _ _ _ _ _ => (vts_one (vt_cmp (op_eqD hr.u64) opv_eq (v_band (v_shr (v_nm 0) (v_nm 1)) v_int) v_int (nomark _)))) (fun _ _ _ _ _ => (v_nm 1)))) va_nil))))
/-! ### code_ranks: 0 table, 1 free, 2 found, 3 code, 4 less, 5 lot, 6 thing -/
abbrev N_code_ranks : List Str := ["table", "free", "found", "code", "less", "lot", "thing"]
abbrev P_code_ranks : List Str := ["table"]
theorem sc_code_ranks : FnScope N_code_ranks P_code_ranks (defScope s_code_ranks) := ⟨rfl, rfl, rfl, by decide +kernel, rfl, by decide +kernel, by decide +kernel⟩
def D_code_ranks (sp_free_lots : VSp) (sp_code_of_lot : VSp) : DS := (sSeq (sAsg (dCall dDictK (dCons (dLc [5] (dSeqI (dFn 1 sp_free_lots (dCons (dVar 0) dNil))) (bName 5) dYes (dTup (dCons (dFn 1 sp_code_of_lot (dCons (dVar 5) dNil)) (dCons (dCall dLen (dCons (dVar 5) dNil)) dNil)))) dNil)) (bName 1)) (sSeq (sOwn (dLst dNil) 2) (sSeq (sFor (dRange1 (dCons (dOp dShl (dC (.int 1)) (dOp dIx (dVar 0) (dC (.int 0)))) dNil)) (bName 3) (sSeq (sAsg (dLc [6] (dRange1 (dCons (dOp dIx (dVar 0) (dC (.int 0))) dNil)) (bName 6) (dTest (dOp dEq (dOp dAnd (dOp dShr (dVar 3) (dVar 6)) (dC (.int 1))) (dC (.int 1)))) (dIxB 2 (dOp dXor (dVar 3) (dOp dShl (dC (.int 1)) (dVar 6))))) (bName 4)) (sDrop (dMeth "list" 2 mAppend (dCons (dIf (dTest (dOp (dIn false) (dVar 3) (dVar 1))) (dOp dDGet (dVar 1) (dVar 3)) (dCall dMaxOf (dCons (dVar 4) dNil))) dNil))))) (sRet (dVar 2)))))
def T_code_ranks (K : PySem.W.Frag) (sp_free_lots : VSp) (sp_code_of_lot : VSp) : TS := (tSeq (tAsg (tCB (rDictP K) (tCons (tLc (iSeq K (tCB (toSp K 1 sp_free_lots) (tCons (tVar 0) tNil))) (gName 5) tYes (tTup (tCons (tCB (toSp K 1 sp_code_of_lot) (tCons (tVar 5) tNil)) (tCons (tCB (rLenA K) (tCons (tVar 5) tNil)) tNil))) [5]) tNil)) (gName 1)) (tSeq (tAsg (tLst tNil) (gName 2)) (tSeq (tFor (iRng1 (tCons (tOp rShlI (tC (.int 1)) (tOp (rIx K) (tVar 0) (tC (.int 0)))) tNil)) (gName 3) (tSeq (tAsg (tLc (iRng1 (tCons (tOp (rIx K) (tVar 0) (tC (.int 0))) tNil)) (gName 6) (tTest (tOp (rEqD K) (tOp rAndI (tOp rShrI (tVar 3) (tVar 6)) (tC (.int 1))) (tC (.int 1)))) (tOp (rIx K) (tVar 2) (tOp rXorI (tVar 3) (tOp rShlI (tC (.int 1)) (tVar 6)))) [6]) (gName 4)) (tDrop (tBM K "list" rAppend (tVar 2) (tCons (tIf (tTest (tOp (rInA K) (tVar 3) (tVar 1))) (tOp rDGet (tVar 1) (tVar 3)) (tCB (rMax K) (tCons (tVar 4) tNil))) tNil))))) (tRet (tVar 2)))))
theorem ok_code_ranks {P : Program} {w : World} {K : PySem.W.Frag} {mg : Str → Option Value} {base : Heap} {f : Addr} {fd : FuncData} {sp : VSp} {sp_free_lots : VSp} {sp_code_of_lot : VSp} (hm : mg "code_ranks" = some (.ref f)) (F : FunD K "code_ranks" "code_ranks" (defArgs s_code_ranks) (defBody s_code_ranks) (defScope s_code_ranks) [] [] f fd) (c_free_lots : Def P w K mg base 2 "free_lots" s_free_lots P_free_lots sp_free_lots) (c_code_of_lot : Def P w K mg base 1 "code_of_lot" s_code_of_lot P_code_of_lot sp_code_of_lot) (m_range : mg "range" = none) (m_max : mg "max" = none) (m_dict : mg "dict" = none) (m_len : mg "len" = none)
    (hd : ∀ (ds : List PyData) (β : Bag) (Q : PyData → Bag → Prop), ds.length = 1 → sp ds β Q → D_code_ranks sp_free_lots sp_code_of_lot { nx := fun s => Q .none s.β, rt := Q } (initS 7 ds β)) : Def P w K mg base (3) "code_ranks" s_code_ranks P_code_ranks sp :=
  def_of' hm F sc_code_ranks (fun _ _ _ _ _ _ us hl => match us, hl with | [_], _ => rfl) (T_code_ranks K sp_free_lots sp_code_of_lot) (D_code_ranks sp_free_lots sp_code_of_lot) hd fun cd A outer s H hr => have nd := sc_code_ranks.nd; (vb_cons (vs_setN (i := 1) (VO.e (v_tyO (call_dictP (by rfl)) callv_dictK (by rfl) m_dict bb_dict (va_cons (VO.e (v_lc (own := [("lot", 5)]) (by rfl) nd (vi_seq (v_call c_free_lots (hr.mono (by decide)) (by rfl) (va_cons (v_nm 0) va_nil))) (blkOk_by (N := N_code_ranks) (sc := defScope s_code_ranks) (own := [("lot", 5)]) (by decide +kernel)) (fun _ _ _ _ _ => (vg_nm 5 nd)) (fun _ _ _ _ _ => vts_nil) (fun _ _ _ _ _ => (v_tup (va_cons (v_call c_code_of_lot (hr.mono (by decide)) (by rfl) (va_cons (v_nm 5) va_nil)) (va_cons (v_bc call_len_seq callv_len (by rfl) m_len bb_len (va_cons (v_nm 5) va_nil)) va_nil)))))) va_nil))) nd)
  (vb_cons (vs_ownN (i := 2) (v_lst va_nil) nd)
  (vb_cons (vs_for PassesOwn.never (by rfl) (vi_range1 (by rfl) m_range (va_cons (v_shl v_int (v_ix (v_nm 0) v_int (by intro _ _; rfl))) va_nil)) (vg_nm 3 nd) (vb_cons (vs_lcSet (i := 4) (own := [("thing", 6)]) (by rfl) nd (by rfl) (by rfl) (sw_true (by rfl) (by rfl) (by rfl) (by decide +kernel)) (vi_range1 (by rfl) m_range (va_cons (v_ix (v_nm 0) v_int (by intro _ _; rfl)) va_nil)) (blkOk_by (N := N_code_ranks) (sc := defScope s_code_ranks) (own := [("thing", 6)]) (by decide +kernel)) (fun _ _ _ _ _ => (vg_nm 6 nd)) (fun _ _ _ _ _ => (vts_one (vt_cmp (op_eqD hr.u64) opv_eq (v_band (v_shr (v_nm 3) (v_nm 6)) v_int) v_int (nomark _)))) (fun _ _ _ _ _ => (v_ixB (pv 2) (v_xor (v_nm 3) (v_shl v_int (v_nm 6))) (by intro _ _; rfl))))
  (vb_one (vs_expr (v_meth PySem.F.plainAttrs_list PySem.F.slot_list_append PySem.F.type_list_append app_m methv_append (pv 2) (va_cons (v_ifExp (vt_cmp (op_inA hr.u65) opv_in (v_nm 3) (v_nm 1) (by rfl)) (v_dget hr.u64 (v_nm 1) (v_nm 3) (by intro _ _; rfl)) (v_bc (cr_max (by rfl)) callv_max (by rfl) m_max bb_max (va_cons (v_nm 4) va_nil))) va_nil))))))
  (vb_one (vs_ret (v_nm 2))))))
/-! ### hull_code: 0 n, 1 ranks, 2 code, 3 thing -/
abbrev N_hull_code : List Str := ["n", "ranks", "code", "thing"]
abbrev P_hull_code : List Str := ["n", "ranks", "code"]
theorem sc_hull_code : FnScope N_hull_code P_hull_code (defScope s_hull_code) := ⟨rfl, rfl, rfl, by decide +kernel, rfl, by decide +kernel, by decide +kernel⟩
def D_hull_code : DS := (sRet (dOp dOr (dVar 2) (dCall dSumOf (dCons (dLc [3] (dRange1 (dCons (dVar 0) dNil)) (bName 3) (dTest (dOp dEq (dOp dIx (dVar 1) (dOp dOr (dVar 2) (dOp dShl (dC (.int 1)) (dVar 3)))) (dOp dIx (dVar 1) (dVar 2)))) (dOp dShl (dC (.int 1)) (dVar 3))) dNil))))
def T_hull_code (K : PySem.W.Frag) : TS := (tRet (tOp rOrI (tVar 2) (tCB (rSum K) (tCons (tLc (iRng1 (tCons (tVar 0) tNil)) (gName 3) (tTest (tOp (rEqD K) (tOp (rIx K) (tVar 1) (tOp rOrI (tVar 2) (tOp rShlI (tC (.int 1)) (tVar 3)))) (tOp (rIx K) (tVar 1) (tVar 2)))) (tOp rShlI (tC (.int 1)) (tVar 3)) [3]) tNil))))
theorem ok_hull_code {P : Program} {w : World} {K : PySem.W.Frag} {mg : Str → Option Value} {base : Heap} {f : Addr} {fd : FuncData} {sp : VSp} (hm : mg "hull_code" = some (.ref f)) (F : FunD K "hull_code" "hull_code" (defArgs s_hull_code) (defBody s_hull_code) (defScope s_hull_code) [] [] f fd) (m_sum : mg "sum" = none) (m_range : mg "range" = none)
    (hd : ∀ (ds : List PyData) (β : Bag) (Q : PyData → Bag → Prop), ds.length = 3 → sp ds β Q → D_hull_code { nx := fun s => Q .none s.β, rt := Q } (initS 4 ds β)) : Def P w K mg base (1) "hull_code" s_hull_code P_hull_code sp :=
  def_of' hm F sc_hull_code (fun _ _ _ _ _ _ us hl => match us, hl with | [_, _, _], _ => rfl) (T_hull_code K) (D_hull_code) hd fun cd A outer s H hr => have nd := sc_hull_code.nd; (vb_one (vs_ret (v_bor (v_nm 2) (v_bc (cr_sum (by rfl)) callv_sum (by rfl) m_sum bb_sum (va_cons (VO.e (v_lc (own := [("thing", 3)]) (by rfl) nd (vi_range1 (by rfl) m_range (va_cons (v_nm 0) va_nil)) (blkOk_by (N := N_hull_code) (sc := defScope s_hull_code) (own := [("thing", 3)]) (by decide +kernel)) (fun _ _ _ _ _ => (vg_nm 3 nd)) (fun _ _ _ _ _ => (vts_one (vt_cmp (op_eqD hr.u64) opv_eq (v_ix (v_nm 1) (v_bor (v_nm 2) (v_shl v_int (v_nm 3))) (by intro _ _; rfl)) (v_ix (v_nm 1) (v_nm 2) (by intro _ _; rfl)) (nomark _)))) (fun _ _ _ _ _ => (v_shl v_int (v_nm 3))))) va_nil)))))
/-! ### least_flat: 0 table, 1 lot -/
abbrev N_least_flat : List Str := ["table", "lot"]
abbrev P_least_flat : List Str := ["table", "lot"]
theorem sc_least_flat : FnScope N_least_flat P_least_flat (defScope s_least_flat) := ⟨rfl, rfl, rfl, by decide +kernel, rfl, by decide +kernel, by decide +kernel⟩
def D_least_flat (sp_lot_of_code : VSp) (sp_hull_code : VSp) (sp_code_ranks : VSp) (sp_code_of_lot : VSp) : DS := (sRet (dFn 1 sp_lot_of_code (dCons (dFn 3 sp_hull_code (dCons (dOp dIx (dVar 0) (dC (.int 0))) (dCons (dFn 1 sp_code_ranks (dCons (dVar 0) dNil)) (dCons (dFn 1 sp_code_of_lot (dCons (dVar 1) dNil)) dNil)))) dNil)))
def T_least_flat (K : PySem.W.Frag) (sp_lot_of_code : VSp) (sp_hull_code : VSp) (sp_code_ranks : VSp) (sp_code_of_lot : VSp) : TS := (tRet (tCB (toSp K 1 sp_lot_of_code) (tCons (tCB (toSp K 3 sp_hull_code) (tCons (tOp (rIx K) (tVar 0) (tC (.int 0))) (tCons (tCB (toSp K 1 sp_code_ranks) (tCons (tVar 0) tNil)) (tCons (tCB (toSp K 1 sp_code_of_lot) (tCons (tVar 1) tNil)) tNil)))) tNil)))
theorem ok_least_flat {P : Program} {w : World} {K : PySem.W.Frag} {mg : Str → Option Value} {base : Heap} {f : Addr} {fd : FuncData} {sp : VSp} {sp_lot_of_code : VSp} {sp_hull_code : VSp} {sp_code_ranks : VSp} {sp_code_of_lot : VSp} (hm : mg "least_flat" = some (.ref f)) (F : FunD K "least_flat" "least_flat" (defArgs s_least_flat) (defBody s_least_flat) (defScope s_least_flat) [] [] f fd) (c_lot_of_code : Def P w K mg base 1 "lot_of_code" s_lot_of_code P_lot_of_code sp_lot_of_code) (c_hull_code : Def P w K mg base 1 "hull_code" s_hull_code P_hull_code sp_hull_code) (c_code_ranks : Def P w K mg base 3 "code_ranks" s_code_ranks P_code_ranks sp_code_ranks) (c_code_of_lot : Def P w K mg base 1 "code_of_lot" s_code_of_lot P_code_of_lot sp_code_of_lot)
    (hd : ∀ (ds : List PyData) (β : Bag) (Q : PyData → Bag → Prop), ds.length = 2 → sp ds β Q → D_least_flat sp_lot_of_code sp_hull_code sp_code_ranks sp_code_of_lot { nx := fun s => Q .none s.β, rt := Q } (initS 2 ds β)) : Def P w K mg base (4) "least_flat" s_least_flat P_least_flat sp :=
  def_of' hm F sc_least_flat (fun _ _ _ _ _ _ us hl => match us, hl with | [_, _], _ => rfl) (T_least_flat K sp_lot_of_code sp_hull_code sp_code_ranks sp_code_of_lot) (D_least_flat sp_lot_of_code sp_hull_code sp_code_ranks sp_code_of_lot) hd fun cd A outer s H hr => have nd := sc_least_flat.nd; (vb_one (vs_ret (v_call c_lot_of_code (hr.mono (by decide)) (by rfl) (va_cons (v_call c_hull_code (hr.mono (by decide)) (by rfl) (va_cons (v_ix (v_nm 0) v_int (by intro _ _; rfl)) (va_cons (v_call c_code_ranks (hr.mono (by decide)) (by rfl) (va_cons (v_nm 0) va_nil)) (va_cons (v_call c_code_of_lot (hr.mono (by decide)) (by rfl) (va_cons (v_nm 1) va_nil)) va_nil)))) va_nil))))
/-! ### is_flat: 0 table, 1 lot -/
abbrev N_is_flat : List Str := ["table", "lot"]
abbrev P_is_flat : List Str := ["table", "lot"]
theorem sc_is_flat : FnScope N_is_flat P_is_flat (defScope s_is_flat) := ⟨rfl, rfl, rfl, by decide +kernel, rfl, by decide +kernel, by decide +kernel⟩
def D_is_flat (sp_least_flat : VSp) : DS := (sRet (dOp dEq (dFn 2 sp_least_flat (dCons (dVar 0) (dCons (dVar 1) dNil))) (dVar 1)))
def T_is_flat (K : PySem.W.Frag) (sp_least_flat : VSp) : TS := (tRet (tOp (rEqD K) (tCB (toSp K 2 sp_least_flat) (tCons (tVar 0) (tCons (tVar 1) tNil))) (tVar 1)))
theorem ok_is_flat {P : Program} {w : World} {K : PySem.W.Frag} {mg : Str → Option Value} {base : Heap} {f : Addr} {fd : FuncData} {sp : VSp} {sp_least_flat : VSp} (hm : mg "is_flat" = some (.ref f)) (F : FunD K "is_flat" "is_flat" (defArgs s_is_flat) (defBody s_is_flat) (defScope s_is_flat) [] [] f fd) (c_least_flat : Def P w K mg base 4 "least_flat" s_least_flat P_least_flat sp_least_flat)
    (hd : ∀ (ds : List PyData) (β : Bag) (Q : PyData → Bag → Prop), ds.length = 2 → sp ds β Q → D_is_flat sp_least_flat { nx := fun s => Q .none s.β, rt := Q } (initS 2 ds β)) : Def P w K mg base (5) "is_flat" s_is_flat P_is_flat sp :=
  def_of' hm F sc_is_flat (fun _ _ _ _ _ _ us hl => match us, hl with | [_, _], _ => rfl) (T_is_flat K sp_least_flat) (D_is_flat sp_least_flat) hd fun cd A outer s H hr => have nd := sc_is_flat.nd; (vb_one (vs_ret (v_cmp (op_eqD hr.u64) opv_eq (v_call c_least_flat (hr.mono (by decide)) (by rfl) (va_cons (v_nm 0) (va_cons (v_nm 1) va_nil))) (v_nm 1) (nomark _))))
/-! ### ranked_flats: 0 table, 1 ranks, 2 found, 3 code, 4 rank -/
abbrev N_ranked_flats : List Str := ["table", "ranks", "found", "code", "rank"]
abbrev P_ranked_flats : List Str := ["table"]
theorem sc_ranked_flats : FnScope N_ranked_flats P_ranked_flats (defScope s_ranked_flats) := ⟨rfl, rfl, rfl, by decide +kernel, rfl, by decide +kernel, by decide +kernel⟩
def D_ranked_flats (sp_hull_code : VSp) (sp_lot_of_code : VSp) (sp_code_ranks : VSp) : DS := (sSeq (sPar [1, 2] (dmSh (dFn 1 sp_code_ranks (dCons (dVar 0) dNil)) (dmOw (dLst dNil) dmNil))) (sSeq (sFor (dEnumI (dCons (dVar 1) dNil)) (bSeq 2 (bCons (bName 3) (bCons (bName 4) bNil))) (sIf (dTest (dOp dEq (dFn 3 sp_hull_code (dCons (dOp dIx (dVar 0) (dC (.int 0))) (dCons (dVar 1) (dCons (dVar 3) dNil)))) (dVar 3))) (sDrop (dMeth "list" 2 mAppend (dCons (dTup (dCons (dFn 1 sp_lot_of_code (dCons (dVar 3) dNil)) (dCons (dVar 4) dNil))) dNil))) sNext)) (sRet (dCall dSorted (dCons (dVar 2) dNil)))))
def T_ranked_flats (K : PySem.W.Frag) (sp_hull_code : VSp) (sp_lot_of_code : VSp) (sp_code_ranks : VSp) : TS := (tSeq (tPar 1 2 (tCons (tCB (toSp K 1 sp_code_ranks) (tCons (tVar 0) tNil)) (tCons (tLst tNil) tNil))) (tSeq (tFor (iEnum K (tCons (tVar 1) tNil)) (gSeq K 2 (gCons (gName 3) (gCons (gName 4) gNil))) (tIfS (tTest (tOp (rEqD K) (tCB (toSp K 3 sp_hull_code) (tCons (tOp (rIx K) (tVar 0) (tC (.int 0))) (tCons (tVar 1) (tCons (tVar 3) tNil)))) (tVar 3))) (tDrop (tBM K "list" rAppend (tVar 2) (tCons (tTup (tCons (tCB (toSp K 1 sp_lot_of_code) (tCons (tVar 3) tNil)) (tCons (tVar 4) tNil))) tNil))) tNext)) (tRet (tCB (rSortedA K) (tCons (tVar 2) tNil)))))
theorem ok_ranked_flats {P : Program} {w : World} {K : PySem.W.Frag} {mg : Str → Option Value} {base : Heap} {f : Addr} {fd : FuncData} {sp : VSp} {sp_hull_code : VSp} {sp_lot_of_code : VSp} {sp_code_ranks : VSp} (hm : mg "ranked_flats" = some (.ref f)) (F : FunD K "ranked_flats" "ranked_flats" (defArgs s_ranked_flats) (defBody s_ranked_flats) (defScope s_ranked_flats) [] [] f fd) (c_hull_code : Def P w K mg base 1 "hull_code" s_hull_code P_hull_code sp_hull_code) (c_lot_of_code : Def P w K mg base 1 "lot_of_code" s_lot_of_code P_lot_of_code sp_lot_of_code) (c_code_ranks : Def P w K mg base 3 "code_ranks" s_code_ranks P_code_ranks sp_code_ranks) (m_sorted : mg "sorted" = none) (m_enumerate : mg "enumerate" = none)
    (hd : ∀ (ds : List PyData) (β : Bag) (Q : PyData → Bag → Prop), ds.length = 1 → sp ds β Q → D_ranked_flats sp_hull_code sp_lot_of_code sp_code_ranks { nx := fun s => Q .none s.β, rt := Q } (initS 5 ds β)) : Def P w K mg base (4) "ranked_flats" s_ranked_flats P_ranked_flats sp :=
  def_of' hm F sc_ranked_flats (fun _ _ _ _ _ _ us hl => match us, hl with | [_], _ => rfl) (T_ranked_flats K sp_hull_code sp_lot_of_code sp_code_ranks) (D_ranked_flats sp_hull_code sp_lot_of_code sp_code_ranks) hd fun cd A outer s H hr => have nd := sc_ranked_flats.nd; (vb_cons (vs_par (i := 1) (j := 2) (by rfl) nd (by rfl) (by rfl) (by decide) (by rfl) (by rfl) (vm_sh (v_call c_code_ranks (hr.mono (by decide)) (by rfl) (va_cons (v_nm 0) va_nil)) (vm_ow (v_lst va_nil) vm_nil)) (by rfl))
  (vb_cons (vs_for PassesOwn.never (by rfl) (vi_enum (by rfl) m_enumerate (va_cons (v_nm 1) va_nil)) (vg_seq (by rfl) (vgs_cons (vg_nm 3 nd) (vgs_cons (vg_nm 4 nd) vgs_nil))) (vb_one (vs_if (vt_cmp (op_eqD hr.u64) opv_eq (v_call c_hull_code (hr.mono (by decide)) (by rfl) (va_cons (v_ix (v_nm 0) v_int (by intro _ _; rfl)) (va_cons (v_nm 1) (va_cons (v_nm 3) va_nil)))) (v_nm 3) (nomark _)) (vb_one (vs_expr (v_meth PySem.F.plainAttrs_list PySem.F.slot_list_append PySem.F.type_list_append app_m methv_append (pv 2) (va_cons (v_tup (va_cons (v_call c_lot_of_code (hr.mono (by decide)) (by rfl) (va_cons (v_nm 3) va_nil)) (va_cons (v_nm 4) va_nil))) va_nil)))) vb_nil)))
  (vb_one (vs_ret (VO.e (v_bcO (cr_sortedA (by rfl) hr.u64) callv_sorted (by rfl) m_sorted bb_sorted (va_cons (v_nm 2) va_nil)))))))
/-! ### all_flats: 0 table, 1 flat, 2 rank -/
abbrev N_all_flats : List Str := ["table", "flat", "rank"]
abbrev P_all_flats : List Str := ["table"]
theorem sc_all_flats : FnScope N_all_flats P_all_flats (defScope s_all_flats) := ⟨rfl, rfl, rfl, by decide +kernel, rfl, by decide +kernel, by decide +kernel⟩
def D_all_flats (sp_ranked_flats : VSp) : DS := (sRet (dCall dTupOf (dCons (dLc [1, 2] (dSeqI (dFn 1 sp_ranked_flats (dCons (dVar 0) dNil))) (bSeq 2 (bCons (bName 1) (bCons (bName 2) bNil))) dYes (dVar 1)) dNil)))
def T_all_flats (K : PySem.W.Frag) (sp_ranked_flats : VSp) : TS := (tRet (tCB (rTupA K) (tCons (tLc (iSeq K (tCB (toSp K 1 sp_ranked_flats) (tCons (tVar 0) tNil))) (gSeq K 2 (gCons (gName 1) (gCons (gName 2) gNil))) tYes (tVar 1) [1, 2]) tNil)))
theorem ok_all_flats {P : Program} {w : World} {K : PySem.W.Frag} {mg : Str → Option Value} {base : Heap} {f : Addr} {fd : FuncData} {sp : VSp} {sp_ranked_flats : VSp} (hm : mg "all_flats" = some (.ref f)) (F : FunD K "all_flats" "all_flats" (defArgs s_all_flats) (defBody s_all_flats) (defScope s_all_flats) [] [] f fd) (c_ranked_flats : Def P w K mg base 4 "ranked_flats" s_ranked_flats P_ranked_flats sp_ranked_flats) (m_tuple : mg "tuple" = none)
    (hd : ∀ (ds : List PyData) (β : Bag) (Q : PyData → Bag → Prop), ds.length = 1 → sp ds β Q → D_all_flats sp_ranked_flats { nx := fun s => Q .none s.β, rt := Q } (initS 3 ds β)) : Def P w K mg base (5) "all_flats" s_all_flats P_all_flats sp :=
  def_of' hm F sc_all_flats (fun _ _ _ _ _ _ us hl => match us, hl with | [_], _ => rfl) (T_all_flats K sp_ranked_flats) (D_all_flats sp_ranked_flats) hd fun cd A outer s H hr => have nd := sc_all_flats.nd; (vb_one (vs_ret (v_ty call_tuple_of callv_tuple (by rfl) m_tuple bb_tuple (va_cons (VO.e (v_lc (own := [("flat", 1), ("rank", 2)]) (by rfl) nd (vi_seq (v_call c_ranked_flats (hr.mono (by decide)) (by rfl) (va_cons (v_nm 0) va_nil))) (blkOk_by (N := N_all_flats) (sc := defScope s_all_flats) (own := [("flat", 1), ("rank", 2)]) (by decide +kernel)) (fun _ _ _ _ _ => (vg_seq (by rfl) (vgs_cons (vg_nm 1 nd) (vgs_cons (vg_nm 2 nd) vgs_nil)))) (fun _ _ _ _ _ => vts_nil) (fun _ _ _ _ _ => (v_nm 1)))) va_nil))))
/-! ### flats_of_rank: 0 table, 1 rank, 2 flat, 3 own -/
abbrev N_flats_of_rank : List Str := ["table", "rank", "flat", "own"]
abbrev P_flats_of_rank : List Str := ["table", "rank"]
theorem sc_flats_of_rank : FnScope N_flats_of_rank P_flats_of_rank (defScope s_flats_of_rank) := ⟨rfl, rfl, rfl, by decide +kernel, rfl, by decide +kernel, by decide +kernel⟩
def D_flats_of_rank (sp_ranked_flats : VSp) : DS := (sRet (dCall dTupOf (dCons (dLc [2, 3] (dSeqI (dFn 1 sp_ranked_flats (dCons (dVar 0) dNil))) (bSeq 2 (bCons (bName 2) (bCons (bName 3) bNil))) (dTest (dOp dEq (dVar 3) (dVar 1))) (dVar 2)) dNil)))
def T_flats_of_rank (K : PySem.W.Frag) (sp_ranked_flats : VSp) : TS := (tRet (tCB (rTupA K) (tCons (tLc (iSeq K (tCB (toSp K 1 sp_ranked_flats) (tCons (tVar 0) tNil))) (gSeq K 2 (gCons (gName 2) (gCons (gName 3) gNil))) (tTest (tOp (rEqD K) (tVar 3) (tVar 1))) (tVar 2) [2, 3]) tNil)))
theorem ok_flats_of_rank {P : Program} {w : World} {K : PySem.W.Frag} {mg : Str → Option Value} {base : Heap} {f : Addr} {fd : FuncData} {sp : VSp} {sp_ranked_flats : VSp} (hm : mg "flats_of_rank" = some (.ref f)) (F : FunD K "flats_of_rank" "flats_of_rank" (defArgs s_flats_of_rank) (defBody s_flats_of_rank) (defScope s_flats_of_rank) [] [] f fd) (c_ranked_flats : Def P w K mg base 4 "ranked_flats" s_ranked_flats P_ranked_flats sp_ranked_flats) (m_tuple : mg "tuple" = none)
    (hd : ∀ (ds : List PyData) (β : Bag) (Q : PyData → Bag → Prop), ds.length = 2 → sp ds β Q → D_flats_of_rank sp_ranked_flats { nx := fun s => Q .none s.β, rt := Q } (initS 4 ds β)) : Def P w K mg base (5) "flats_of_rank" s_flats_of_rank P_flats_of_rank sp :=
  def_of' hm F sc_flats_of_rank (fun _ _ _ _ _ _ us hl => match us, hl with | [_, _], _ => rfl) (T_flats_of_rank K sp_ranked_flats) (D_flats_of_rank sp_ranked_flats) hd fun cd A outer s H hr => have nd := sc_flats_of_rank.nd; (vb_one (vs_ret (v_ty call_tuple_of callv_tuple (by rfl) m_tuple bb_tuple (va_cons (VO.e (v_lc (own := [("flat", 2), ("own", 3)]) (by rfl) nd (vi_seq (v_call c_ranked_flats (hr.mono (by decide)) (by rfl) (va_cons (v_nm 0) va_nil))) (blkOk_by (N := N_flats_of_rank) (sc := defScope s_flats_of_rank) (own := [("flat", 2), ("own", 3)]) (by decide +kernel)) (fun _ _ _ _ _ => (vg_seq (by rfl) (vgs_cons (vg_nm 2 nd) (vgs_cons (vg_nm 3 nd) vgs_nil)))) (fun _ _ _ _ _ => (vts_one (vt_cmp (op_eqD hr.u64) opv_eq (v_nm 3) (v_nm 1) (nomark _)))) (fun _ _ _ _ _ => (v_nm 2)))) va_nil))))
/-! ### _law_own_bag: 0 script, 1 cells, 2 cell, 3 mixed -/
abbrev N__law_own_bag : List Str := ["script", "cells", "cell", "mixed"]
abbrev P__law_own_bag : List Str := ["script"]
theorem sc__law_own_bag : FnScope N__law_own_bag P__law_own_bag (defScope s__law_own_bag) := ⟨rfl, rfl, rfl, by decide +kernel, rfl, by decide +kernel, by decide +kernel⟩
def D__law_own_bag : DS := (sSeq (sAsg (dLc [2] (dSeqI (dScrSl (dVar 0) dNoP (dPart (dC (.int 63))))) (bName 2) dYes (dOp dMod (dCall dAbs (dCons (dCall dInt (dCons (dVar 2) dNil)) dNil)) (dOp dPow (dC (.int 10)) (dC (.int 57))))) (bName 1)) (sSeq (sAsg (dOp dAdd (dC (.int 2468)) (dCall dLen (dCons (dVar 1) dNil))) (bName 3)) (sSeq (sFor (dSeqI (dVar 1)) (bName 2) (sAsg (dOp dMod (dCall dInt (dCons (dOp dAdd (dOp dAdd (dOp dMul (dVar 3) (dC (.int 48271))) (dOp dMod (dCall dInt (dCons (dVar 2) dNil)) (dC (.int 2147483629)))) (dC (.int 7))) dNil)) (dC (.int 2147483647))) (bName 3))) (sBagRet (dLstRev (dCall dListOf (dCons (dVar 1) dNil))) (dC (.int 0)) (dVar 3)))))
def T__law_own_bag (K : PySem.W.Frag) : TS := (tSeq (tAsg (tLc (iSeq K (tSl (rSlL K) (tVar 0) tNoPart (tPart (tC (.int 63))))) (gName 2) tYes (tOp rModI (tCB rAbsI (tCons (tCB rInt1 (tCons (tVar 2) tNil)) tNil)) (tOp rPowI (tC (.int 10)) (tC (.int 57)))) [2]) (gName 1)) (tSeq (tAsg (tOp (rAddA K) (tC (.int 2468)) (tCB (rLenA K) (tCons (tVar 1) tNil))) (gName 3)) (tSeq (tFor (iSeq K (tVar 1)) (gName 2) (tAsg (tOp rModI (tCB rInt1 (tCons (tOp (rAddA K) (tOp (rAddA K) (tOp rMulI (tVar 3) (tC (.int 48271))) (tOp rModI (tCB rInt1 (tCons (tVar 2) tNil)) (tC (.int 2147483629)))) (tC (.int 7))) tNil)) (tC (.int 2147483647))) (gName 3))) (tRet (tLst (tCons (VT.tLstRev K (tCB (rListA K) (tCons (tVar 1) tNil))) (tCons (tC (.int 0)) (tCons (tVar 3) tNil))))))))
theorem ok__law_own_bag {P : Program} {w : World} {K : PySem.W.Frag} {mg : Str → Option Value} {base : Heap} {f : Addr} {fd : FuncData} {sp : VSp} (hm : mg "_law_own_bag" = some (.ref f)) (F : FunD K "_law_own_bag" "_law_own_bag" (defArgs s__law_own_bag) (defBody s__law_own_bag) (defScope s__law_own_bag) [] [] f fd) (m_list : mg "list" = none) (m_reversed : mg "reversed" = none) (m_int : mg "int" = none) (m_len : mg "len" = none) (m_abs : mg "abs" = none)
    (hd : ∀ (ds : List PyData) (β : Bag) (Q : PyData → Bag → Prop), ds.length = 1 → sp ds β Q → D__law_own_bag { nx := fun s => Q .none s.β, rt := Q } (initS 4 ds β)) : Def P w K mg base (1) "_law_own_bag" s__law_own_bag P__law_own_bag sp :=
  def_of' hm F sc__law_own_bag (fun _ _ _ _ _ _ us hl => match us, hl with | [_], _ => rfl) (T__law_own_bag K) (D__law_own_bag) hd fun cd A outer s H hr => have nd := sc__law_own_bag.nd; (vb_cons (vs_lcSet (i := 1) (own := [("cell", 2)]) (by rfl) nd (by rfl) (by rfl) (sw_true (by rfl) (by rfl) (by rfl) (by decide +kernel)) (vi_seq (VO.e (v_scr (v_nm 0) vp_none (vp_some v_int)))) (blkOk_by (N := N__law_own_bag) (sc := defScope s__law_own_bag) (own := [("cell", 2)]) (by decide +kernel)) (fun _ _ _ _ _ => (vg_nm 2 nd)) (fun _ _ _ _ _ => vts_nil) (fun _ _ _ _ _ => (v_mod (v_bc call_abs callv_abs (by rfl) m_abs bb_abs (va_cons (v_ty call_int1 callv_int (by rfl) m_int bb_int (va_cons (v_nm 2) va_nil)) va_nil)) (v_pow v_int v_int))))
  (vb_cons (vs_setN (i := 3) (v_add v_int (v_bc call_len_seq callv_len (by rfl) m_len bb_len (va_cons (v_nm 1) va_nil))) nd)
  (vb_cons (vs_for PassesOwn.never (by rfl) (vi_seq (v_nm 1)) (vg_nm 2 nd) (vb_one (vs_setN (i := 3) (v_mod (v_ty call_int1 callv_int (by rfl) m_int bb_int (va_cons (v_add (v_add (v_mul (v_nm 3) v_int) (v_mod (v_ty call_int1 callv_int (by rfl) m_int bb_int (va_cons (v_nm 2) va_nil)) v_int)) v_int) va_nil)) v_int) nd)))
  (vb_one (vs_retBag (v_listRev (by rfl) (by rfl) m_list (by rfl) m_reversed (VO.e (v_tyO call_list_of callv_list (by rfl) m_list bb_list (va_cons (v_nm 1) va_nil)))) v_int (v_nm 3))))))
/-! ### _law_draw: 0 bag, 1 below, 2 cell, 3 found -/
abbrev N__law_draw : List Str := ["bag", "below", "cell", "found"]
abbrev P__law_draw : List Str := ["bag", "below"]
theorem sc__law_draw : FnScope N__law_draw P__law_draw (defScope s__law_draw) := ⟨rfl, rfl, rfl, by decide +kernel, rfl, by decide +kernel, by decide +kernel⟩
def D__law_draw : DS := (sSeq (sWhile (dAndT (dTest (dOp dEq (dBagAt 0 1) (dC (.int 0)))) (dBagNe 0)) (sSeq (sAsg (dBagPop 0) (bName 2)) (sBagPut (dIf (dTest (dOp dGt (dVar 2) (dOp dPow (dC (.int 10)) (dC (.int 9))))) (dVar 2) (dC (.int 0))) 0 1))) (sSeq (sIf (dTest (dOp dGt (dBagAt 0 1) (dC (.int 0)))) (sSeq (sAsg (dOp dMod (dCall dInt (dCons (dBagAt 0 1) dNil)) (dVar 1)) (bName 3)) (sSeq (sBagPut (dOp dFdiv (dBagAt 0 1) (dVar 1)) 0 1) (sRet (dVar 3)))) sNext) (sSeq (sBagPut (dOp dMod (dCall dInt (dCons (dOp dAdd (dOp dMul (dBagAt 0 2) (dC (.int 48271))) (dC (.int 11))) dNil)) (dC (.int 2147483647))) 0 2) (sRet (dOp dMod (dCall dInt (dCons (dOp dFdiv (dOp dMod (dCall dInt (dCons (dOp dMul (dBagAt 0 2) (dBagAt 0 2)) dNil)) (dC (.int 2147483629))) (dC (.int 7))) dNil)) (dVar 1))))))
def T__law_draw (K : PySem.W.Frag) : TS := (tSeq (tWhile (tAnd (tTest (tOp (rEqD K) (tOp (rIx K) (tVar 0) (tC (.int 1))) (tC (.int 0)))) (tTest (tOp (rNeD K) (tOp (rIx K) (tVar 0) (tC (.int 0))) (tLst tNil)))) (tSeq (tAsg (tBM0 K "list" rPop (tOp (rIx K) (tVar 0) (tC (.int 0)))) (gName 2)) (tAsg (tIf (tTest (tOp rGtI (tVar 2) (tOp rPowI (tC (.int 10)) (tC (.int 9))))) (tVar 2) (tC (.int 0))) (gSub (tVar 0) (tC (.int 1)) rSetL)))) (tSeq (tIfS (tTest (tOp rGtI (tOp (rIx K) (tVar 0) (tC (.int 1))) (tC (.int 0)))) (tSeq (tAsg (tOp rModI (tCB rInt1 (tCons (tOp (rIx K) (tVar 0) (tC (.int 1))) tNil)) (tVar 1)) (gName 3)) (tSeq (tAsg (tOp rFdivI (tOp (rIx K) (tVar 0) (tC (.int 1))) (tVar 1)) (gSub (tVar 0) (tC (.int 1)) rSetL)) (tRet (tVar 3)))) tNext) (tSeq (tAsg (tOp rModI (tCB rInt1 (tCons (tOp (rAddA K) (tOp rMulI (tOp (rIx K) (tVar 0) (tC (.int 2))) (tC (.int 48271))) (tC (.int 11))) tNil)) (tC (.int 2147483647))) (gSub (tVar 0) (tC (.int 2)) rSetL)) (tRet (tOp rModI (tCB rInt1 (tCons (tOp rFdivI (tOp rModI (tCB rInt1 (tCons (tOp rMulI (tOp (rIx K) (tVar 0) (tC (.int 2))) (tOp (rIx K) (tVar 0) (tC (.int 2)))) tNil)) (tC (.int 2147483629))) (tC (.int 7))) tNil)) (tVar 1))))))
theorem ok__law_draw {P : Program} {w : World} {K : PySem.W.Frag} {mg : Str → Option Value} {base : Heap} {f : Addr} {fd : FuncData} {sp : VSp} (hm : mg "_law_draw" = some (.ref f)) (F : FunD K "_law_draw" "_law_draw" (defArgs s__law_draw) (defBody s__law_draw) (defScope s__law_draw) [] [] f fd) (m_int : mg "int" = none)
    (hd : ∀ (ds : List PyData) (β : Bag) (Q : PyData → Bag → Prop), ds.length = 2 → sp ds β Q → D__law_draw { nx := fun s => Q .none s.β, rt := Q } (initS 4 ds β)) : Def P w K mg base (1) "_law_draw" s__law_draw P__law_draw sp :=
  def_of' hm F sc__law_draw (fun _ _ _ _ _ _ us hl => match us, hl with | [_, _], _ => rfl) (T__law_draw K) (D__law_draw) hd fun cd A outer s H hr => have nd := sc__law_draw.nd; (vb_cons (vs_while PassesOwn.never (VW.t (vw_and (vt_cmp (op_eqD hr.u64) opv_eq (v_bagAt 1 (pv 0) (by intro _ _; rfl)) v_int (nomark _)) (vw_and1 (vt_bagNe (op_neD hr.u64) (pv 0) (by intro _ _; rfl) (nomark _))))) (vb_cons (vs_setN (i := 2) (v_bagPop (pv 0) (by intro _ _; rfl)) nd)
  (vb_one (vs_bagPut 1 (v_ifExp (vt_cmp op_gt gt_v (v_nm 2) (v_pow v_int v_int) (nomark _)) (v_nm 2) v_int) (pv 0)))))
  (vb_cons (vs_if (vt_cmp op_gt gt_v (v_bagAt 1 (pv 0) (by intro _ _; rfl)) v_int (nomark _)) (vb_cons (vs_setN (i := 3) (v_mod (v_ty call_int1 callv_int (by rfl) m_int bb_int (va_cons (v_bagAt 1 (pv 0) (by intro _ _; rfl)) va_nil)) (v_nm 1)) nd)
  (vb_cons (vs_bagPut 1 (v_fdiv (v_bagAt 1 (pv 0) (by intro _ _; rfl)) (v_nm 1)) (pv 0))
  (vb_one (vs_ret (v_nm 3))))) vb_nil)
  (vb_cons (vs_bagPut 2 (v_mod (v_ty call_int1 callv_int (by rfl) m_int bb_int (va_cons (v_add (v_mul (v_bagAt 2 (pv 0) (by intro _ _; rfl)) v_int) v_int) va_nil)) v_int) (pv 0))
  (vb_one (vs_ret (v_mod (v_ty call_int1 callv_int (by rfl) m_int bb_int (va_cons (v_fdiv (v_mod (v_ty call_int1 callv_int (by rfl) m_int bb_int (va_cons (v_mul (v_bagAt 2 (pv 0) (by intro _ _; rfl)) (v_bagAt 2 (pv 0) (by intro _ _; rfl))) va_nil)) v_int) v_int) va_nil)) (v_nm 1)))))))
/-! ### _law_pick: 0 bag, 1 some -/
abbrev N__law_pick : List Str := ["bag", "some"]
abbrev P__law_pick : List Str := ["bag", "some"]
theorem sc__law_pick : FnScope N__law_pick P__law_pick (defScope s__law_pick) := ⟨rfl, rfl, rfl, by decide +kernel, rfl, by decide +kernel, by decide +kernel⟩
def D__law_pick (sp__law_draw : VSp) : DS := (sRet (dOp dIx (dVar 1) (dFn 2 sp__law_draw (dCons (dVar 0) (dCons (dCall dLen (dCons (dVar 1) dNil)) dNil)))))
def T__law_pick (K : PySem.W.Frag) (sp__law_draw : VSp) : TS := (tRet (tOp (rIx K) (tVar 1) (tCB (toSp K 2 sp__law_draw) (tCons (tVar 0) (tCons (tCB (rLenA K) (tCons (tVar 1) tNil)) tNil)))))
theorem ok__law_pick {P : Program} {w : World} {K : PySem.W.Frag} {mg : Str → Option Value} {base : Heap} {f : Addr} {fd : FuncData} {sp : VSp} {sp__law_draw : VSp} (hm : mg "_law_pick" = some (.ref f)) (F : FunD K "_law_pick" "_law_pick" (defArgs s__law_pick) (defBody s__law_pick) (defScope s__law_pick) [] [] f fd) (c__law_draw : Def P w K mg base 1 "_law_draw" s__law_draw P__law_draw sp__law_draw) (m_len : mg "len" = none)
    (hd : ∀ (ds : List PyData) (β : Bag) (Q : PyData → Bag → Prop), ds.length = 2 → sp ds β Q → D__law_pick sp__law_draw { nx := fun s => Q .none s.β, rt := Q } (initS 2 ds β)) : Def P w K mg base (2) "_law_pick" s__law_pick P__law_pick sp :=
  def_of' hm F sc__law_pick (fun _ _ _ _ _ _ us hl => match us, hl with | [_, _], _ => rfl) (T__law_pick K sp__law_draw) (D__law_pick sp__law_draw) hd fun cd A outer s H hr => have nd := sc__law_pick.nd; (vb_one (vs_ret (v_ix (v_nm 1) (v_call c__law_draw (hr.mono (by decide)) (by rfl) (va_cons (v_nm 0) (va_cons (v_bc call_len_seq callv_len (by rfl) m_len bb_len (va_cons (v_nm 1) va_nil)) va_nil))) (by intro _ _; rfl))))
/-! ### _law_size: 0 bag -/
abbrev N__law_size : List Str := ["bag"]
abbrev P__law_size : List Str := ["bag"]
theorem sc__law_size : FnScope N__law_size P__law_size (defScope s__law_size) := ⟨rfl, rfl, rfl, by decide +kernel, rfl, by decide +kernel, by decide +kernel⟩
def D__law_size (sp__law_pick : VSp) : DS := (sRet (dFn 2 sp__law_pick (dCons (dVar 0) (dCons (dLst (dCons (dC (.int 0)) (dCons (dC (.int 1)) (dCons (dC (.int 2)) (dCons (dC (.int 2)) (dCons (dC (.int 3)) (dCons (dC (.int 3)) (dCons (dC (.int 3)) (dCons (dC (.int 4)) (dCons (dC (.int 4)) (dCons (dC (.int 4)) (dCons (dC (.int 4)) (dCons (dC (.int 5)) (dCons (dC (.int 5)) (dCons (dC (.int 5)) (dCons (dC (.int 5)) (dCons (dC (.int 6)) (dCons (dC (.int 6)) (dCons (dC (.int 6)) (dCons (dC (.int 6)) (dCons (dC (.int 7)) (dCons (dC (.int 7)) (dCons (dC (.int 7)) (dCons (dC (.int 8)) (dCons (dC (.int 8)) (dCons (dC (.int 9)) (dCons (dC (.int 9)) dNil))))))))))))))))))))))))))) dNil))))
def T__law_size (K : PySem.W.Frag) (sp__law_pick : VSp) : TS := (tRet (tCB (toSp K 2 sp__law_pick) (tCons (tVar 0) (tCons (tLst (tCons (tC (.int 0)) (tCons (tC (.int 1)) (tCons (tC (.int 2)) (tCons (tC (.int 2)) (tCons (tC (.int 3)) (tCons (tC (.int 3)) (tCons (tC (.int 3)) (tCons (tC (.int 4)) (tCons (tC (.int 4)) (tCons (tC (.int 4)) (tCons (tC (.int 4)) (tCons (tC (.int 5)) (tCons (tC (.int 5)) (tCons (tC (.int 5)) (tCons (tC (.int 5)) (tCons (tC (.int 6)) (tCons (tC (.int 6)) (tCons (tC (.int 6)) (tCons (tC (.int 6)) (tCons (tC (.int 7)) (tCons (tC (.int 7)) (tCons (tC (.int 7)) (tCons (tC (.int 8)) (tCons (tC (.int 8)) (tCons (tC (.int 9)) (tCons (tC (.int 9)) tNil))))))))))))))))))))))))))) tNil))))
theorem ok__law_size {P : Program} {w : World} {K : PySem.W.Frag} {mg : Str → Option Value} {base : Heap} {f : Addr} {fd : FuncData} {sp : VSp} {sp__law_pick : VSp} (hm : mg "_law_size" = some (.ref f)) (F : FunD K "_law_size" "_law_size" (defArgs s__law_size) (defBody s__law_size) (defScope s__law_size) [] [] f fd) (c__law_pick : Def P w K mg base 2 "_law_pick" s__law_pick P__law_pick sp__law_pick)
    (hd : ∀ (ds : List PyData) (β : Bag) (Q : PyData → Bag → Prop), ds.length = 1 → sp ds β Q → D__law_size sp__law_pick { nx := fun s => Q .none s.β, rt := Q } (initS 1 ds β)) : Def P w K mg base (3) "_law_size" s__law_size P__law_size sp :=
  def_of' hm F sc__law_size (fun _ _ _ _ _ _ us hl => match us, hl with | [_], _ => rfl) (T__law_size K sp__law_pick) (D__law_size sp__law_pick) hd fun cd A outer s H hr => have nd := sc__law_size.nd; (vb_one (vs_ret (v_call c__law_pick (hr.mono (by decide)) (by rfl) (va_cons (v_nm 0) (va_cons (VO.e (v_lst (va_cons v_int (va_cons v_int (va_cons v_int (va_cons v_int (va_cons v_int (va_cons v_int (va_cons v_int (va_cons v_int (va_cons v_int (va_cons v_int (va_cons v_int (va_cons v_int (va_cons v_int (va_cons v_int (va_cons v_int (va_cons v_int (va_cons v_int (va_cons v_int (va_cons v_int (va_cons v_int (va_cons v_int (va_cons v_int (va_cons v_int (va_cons v_int (va_cons v_int (va_cons v_int va_nil)))))))))))))))))))))))))))) va_nil)))))
/-! ### _law_lots: 0 n, 1 found, 2 x, 3 lot -/
abbrev N__law_lots : List Str := ["n", "found", "x", "lot"]
abbrev P__law_lots : List Str := ["n"]
theorem sc__law_lots : FnScope N__law_lots P__law_lots (defScope s__law_lots) := ⟨rfl, rfl, rfl, by decide +kernel, rfl, by decide +kernel, by decide +kernel⟩
def D__law_lots : DS := (sSeq (sAsg (dLst (dCons (dTup dNil) dNil)) (bName 1)) (sSeq (sFor (dRange1 (dCons (dVar 0) dNil)) (bName 2) (sAsg (dOp dAdd (dVar 1) (dLc [3] (dSeqI (dVar 1)) (bName 3) dYes (dOp dAdd (dVar 3) (dTup (dCons (dVar 2) dNil))))) (bName 1))) (sRet (dVar 1))))
def T__law_lots (K : PySem.W.Frag) : TS := (tSeq (tAsg (tLst (tCons (tTup tNil) tNil)) (gName 1)) (tSeq (tFor (iRng1 (tCons (tVar 0) tNil)) (gName 2) (tAsg (tOp (rAddA K) (tVar 1) (tLc (iSeq K (tVar 1)) (gName 3) tYes (tOp (rAddA K) (tVar 3) (tTup (tCons (tVar 2) tNil))) [3])) (gName 1))) (tRet (tVar 1))))
theorem ok__law_lots {P : Program} {w : World} {K : PySem.W.Frag} {mg : Str → Option Value} {base : Heap} {f : Addr} {fd : FuncData} {sp : VSp} (hm : mg "_law_lots" = some (.ref f)) (F : FunD K "_law_lots" "_law_lots" (defArgs s__law_lots) (defBody s__law_lots) (defScope s__law_lots) [] [] f fd) (m_range : mg "range" = none)
    (hd : ∀ (ds : List PyData) (β : Bag) (Q : PyData → Bag → Prop), ds.length = 1 → sp ds β Q → D__law_lots { nx := fun s => Q .none s.β, rt := Q } (initS 4 ds β)) : Def P w K mg base (1) "_law_lots" s__law_lots P__law_lots sp :=
  def_of' hm F sc__law_lots (fun _ _ _ _ _ _ us hl => match us, hl with | [_], _ => rfl) (T__law_lots K) (D__law_lots) hd fun cd A outer s H hr => have nd := sc__law_lots.nd; (vb_cons (vs_setN (i := 1) (VO.e (v_lst (va_cons (v_tup va_nil) va_nil))) nd)
  (vb_cons (vs_for PassesOwn.never (by rfl) (vi_range1 (by rfl) m_range (va_cons (v_nm 0) va_nil)) (vg_nm 2 nd) (vb_one (vs_setN (i := 1) (v_add (v_nm 1) (VO.e (v_lc (own := [("lot", 3)]) (by rfl) nd (vi_seq (v_nm 1)) (blkOk_by (N := N__law_lots) (sc := defScope s__law_lots) (own := [("lot", 3)]) (by decide +kernel)) (fun _ _ _ _ _ => (vg_nm 3 nd)) (fun _ _ _ _ _ => vts_nil) (fun _ _ _ _ _ => (v_add (v_nm 3) (v_tup (va_cons (v_nm 2) va_nil))))))) nd)))
  (vb_one (vs_ret (v_nm 1)))))
/-! ### _law_grown_row: 0 bag, 1 n, 2 sure, 3 row, 4 x, 5 way, 6 lot, 7 rank, 8 code -/
abbrev N__law_grown_row : List Str := ["bag", "n", "sure", "row", "x", "way", "lot", "rank", "code"]
abbrev P__law_grown_row : List Str := ["bag", "n"]
theorem sc__law_grown_row : FnScope N__law_grown_row P__law_grown_row (defScope s__law_grown_row) := ⟨rfl, rfl, rfl, by decide +kernel, rfl, by decide +kernel, by decide +kernel⟩
def D__law_grown_row (sp__law_draw : VSp) : DS := (sSeq (sPar [2, 3] (dmSh (dFn 2 sp__law_draw (dCons (dVar 0) (dCons (dOp dAdd (dVar 1) (dC (.int 1))) dNil))) (dmSh (dLst (dCons (dC (.int 0)) dNil)) dmNil))) (sSeq (sFor (dRange1 (dCons (dVar 1) dNil)) (bName 4) (sSeq (sAsg (dFn 2 sp__law_draw (dCons (dVar 0) (dCons (dC (.int 9)) dNil))) (bName 5)) (sSeq (sAsg (dFn 2 sp__law_draw (dCons (dVar 0) (dCons (dCall dLen (dCons (dVar 3) dNil)) dNil))) (bName 6)) (sSeq (sIf (dTest (dOp dEq (dVar 5) (dC (.int 0)))) (sAsg (dC (.int 0)) (bName 6)) (sIf (dAndT (dTest (dOp dLt (dVar 5) (dC (.int 3)))) (dTest (dOp dGt (dVar 4) (dC (.int 0))))) (sAsg (dOp dShl (dC (.int 1)) (dFn 2 sp__law_draw (dCons (dVar 0) (dCons (dVar 4) dNil)))) (bName 6)) (sIf (dTest (dOp dLt (dVar 5) (dC (.int 5)))) (sAsg (dOp dSub (dCall dLen (dCons (dVar 3) dNil)) (dC (.int 1))) (bName 6)) (sIf (dTest (dOp dLt (dVar 5) (dC (.int 7)))) (sAsg (dOp dAnd (dVar 6) (dFn 2 sp__law_draw (dCons (dVar 0) (dCons (dCall dLen (dCons (dVar 3) dNil)) dNil)))) (bName 6)) sNext)))) (sIf (dTest (dOp dLt (dVar 4) (dVar 2))) (sAsg (dOp dAdd (dVar 3) (dLc [7] (dSeqI (dVar 3)) (bName 7) dYes (dOp dAdd (dVar 7) (dC (.int 1))))) (bName 3)) (sAsg (dOp dAdd (dVar 3) (dLc [8, 7] (dEnumI (dCons (dVar 3) dNil)) (bSeq 2 (bCons (bName 8) (bCons (bName 7) bNil))) dYes (dIf (dTest (dOp dGt (dOp dIx (dVar 3) (dOp dOr (dVar 8) (dVar 6))) (dVar 7))) (dOp dAdd (dVar 7) (dC (.int 1))) (dVar 7)))) (bName 3))))))) (sRet (dVar 3))))
def T__law_grown_row (K : PySem.W.Frag) (sp__law_draw : VSp) : TS := (tSeq (tAsg (tTup (tCons (tCB (toSp K 2 sp__law_draw) (tCons (tVar 0) (tCons (tOp (rAddA K) (tVar 1) (tC (.int 1))) tNil))) (tCons (tLst (tCons (tC (.int 0)) tNil)) tNil))) (gTup K 2 (gNames [2, 3]))) (tSeq (tFor (iRng1 (tCons (tVar 1) tNil)) (gName 4) (tSeq (tAsg (tCB (toSp K 2 sp__law_draw) (tCons (tVar 0) (tCons (tC (.int 9)) tNil))) (gName 5)) (tSeq (tAsg (tCB (toSp K 2 sp__law_draw) (tCons (tVar 0) (tCons (tCB (rLenA K) (tCons (tVar 3) tNil)) tNil))) (gName 6)) (tSeq (tIfS (tTest (tOp (rEqD K) (tVar 5) (tC (.int 0)))) (tAsg (tC (.int 0)) (gName 6)) (tIfS (tAnd (tTest (tOp rLtI (tVar 5) (tC (.int 3)))) (tTest (tOp rGtI (tVar 4) (tC (.int 0))))) (tAsg (tOp rShlI (tC (.int 1)) (tCB (toSp K 2 sp__law_draw) (tCons (tVar 0) (tCons (tVar 4) tNil)))) (gName 6)) (tIfS (tTest (tOp rLtI (tVar 5) (tC (.int 5)))) (tAsg (tOp rSubI (tCB (rLenA K) (tCons (tVar 3) tNil)) (tC (.int 1))) (gName 6)) (tIfS (tTest (tOp rLtI (tVar 5) (tC (.int 7)))) (tAsg (tOp rAndI (tVar 6) (tCB (toSp K 2 sp__law_draw) (tCons (tVar 0) (tCons (tCB (rLenA K) (tCons (tVar 3) tNil)) tNil)))) (gName 6)) tNext)))) (tIfS (tTest (tOp rLtI (tVar 4) (tVar 2))) (tAsg (tOp (rAddA K) (tVar 3) (tLc (iSeq K (tVar 3)) (gName 7) tYes (tOp (rAddA K) (tVar 7) (tC (.int 1))) [7])) (gName 3)) (tAsg (tOp (rAddA K) (tVar 3) (tLc (iEnum K (tCons (tVar 3) tNil)) (gSeq K 2 (gCons (gName 8) (gCons (gName 7) gNil))) tYes (tIf (tTest (tOp rGtI (tOp (rIx K) (tVar 3) (tOp rOrI (tVar 8) (tVar 6))) (tVar 7))) (tOp (rAddA K) (tVar 7) (tC (.int 1))) (tVar 7)) [8, 7])) (gName 3))))))) (tRet (tVar 3))))
theorem ok__law_grown_row {P : Program} {w : World} {K : PySem.W.Frag} {mg : Str → Option Value} {base : Heap} {f : Addr} {fd : FuncData} {sp : VSp} {sp__law_draw : VSp} (hm : mg "_law_grown_row" = some (.ref f)) (F : FunD K "_law_grown_row" "_law_grown_row" (defArgs s__law_grown_row) (defBody s__law_grown_row) (defScope s__law_grown_row) [] [] f fd) (c__law_draw : Def P w K mg base 1 "_law_draw" s__law_draw P__law_draw sp__law_draw) (m_range : mg "range" = none) (m_enumerate : mg "enumerate" = none) (m_len : mg "len" = none)
    (hd : ∀ (ds : List PyData) (β : Bag) (Q : PyData → Bag → Prop), ds.length = 2 → sp ds β Q → D__law_grown_row sp__law_draw { nx := fun s => Q .none s.β, rt := Q } (initS 9 ds β)) : Def P w K mg base (2) "_law_grown_row" s__law_grown_row P__law_grown_row sp :=
  def_of' hm F sc__law_grown_row (fun _ _ _ _ _ _ us hl => match us, hl with | [_, _], _ => rfl) (T__law_grown_row K sp__law_draw) (D__law_grown_row sp__law_draw) hd fun cd A outer s H hr => have nd := sc__law_grown_row.nd; (vb_cons (vs_parT (js := [2, 3]) (by rfl) (pgs_cons (pg_nm 2 nd) (pgs_cons (pg_nm 3 nd) pgs_nil)) (vm_sh (v_call c__law_draw (hr.mono (by decide)) (by rfl) (va_cons (v_nm 0) (va_cons (v_add (v_nm 1) v_int) va_nil))) (vm_sh (VO.e (v_lst (va_cons v_int va_nil))) vm_nil)))
  (vb_cons (vs_for PassesOwn.never (by rfl) (vi_range1 (by rfl) m_range (va_cons (v_nm 1) va_nil)) (vg_nm 4 nd) (vb_cons (vs_setN (i := 5) (v_call c__law_draw (hr.mono (by decide)) (by rfl) (va_cons (v_nm 0) (va_cons v_int va_nil))) nd)
  (vb_cons (vs_setN (i := 6) (v_call c__law_draw (hr.mono (by decide)) (by rfl) (va_cons (v_nm 0) (va_cons (v_bc call_len_seq callv_len (by rfl) m_len bb_len (va_cons (v_nm 3) va_nil)) va_nil))) nd)
  (vb_cons (vs_if (vt_cmp (op_eqD hr.u64) opv_eq (v_nm 5) v_int (nomark _)) (vb_one (vs_setN (i := 6) v_int nd)) (vb_one (vs_if (VW.t (vw_and (vt_cmp op_lt lt_v (v_nm 5) v_int (nomark _)) (vw_and1 (vt_cmp op_gt gt_v (v_nm 4) v_int (nomark _))))) (vb_one (vs_setN (i := 6) (v_shl v_int (v_call c__law_draw (hr.mono (by decide)) (by rfl) (va_cons (v_nm 0) (va_cons (v_nm 4) va_nil)))) nd)) (vb_one (vs_if (vt_cmp op_lt lt_v (v_nm 5) v_int (nomark _)) (vb_one (vs_setN (i := 6) (v_sub (v_bc call_len_seq callv_len (by rfl) m_len bb_len (va_cons (v_nm 3) va_nil)) v_int) nd)) (vb_one (vs_if (vt_cmp op_lt lt_v (v_nm 5) v_int (nomark _)) (vb_one (vs_setN (i := 6) (v_band (v_nm 6) (v_call c__law_draw (hr.mono (by decide)) (by rfl) (va_cons (v_nm 0) (va_cons (v_bc call_len_seq callv_len (by rfl) m_len bb_len (va_cons (v_nm 3) va_nil)) va_nil)))) nd)) vb_nil)))))))
  (vb_one (vs_if (vt_cmp op_lt lt_v (v_nm 4) (v_nm 2) (nomark _)) (vb_one (vs_setN (i := 3) (v_add (v_nm 3) (VO.e (v_lc (own := [("rank", 7)]) (by rfl) nd (vi_seq (v_nm 3)) (blkOk_by (N := N__law_grown_row) (sc := defScope s__law_grown_row) (own := [("rank", 7)]) (by decide +kernel)) (fun _ _ _ _ _ => (vg_nm 7 nd)) (fun _ _ _ _ _ => vts_nil) (fun _ _ _ _ _ => (v_add (v_nm 7) v_int))))) nd)) (vb_one (vs_setN (i := 3) (v_add (v_nm 3) (VO.e (v_lc (own := [("code", 8), ("rank", 7)]) (by rfl) nd (vi_enum (by rfl) m_enumerate (va_cons (v_nm 3) va_nil)) (blkOk_by (N := N__law_grown_row) (sc := defScope s__law_grown_row) (own := [("code", 8), ("rank", 7)]) (by decide +kernel)) (fun _ _ _ _ _ => (vg_seq (by rfl) (vgs_cons (vg_nm 8 nd) (vgs_cons (vg_nm 7 nd) vgs_nil)))) (fun _ _ _ _ _ => vts_nil) (fun _ _ _ _ _ => (v_ifExp (vt_cmp op_gt gt_v (v_ix (v_nm 3) (v_bor (v_nm 8) (v_nm 6)) (by intro _ _; rfl)) (v_nm 7) (nomark _)) (v_add (v_nm 7) v_int) (v_nm 7)))))) nd))))))))
  (vb_one (vs_ret (v_nm 3)))))
/-! ### _law_more: 0 p, 1 stem, 2 column, 3 some, 4 place, 5 step, 6 by, 7 places, 8 a, 9 k, 10 b -/
abbrev N__law_more : List Str := ["p", "stem", "column", "some", "place", "step", "by", "places", "a", "k", "b"]
abbrev P__law_more : List Str := ["p", "stem", "column"]
theorem sc__law_more : FnScope N__law_more P__law_more (defScope s__law_more) := ⟨rfl, rfl, rfl, by decide +kernel, rfl, by decide +kernel, by decide +kernel⟩
def D__law_more : DS := (sSeq (sIf (dTest (dOp dEq (dCall dLen (dCons (dVar 1) dNil)) (dCall dLen (dCons (dVar 2) dNil)))) (sRet (dVar 1)) sNext) (sSeq (sAsg (dVar 2) (bName 3)) (sSeq (sFor (dSeqI (dVar 1)) (bSeq 2 (bCons (bName 4) (bCons (bName 5) bNil))) (sSeq (sAsg (dOp dIx (dVar 3) (dVar 4)) (bName 6)) (sIf (dTest (dOp dGt (dVar 6) (dC (.int 0)))) (sAsg (dLc [8, 10] (dZipX (dCons (dVar 3) (dCons (dVar 5) dNil))) (bSeq 2 (bCons (bName 8) (bCons (bName 10) bNil))) dYes (dOp dMod (dCall dInt (dCons (dOp dSub (dVar 8) (dOp dMul (dVar 6) (dVar 10))) dNil)) (dVar 0))) (bName 3)) sNext))) (sSeq (sAsg (dLc [4, 8] (dEnumI (dCons (dVar 3) dNil)) (bSeq 2 (bCons (bName 4) (bCons (bName 8) bNil))) (dTest (dOp dGt (dVar 8) (dC (.int 0)))) (dVar 4)) (bName 7)) (sSeq (sIf (dTest (dOp dEq (dVar 7) (dLst dNil))) (sRet (dVar 1)) sNext) (sSeq (sAsg (dOp dIx (dLc [9] (dRange2 (dCons (dC (.int 1)) (dCons (dVar 0) dNil))) (bName 9) (dTest (dOp dEq (dOp dMod (dCall dInt (dCons (dOp dMul (dVar 9) (dOp dIx (dVar 3) (dOp dIx (dVar 7) (dC (.int 0))))) dNil)) (dVar 0)) (dC (.int 1)))) (dVar 9)) (dC (.int 0))) (bName 6)) (sRet (dOp dAdd (dVar 1) (dLst (dCons (dTup (dCons (dOp dIx (dVar 7) (dC (.int 0))) (dCons (dLc [8] (dSeqI (dVar 3)) (bName 8) dYes (dOp dMod (dCall dInt (dCons (dOp dMul (dVar 8) (dVar 6)) dNil)) (dVar 0))) dNil))) dNil))))))))))
def T__law_more (K : PySem.W.Frag) : TS := (tSeq (tIfS (tTest (tOp (rEqD K) (tCB (rLenA K) (tCons (tVar 1) tNil)) (tCB (rLenA K) (tCons (tVar 2) tNil)))) (tRet (tVar 1)) tNext) (tSeq (tAsg (tVar 2) (gName 3)) (tSeq (tFor (iSeq K (tVar 1)) (gSeq K 2 (gCons (gName 4) (gCons (gName 5) gNil))) (tSeq (tAsg (tOp (rIx K) (tVar 3) (tVar 4)) (gName 6)) (tIfS (tTest (tOp rGtI (tVar 6) (tC (.int 0)))) (tAsg (tLc (RZ.iZipA K (tCons (tVar 3) (tCons (tVar 5) tNil))) (gSeq K 2 (gCons (gName 8) (gCons (gName 10) gNil))) tYes (tOp rModI (tCB rInt1 (tCons (tOp rSubI (tVar 8) (tOp rMulI (tVar 6) (tVar 10))) tNil)) (tVar 0)) [8, 10]) (gName 3)) tNext))) (tSeq (tAsg (tLc (iEnum K (tCons (tVar 3) tNil)) (gSeq K 2 (gCons (gName 4) (gCons (gName 8) gNil))) (tTest (tOp rGtI (tVar 8) (tC (.int 0)))) (tVar 4) [4, 8]) (gName 7)) (tSeq (tIfS (tTest (tOp (rEqD K) (tVar 7) (tLst tNil))) (tRet (tVar 1)) tNext) (tSeq (tAsg (tOp (rIx K) (tLc (iRng2 (tCons (tC (.int 1)) (tCons (tVar 0) tNil))) (gName 9) (tTest (tOp (rEqD K) (tOp rModI (tCB rInt1 (tCons (tOp rMulI (tVar 9) (tOp (rIx K) (tVar 3) (tOp (rIx K) (tVar 7) (tC (.int 0))))) tNil)) (tVar 0)) (tC (.int 1)))) (tVar 9) [9]) (tC (.int 0))) (gName 6)) (tRet (tOp (rAddA K) (tVar 1) (tLst (tCons (tTup (tCons (tOp (rIx K) (tVar 7) (tC (.int 0))) (tCons (tLc (iSeq K (tVar 3)) (gName 8) tYes (tOp rModI (tCB rInt1 (tCons (tOp rMulI (tVar 8) (tVar 6)) tNil)) (tVar 0)) [8]) tNil))) tNil))))))))))
theorem ok__law_more {P : Program} {w : World} {K : PySem.W.Frag} {mg : Str → Option Value} {base : Heap} {f : Addr} {fd : FuncData} {sp : VSp} (hm : mg "_law_more" = some (.ref f)) (F : FunD K "_law_more" "_law_more" (defArgs s__law_more) (defBody s__law_more) (defScope s__law_more) [] [] f fd) (m_int : mg "int" = none) (m_range : mg "range" = none) (m_enumerate : mg "enumerate" = none) (m_zip : mg "zip" = none) (m_len : mg "len" = none)
    (hd : ∀ (ds : List PyData) (β : Bag) (Q : PyData → Bag → Prop), ds.length = 3 → sp ds β Q → D__law_more { nx := fun s => Q .none s.β, rt := Q } (initS 11 ds β)) : Def P w K mg base (1) "_law_more" s__law_more P__law_more sp :=
  def_of' hm F sc__law_more (fun _ _ _ _ _ _ us hl => match us, hl with | [_, _, _], _ => rfl) (T__law_more K) (D__law_more) hd fun cd A outer s H hr => have nd := sc__law_more.nd; (vb_cons (vs_if (vt_cmp (op_eqD hr.u64) opv_eq (v_bc call_len_seq callv_len (by rfl) m_len bb_len (va_cons (v_nm 1) va_nil)) (v_bc call_len_seq callv_len (by rfl) m_len bb_len (va_cons (v_nm 2) va_nil)) (nomark _)) (vb_one (vs_ret (v_nm 1))) vb_nil)
  (vb_cons (vs_setN (i := 3) (v_nm 2) nd)
  (vb_cons (vs_for PassesOwn.never (by rfl) (vi_seq (v_nm 1)) (vg_seq (by rfl) (vgs_cons (vg_nm 4 nd) (vgs_cons (vg_nm 5 nd) vgs_nil))) (vb_cons (vs_setN (i := 6) (v_ix (v_nm 3) (v_nm 4) (by intro _ _; rfl)) nd)
  (vb_one (vs_if (vt_cmp op_gt gt_v (v_nm 6) v_int (nomark _)) (vb_one (vs_setN (i := 3) (VO.e (v_lc (own := [("a", 8), ("b", 10)]) (by rfl) nd (vi_zipX (by rfl) m_zip (va_cons (v_nm 3) (va_cons (v_nm 5) va_nil))) (blkOk_by (N := N__law_more) (sc := defScope s__law_more) (own := [("a", 8), ("b", 10)]) (by decide +kernel)) (fun _ _ _ _ _ => (vg_seq (by rfl) (vgs_cons (vg_nm 8 nd) (vgs_cons (vg_nm 10 nd) vgs_nil)))) (fun _ _ _ _ _ => vts_nil) (fun _ _ _ _ _ => (v_mod (v_ty call_int1 callv_int (by rfl) m_int bb_int (va_cons (v_sub (v_nm 8) (v_mul (v_nm 6) (v_nm 10))) va_nil)) (v_nm 0))))) nd)) vb_nil))))
  (vb_cons (vs_setN (i := 7) (VO.e (v_lc (own := [("place", 4), ("a", 8)]) (by rfl) nd (vi_enum (by rfl) m_enumerate (va_cons (v_nm 3) va_nil)) (blkOk_by (N := N__law_more) (sc := defScope s__law_more) (own := [("place", 4), ("a", 8)]) (by decide +kernel)) (fun _ _ _ _ _ => (vg_seq (by rfl) (vgs_cons (vg_nm 4 nd) (vgs_cons (vg_nm 8 nd) vgs_nil)))) (fun _ _ _ _ _ => (vts_one (vt_cmp op_gt gt_v (v_nm 8) v_int (nomark _)))) (fun _ _ _ _ _ => (v_nm 4)))) nd)
  (vb_cons (vs_if (vt_cmp (op_eqD hr.u64) opv_eq (v_nm 7) (VO.e (v_lst va_nil)) (nomark _)) (vb_one (vs_ret (v_nm 1))) vb_nil)
  (vb_cons (vs_setN (i := 6) (v_ix (VO.e (v_lc (own := [("k", 9)]) (by rfl) nd (vi_range2 (by rfl) m_range (va_cons v_int (va_cons (v_nm 0) va_nil))) (blkOk_by (N := N__law_more) (sc := defScope s__law_more) (own := [("k", 9)]) (by decide +kernel)) (fun _ _ _ _ _ => (vg_nm 9 nd)) (fun _ _ _ _ _ => (vts_one (vt_cmp (op_eqD hr.u64) opv_eq (v_mod (v_ty call_int1 callv_int (by rfl) m_int bb_int (va_cons (v_mul (v_nm 9) (v_ix (v_nm 3) (v_ix (v_nm 7) v_int (by intro _ _; rfl)) (by intro _ _; rfl))) va_nil)) (v_nm 0)) v_int (nomark _)))) (fun _ _ _ _ _ => (v_nm 9)))) v_int (by intro _ _; rfl)) nd)
  (vb_one (vs_ret (v_add (v_nm 1) (VO.e (v_lst (va_cons (v_tup (va_cons (v_ix (v_nm 7) v_int (by intro _ _; rfl)) (va_cons (VO.e (v_lc (own := [("a", 8)]) (by rfl) nd (vi_seq (v_nm 3)) (blkOk_by (N := N__law_more) (sc := defScope s__law_more) (own := [("a", 8)]) (by decide +kernel)) (fun _ _ _ _ _ => (vg_nm 8 nd)) (fun _ _ _ _ _ => vts_nil) (fun _ _ _ _ _ => (v_mod (v_ty call_int1 callv_int (by rfl) m_int bb_int (va_cons (v_mul (v_nm 8) (v_nm 6)) va_nil)) (v_nm 0))))) va_nil))) va_nil))))))))))))
/-! ### _law_columns_row: 0 bag, 1 n, 2 p, 3 high, 4 row, 5 stems, 6 x, 7 column, 8 found, 9 k, 10 stem -/
abbrev N__law_columns_row : List Str := ["bag", "n", "p", "high", "row", "stems", "x", "column", "found", "k", "stem"]
abbrev P__law_columns_row : List Str := ["bag", "n"]
theorem sc__law_columns_row : FnScope N__law_columns_row P__law_columns_row (defScope s__law_columns_row) := ⟨rfl, rfl, rfl, by decide +kernel, rfl, by decide +kernel, by decide +kernel⟩
def D__law_columns_row (sp__law_more : VSp) (sp__law_draw : VSp) (sp__law_pick : VSp) : DS := (sSeq (sPar [2, 3] (dmSh (dFn 2 sp__law_pick (dCons (dVar 0) (dCons (dLst (dCons (dC (.int 2)) (dCons (dC (.int 2)) (dCons (dC (.int 3)) (dCons (dC (.int 5)) dNil))))) dNil))) (dmSh (dOp dAdd (dC (.int 1)) (dFn 2 sp__law_draw (dCons (dVar 0) (dCons (dC (.int 4)) dNil)))) dmNil))) (sSeq (sPar [4, 5] (dmSh (dLst (dCons (dC (.int 0)) dNil)) (dmSh (dLst (dCons (dLst dNil) dNil)) dmNil))) (sSeq (sFor (dRange1 (dCons (dVar 1) dNil)) (bName 6) (sSeq (sAsg (dLc [9] (dRange1 (dCons (dVar 3) dNil)) (bName 9) dYes (dFn 2 sp__law_draw (dCons (dVar 0) (dCons (dVar 2) dNil)))) (bName 7)) (sSeq (sAsg (dLc [10] (dSeqI (dVar 5)) (bName 10) dYes (dFn 3 sp__law_more (dCons (dVar 2) (dCons (dVar 10) (dCons (dVar 7) dNil))))) (bName 8)) (sSeq (sAsg (dOp dAdd (dVar 4) (dLc [10] (dSeqI (dVar 8)) (bName 10) dYes (dCall dLen (dCons (dVar 10) dNil)))) (bName 4)) (sAsg (dOp dAdd (dVar 5) (dVar 8)) (bName 5)))))) (sRet (dVar 4)))))
def T__law_columns_row (K : PySem.W.Frag) (sp__law_more : VSp) (sp__law_draw : VSp) (sp__law_pick : VSp) : TS := (tSeq (tAsg (tTup (tCons (tCB (toSp K 2 sp__law_pick) (tCons (tVar 0) (tCons (tLst (tCons (tC (.int 2)) (tCons (tC (.int 2)) (tCons (tC (.int 3)) (tCons (tC (.int 5)) tNil))))) tNil))) (tCons (tOp (rAddA K) (tC (.int 1)) (tCB (toSp K 2 sp__law_draw) (tCons (tVar 0) (tCons (tC (.int 4)) tNil)))) tNil))) (gTup K 2 (gNames [2, 3]))) (tSeq (tPar 4 5 (tCons (tLst (tCons (tC (.int 0)) tNil)) (tCons (tLst (tCons (tLst tNil) tNil)) tNil))) (tSeq (tFor (iRng1 (tCons (tVar 1) tNil)) (gName 6) (tSeq (tAsg (tLc (iRng1 (tCons (tVar 3) tNil)) (gName 9) tYes (tCB (toSp K 2 sp__law_draw) (tCons (tVar 0) (tCons (tVar 2) tNil))) [9]) (gName 7)) (tSeq (tAsg (tLc (iSeq K (tVar 5)) (gName 10) tYes (tCB (toSp K 3 sp__law_more) (tCons (tVar 2) (tCons (tVar 10) (tCons (tVar 7) tNil)))) [10]) (gName 8)) (tSeq (tAsg (tOp (rAddA K) (tVar 4) (tLc (iSeq K (tVar 8)) (gName 10) tYes (tCB (rLenA K) (tCons (tVar 10) tNil)) [10])) (gName 4)) (tAsg (tOp (rAddA K) (tVar 5) (tVar 8)) (gName 5)))))) (tRet (tVar 4)))))
theorem ok__law_columns_row {P : Program} {w : World} {K : PySem.W.Frag} {mg : Str → Option Value} {base : Heap} {f : Addr} {fd : FuncData} {sp : VSp} {sp__law_more : VSp} {sp__law_draw : VSp} {sp__law_pick : VSp} (hm : mg "_law_columns_row" = some (.ref f)) (F : FunD K "_law_columns_row" "_law_columns_row" (defArgs s__law_columns_row) (defBody s__law_columns_row) (defScope s__law_columns_row) [] [] f fd) (c__law_more : Def P w K mg base 1 "_law_more" s__law_more P__law_more sp__law_more) (c__law_draw : Def P w K mg base 1 "_law_draw" s__law_draw P__law_draw sp__law_draw) (c__law_pick : Def P w K mg base 2 "_law_pick" s__law_pick P__law_pick sp__law_pick) (m_range : mg "range" = none) (m_len : mg "len" = none)
    (hd : ∀ (ds : List PyData) (β : Bag) (Q : PyData → Bag → Prop), ds.length = 2 → sp ds β Q → D__law_columns_row sp__law_more sp__law_draw sp__law_pick { nx := fun s => Q .none s.β, rt := Q } (initS 11 ds β)) : Def P w K mg base (3) "_law_columns_row" s__law_columns_row P__law_columns_row sp :=
  def_of' hm F sc__law_columns_row (fun _ _ _ _ _ _ us hl => match us, hl with | [_, _], _ => rfl) (T__law_columns_row K sp__law_more sp__law_draw sp__law_pick) (D__law_columns_row sp__law_more sp__law_draw sp__law_pick) hd fun cd A outer s H hr => have nd := sc__law_columns_row.nd; (vb_cons (vs_parT (js := [2, 3]) (by rfl) (pgs_cons (pg_nm 2 nd) (pgs_cons (pg_nm 3 nd) pgs_nil)) (vm_sh (v_call c__law_pick (hr.mono (by decide)) (by rfl) (va_cons (v_nm 0) (va_cons (VO.e (v_lst (va_cons v_int (va_cons v_int (va_cons v_int (va_cons v_int va_nil)))))) va_nil))) (vm_sh (v_add v_int (v_call c__law_draw (hr.mono (by decide)) (by rfl) (va_cons (v_nm 0) (va_cons v_int va_nil)))) vm_nil)))
  (vb_cons (vs_par (i := 4) (j := 5) (by rfl) nd (by rfl) (by rfl) (by decide) (by rfl) (by rfl) (vm_sh (VO.e (v_lst (va_cons v_int va_nil))) (vm_sh (VO.e (v_lst (va_cons (VO.e (v_lst va_nil)) va_nil))) vm_nil)) (by rfl))
  (vb_cons (vs_for PassesOwn.never (by rfl) (vi_range1 (by rfl) m_range (va_cons (v_nm 1) va_nil)) (vg_nm 6 nd) (vb_cons (vs_setN (i := 7) (VO.e (v_lc (own := [("k", 9)]) (by rfl) nd (vi_range1 (by rfl) m_range (va_cons (v_nm 3) va_nil)) (blkOk_by (N := N__law_columns_row) (sc := defScope s__law_columns_row) (own := [("k", 9)]) (by decide +kernel)) (fun _ _ _ _ _ => (vg_nm 9 nd)) (fun _ _ _ _ _ => vts_nil) (fun _ _ _ _ _ => (v_call c__law_draw (hr.mono (by decide)) (by rfl) (va_cons (v_nm 0) (va_cons (v_nm 2) va_nil)))))) nd)
  (vb_cons (vs_lcSet (i := 8) (own := [("stem", 10)]) (by rfl) nd (by rfl) (by rfl) (sw_true (by rfl) (by rfl) (by rfl) (by decide +kernel)) (vi_seq (v_nm 5)) (blkOk_by (N := N__law_columns_row) (sc := defScope s__law_columns_row) (own := [("stem", 10)]) (by decide +kernel)) (fun _ _ _ _ _ => (vg_nm 10 nd)) (fun _ _ _ _ _ => vts_nil) (fun _ _ _ _ _ => (v_call c__law_more (hr.mono (by decide)) (by rfl) (va_cons (v_nm 2) (va_cons (v_nm 10) (va_cons (v_nm 7) va_nil))))))
  (vb_cons (vs_setN (i := 4) (v_add (v_nm 4) (VO.e (v_lc (own := [("stem", 10)]) (by rfl) nd (vi_seq (v_nm 8)) (blkOk_by (N := N__law_columns_row) (sc := defScope s__law_columns_row) (own := [("stem", 10)]) (by decide +kernel)) (fun _ _ _ _ _ => (vg_nm 10 nd)) (fun _ _ _ _ _ => vts_nil) (fun _ _ _ _ _ => (v_bc call_len_seq callv_len (by rfl) m_len bb_len (va_cons (v_nm 10) va_nil)))))) nd)
  (vb_one (vs_setN (i := 5) (v_add (v_nm 5) (v_nm 8)) nd))))))
  (vb_one (vs_ret (v_nm 4))))))
/-! ### _law_blocks_row: 0 bag, 1 n, 2 pops, 3 rank, 4 blocks, 5 row, 6 turn, 7 block, 8 code, 9 pop, 10 one -/
abbrev N__law_blocks_row : List Str := ["bag", "n", "pops", "rank", "blocks", "row", "turn", "block", "code", "pop", "one"]
abbrev P__law_blocks_row : List Str := ["bag", "n", "pops"]
theorem sc__law_blocks_row : FnScope N__law_blocks_row P__law_blocks_row (defScope s__law_blocks_row) := ⟨rfl, rfl, rfl, by decide +kernel, rfl, by decide +kernel, by decide +kernel⟩
def D__law_blocks_row (sp__law_draw : VSp) : DS := (sSeq (sIf (dTest (dOp dEq (dVar 1) (dC (.int 0)))) (sRet (dLst (dCons (dC (.int 0)) dNil))) sNext) (sSeq (sPar [3, 4, 5] (dmSh (dOp dAdd (dC (.int 1)) (dFn 2 sp__law_draw (dCons (dVar 0) (dCons (dVar 1) dNil)))) (dmOw (dLst dNil) (dmOw (dLst dNil) dmNil)))) (sSeq (sFor (dRange1 (dCons (dFn 2 sp__law_draw (dCons (dVar 0) (dCons (dC (.int 25)) dNil))) dNil)) (bName 6) (sSeq (sAsg (dFn 2 sp__law_draw (dCons (dVar 0) (dCons (dCall dLen (dCons (dVar 2) dNil)) dNil))) (bName 7)) (sIf (dAndT (dTest (dOp dLe (dVar 3) (dOp dIx (dVar 2) (dVar 7)))) (dAndT (dTest (dOp dLt (dOp dIx (dVar 2) (dVar 7)) (dVar 1))) (dTru (dCall dAllOf (dCons (dLcB [10] 4 (bName 10) dYes (dOp dLe (dOp dIx (dVar 2) (dOp dAnd (dVar 7) (dVar 10))) (dOp dSub (dVar 3) (dC (.int 2))))) dNil))))) (sDrop (dMeth "list" 4 mAppend (dCons (dVar 7) dNil))) sNext))) (sSeq (sFor (dEnumI (dCons (dVar 2) dNil)) (bSeq 2 (bCons (bName 8) (bCons (bName 9) bNil))) (sIf (dTest (dOp dLt (dVar 9) (dVar 3))) (sDrop (dMeth "list" 5 mAppend (dCons (dVar 9) dNil))) (sDrop (dMeth "list" 5 mAppend (dCons (dIf (dTru (dCall dAnyOf (dCons (dLcB [7] 4 (bName 7) dYes (dOp dEq (dOp dAnd (dVar 8) (dVar 7)) (dVar 8))) dNil))) (dOp dSub (dVar 3) (dC (.int 1))) (dVar 3)) dNil))))) (sRet (dVar 5))))))
def T__law_blocks_row (K : PySem.W.Frag) (sp__law_draw : VSp) : TS := (tSeq (tIfS (tTest (tOp (rEqD K) (tVar 1) (tC (.int 0)))) (tRet (tLst (tCons (tC (.int 0)) tNil))) tNext) (tSeq (tAsg (tTup (tCons (tOp (rAddA K) (tC (.int 1)) (tCB (toSp K 2 sp__law_draw) (tCons (tVar 0) (tCons (tVar 1) tNil)))) (tCons (tLst tNil) (tCons (tLst tNil) tNil)))) (gTup K 3 (gNames [3, 4, 5]))) (tSeq (tFor (iRng1 (tCons (tCB (toSp K 2 sp__law_draw) (tCons (tVar 0) (tCons (tC (.int 25)) tNil))) tNil)) (gName 6) (tSeq (tAsg (tCB (toSp K 2 sp__law_draw) (tCons (tVar 0) (tCons (tCB (rLenA K) (tCons (tVar 2) tNil)) tNil))) (gName 7)) (tIfS (tAnd (tTest (tOp rLeI (tVar 3) (tOp (rIx K) (tVar 2) (tVar 7)))) (tAnd (tTest (tOp rLtI (tOp (rIx K) (tVar 2) (tVar 7)) (tVar 1))) (tTru K (tCB (rAll K) (tCons (tLc (iList K (tVar 4)) (gName 10) tYes (tOp rLeI (tOp (rIx K) (tVar 2) (tOp rAndI (tVar 7) (tVar 10))) (tOp rSubI (tVar 3) (tC (.int 2)))) [10]) tNil))))) (tDrop (tBM K "list" rAppend (tVar 4) (tCons (tVar 7) tNil))) tNext))) (tSeq (tFor (iEnum K (tCons (tVar 2) tNil)) (gSeq K 2 (gCons (gName 8) (gCons (gName 9) gNil))) (tIfS (tTest (tOp rLtI (tVar 9) (tVar 3))) (tDrop (tBM K "list" rAppend (tVar 5) (tCons (tVar 9) tNil))) (tDrop (tBM K "list" rAppend (tVar 5) (tCons (tIf (tTru K (tCB (rAny K) (tCons (tLc (iList K (tVar 4)) (gName 7) tYes (tOp (rEqD K) (tOp rAndI (tVar 8) (tVar 7)) (tVar 8)) [7]) tNil))) (tOp rSubI (tVar 3) (tC (.int 1))) (tVar 3)) tNil))))) (tRet (tVar 5))))))
theorem ok__law_blocks_row {P : Program} {w : World} {K : PySem.W.Frag} {mg : Str → Option Value} {base : Heap} {f : Addr} {fd : FuncData} {sp : VSp} {sp__law_draw : VSp} (hm : mg "_law_blocks_row" = some (.ref f)) (F : FunD K "_law_blocks_row" "_law_blocks_row" (defArgs s__law_blocks_row) (defBody s__law_blocks_row) (defScope s__law_blocks_row) [] [] f fd) (c__law_draw : Def P w K mg base 1 "_law_draw" s__law_draw P__law_draw sp__law_draw) (m_enumerate : mg "enumerate" = none) (m_any : mg "any" = none) (m_range : mg "range" = none) (m_all : mg "all" = none) (m_len : mg "len" = none)
    (hd : ∀ (ds : List PyData) (β : Bag) (Q : PyData → Bag → Prop), ds.length = 3 → sp ds β Q → D__law_blocks_row sp__law_draw { nx := fun s => Q .none s.β, rt := Q } (initS 11 ds β)) : Def P w K mg base (2) "_law_blocks_row" s__law_blocks_row P__law_blocks_row sp :=
  def_of' hm F sc__law_blocks_row (fun _ _ _ _ _ _ us hl => match us, hl with | [_, _, _], _ => rfl) (T__law_blocks_row K sp__law_draw) (D__law_blocks_row sp__law_draw) hd fun cd A outer s H hr => have nd := sc__law_blocks_row.nd; (vb_cons (vs_if (vt_cmp (op_eqD hr.u64) opv_eq (v_nm 1) v_int (nomark _)) (vb_one (vs_ret (VO.e (v_lst (va_cons v_int va_nil))))) vb_nil)
  (vb_cons (vs_parT (js := [3, 4, 5]) (by rfl) (pgs_cons (pg_nm 3 nd) (pgs_cons (pg_nm 4 nd) (pgs_cons (pg_nm 5 nd) pgs_nil))) (vm_sh (v_add v_int (v_call c__law_draw (hr.mono (by decide)) (by rfl) (va_cons (v_nm 0) (va_cons (v_nm 1) va_nil)))) (vm_ow (v_lst va_nil) (vm_ow (v_lst va_nil) vm_nil))))
  (vb_cons (vs_for PassesOwn.never (by rfl) (vi_range1 (by rfl) m_range (va_cons (v_call c__law_draw (hr.mono (by decide)) (by rfl) (va_cons (v_nm 0) (va_cons v_int va_nil))) va_nil)) (vg_nm 6 nd) (vb_cons (vs_setN (i := 7) (v_call c__law_draw (hr.mono (by decide)) (by rfl) (va_cons (v_nm 0) (va_cons (v_bc call_len_seq callv_len (by rfl) m_len bb_len (va_cons (v_nm 2) va_nil)) va_nil))) nd)
  (vb_one (vs_if (VW.t (vw_and (vt_cmp op_le le_v (v_nm 3) (v_ix (v_nm 2) (v_nm 7) (by intro _ _; rfl)) (nomark _)) (vw_and (vt_cmp op_lt lt_v (v_ix (v_nm 2) (v_nm 7) (by intro _ _; rfl)) (v_nm 1) (nomark _)) (vw_and1 (vt_tru (v_bc (cr_all (by rfl)) callv_all (by rfl) m_all bb_all (va_cons (VO.e (v_lcB (k := 4) (own := [("one", 10)]) (by rfl) nd (pv 4) (blkOk_by (N := N__law_blocks_row) (sc := defScope s__law_blocks_row) (own := [("one", 10)]) (by decide +kernel)) (fun _ _ _ _ _ => (vg_nm 10 nd)) (fun _ _ _ _ _ => vts_nil) (fun _ _ _ _ _ => (v_cmp op_le le_v (v_ix (v_nm 2) (v_band (v_nm 7) (v_nm 10)) (by intro _ _; rfl)) (v_sub (v_nm 3) v_int) (nomark _))))) va_nil))))))) (vb_one (vs_expr (v_meth PySem.F.plainAttrs_list PySem.F.slot_list_append PySem.F.type_list_append app_m methv_append (pv 4) (va_cons (v_nm 7) va_nil)))) vb_nil))))
  (vb_cons (vs_for PassesOwn.never (by rfl) (vi_enum (by rfl) m_enumerate (va_cons (v_nm 2) va_nil)) (vg_seq (by rfl) (vgs_cons (vg_nm 8 nd) (vgs_cons (vg_nm 9 nd) vgs_nil))) (vb_one (vs_if (vt_cmp op_lt lt_v (v_nm 9) (v_nm 3) (nomark _)) (vb_one (vs_expr (v_meth PySem.F.plainAttrs_list PySem.F.slot_list_append PySem.F.type_list_append app_m methv_append (pv 5) (va_cons (v_nm 9) va_nil)))) (vb_one (vs_expr (v_meth PySem.F.plainAttrs_list PySem.F.slot_list_append PySem.F.type_list_append app_m methv_append (pv 5) (va_cons (v_ifExp (vt_tru (v_bc (cr_any (by rfl)) callv_any (by rfl) m_any bb_any (va_cons (VO.e (v_lcB (k := 4) (own := [("block", 7)]) (by rfl) nd (pv 4) (blkOk_by (N := N__law_blocks_row) (sc := defScope s__law_blocks_row) (own := [("block", 7)]) (by decide +kernel)) (fun _ _ _ _ _ => (vg_nm 7 nd)) (fun _ _ _ _ _ => vts_nil) (fun _ _ _ _ _ => (v_cmp (op_eqD hr.u64) opv_eq (v_band (v_nm 8) (v_nm 7)) (v_nm 8) (nomark _))))) va_nil))) (v_sub (v_nm 3) v_int) (v_nm 3)) va_nil)))))))
  (vb_one (vs_ret (v_nm 5)))))))
/-! ### _law_renamed_row: 0 bag, 1 n, 2 row, 3 things, 4 places, 5 found, 6 x, 7 bit, 8 place, 9 code -/
abbrev N__law_renamed_row : List Str := ["bag", "n", "row", "things", "places", "found", "x", "bit", "place", "code"]
abbrev P__law_renamed_row : List Str := ["bag", "n", "row"]
theorem sc__law_renamed_row : FnScope N__law_renamed_row P__law_renamed_row (defScope s__law_renamed_row) := ⟨rfl, rfl, rfl, by decide +kernel, rfl, by decide +kernel, by decide +kernel⟩
def D__law_renamed_row (sp__law_draw : VSp) : DS := (sSeq (sPar [3, 4, 5] (dmOw (dLstRg (dRg1 (dVar 1))) (dmSh (dLst (dCons (dC (.int 0)) dNil)) (dmOw (dOp dRep (dLst (dCons (dC (.int 0)) dNil)) (dCall dLen (dCons (dVar 2) dNil))) dmNil)))) (sSeq (sFor (dRange1 (dCons (dVar 1) dNil)) (bName 6) (sSeq (sAsg (dOp dShl (dC (.int 1)) (dMeth "list" 3 mPopAt (dCons (dFn 2 sp__law_draw (dCons (dVar 0) (dCons (dLenB 3) dNil))) dNil))) (bName 7)) (sAsg (dOp dAdd (dVar 4) (dLc [8] (dSeqI (dVar 4)) (bName 8) dYes (dOp dAdd (dVar 8) (dVar 7)))) (bName 4)))) (sSeq (sFor (dEnumI (dCons (dVar 4) dNil)) (bSeq 2 (bCons (bName 9) (bCons (bName 8) bNil))) (sItem (dOp dIx (dVar 2) (dVar 9)) 5 (dVar 8))) (sRet (dVar 5)))))
def T__law_renamed_row (K : PySem.W.Frag) (sp__law_draw : VSp) : TS := (tSeq (tPar3 3 4 5 (tCons (tLstRg (tRg1 (tVar 1))) (tCons (tLst (tCons (tC (.int 0)) tNil)) (tCons (tOp rRep (tLst (tCons (tC (.int 0)) tNil)) (tCB (rLenA K) (tCons (tVar 2) tNil))) tNil)))) (tSeq (tFor (iRng1 (tCons (tVar 1) tNil)) (gName 6) (tSeq (tAsg (tOp rShlI (tC (.int 1)) (tBM K "list" rPopAt (tVar 3) (tCons (tCB (toSp K 2 sp__law_draw) (tCons (tVar 0) (tCons (tCB (rLenA K) (tCons (tVar 3) tNil)) tNil))) tNil))) (gName 7)) (tAsg (tOp (rAddA K) (tVar 4) (tLc (iSeq K (tVar 4)) (gName 8) tYes (tOp (rAddA K) (tVar 8) (tVar 7)) [8])) (gName 4)))) (tSeq (tFor (iEnum K (tCons (tVar 4) tNil)) (gSeq K 2 (gCons (gName 9) (gCons (gName 8) gNil))) (tAsg (tOp (rIx K) (tVar 2) (tVar 9)) (gSub (tVar 5) (tVar 8) rSetL))) (tRet (tVar 5)))))
theorem ok__law_renamed_row {P : Program} {w : World} {K : PySem.W.Frag} {mg : Str → Option Value} {base : Heap} {f : Addr} {fd : FuncData} {sp : VSp} {sp__law_draw : VSp} (hm : mg "_law_renamed_row" = some (.ref f)) (F : FunD K "_law_renamed_row" "_law_renamed_row" (defArgs s__law_renamed_row) (defBody s__law_renamed_row) (defScope s__law_renamed_row) [] [] f fd) (c__law_draw : Def P w K mg base 1 "_law_draw" s__law_draw P__law_draw sp__law_draw) (m_enumerate : mg "enumerate" = none) (m_range : mg "range" = none) (m_len : mg "len" = none) (m_list : mg "list" = none)
    (hd : ∀ (ds : List PyData) (β : Bag) (Q : PyData → Bag → Prop), ds.length = 3 → sp ds β Q → D__law_renamed_row sp__law_draw { nx := fun s => Q .none s.β, rt := Q } (initS 10 ds β)) : Def P w K mg base (2) "_law_renamed_row" s__law_renamed_row P__law_renamed_row sp :=
  def_of' hm F sc__law_renamed_row (fun _ _ _ _ _ _ us hl => match us, hl with | [_, _, _], _ => rfl) (T__law_renamed_row K sp__law_draw) (D__law_renamed_row sp__law_draw) hd fun cd A outer s H hr => have nd := sc__law_renamed_row.nd; (vb_cons (vs_par3 (i := 3) (j := 4) (l := 5) (by rfl) nd (by rfl) (by rfl) (by rfl) (by decide) (by decide) (by decide) (by rfl) (by rfl) (by rfl) (vm_ow (v_lstRg (by rfl) (by rfl) m_list (vr_1 (by rfl) m_range (v_nm 1))) (vm_sh (VO.e (v_lst (va_cons v_int va_nil))) (vm_ow (v_rep (VO.e (v_lst (va_cons v_int va_nil))) (v_bc call_len_seq callv_len (by rfl) m_len bb_len (va_cons (v_nm 2) va_nil))) vm_nil))) (by rfl))
  (vb_cons (vs_for PassesOwn.never (by rfl) (vi_range1 (by rfl) m_range (va_cons (v_nm 1) va_nil)) (vg_nm 6 nd) (vb_cons (vs_setN (i := 7) (v_shl v_int (v_meth PySem.F.plainAttrs_list PySem.F.slot_list_pop PySem.F.type_list_pop popAt_m methv_popAt (pv 3) (va_cons (v_call c__law_draw (hr.mono (by decide)) (by rfl) (va_cons (v_nm 0) (va_cons (v_lenB (by rfl) m_len bb_len (pv 3)) va_nil))) va_nil))) nd)
  (vb_one (vs_setN (i := 4) (v_add (v_nm 4) (VO.e (v_lc (own := [("place", 8)]) (by rfl) nd (vi_seq (v_nm 4)) (blkOk_by (N := N__law_renamed_row) (sc := defScope s__law_renamed_row) (own := [("place", 8)]) (by decide +kernel)) (fun _ _ _ _ _ => (vg_nm 8 nd)) (fun _ _ _ _ _ => vts_nil) (fun _ _ _ _ _ => (v_add (v_nm 8) (v_nm 7)))))) nd))))
  (vb_cons (vs_for PassesOwn.never (by rfl) (vi_enum (by rfl) m_enumerate (va_cons (v_nm 4) va_nil)) (vg_seq (by rfl) (vgs_cons (vg_nm 9 nd) (vgs_cons (vg_nm 8 nd) vgs_nil))) (vb_one (vs_item (j := 5) (v_ix (v_nm 2) (v_nm 9) (by intro _ _; rfl)) (pv 5) (v_nm 8))))
  (vb_one (vs_ret (v_nm 5))))))
/-! ### _law_row: 0 bag, 1 n, 2 pops, 3 way, 4 row, 5 low, 6 code, 7 rank -/
abbrev N__law_row : List Str := ["bag", "n", "pops", "way", "row", "low", "code", "rank"]
abbrev P__law_row : List Str := ["bag", "n", "pops"]
theorem sc__law_row : FnScope N__law_row P__law_row (defScope s__law_row) := ⟨rfl, rfl, rfl, by decide +kernel, rfl, by decide +kernel, by decide +kernel⟩
def D__law_row (sp__law_renamed_row : VSp) (sp__law_draw : VSp) (sp__law_grown_row : VSp) (sp__law_columns_row : VSp) (sp__law_blocks_row : VSp) : DS := (sSeq (sAsg (dFn 2 sp__law_draw (dCons (dVar 0) (dCons (dC (.int 6)) dNil))) (bName 3)) (sSeq (sIf (dTest (dOp dLt (dVar 3) (dC (.int 3)))) (sAsg (dFn 2 sp__law_grown_row (dCons (dVar 0) (dCons (dVar 1) dNil))) (bName 4)) (sIf (dTest (dOp dLt (dVar 3) (dC (.int 5)))) (sAsg (dFn 2 sp__law_columns_row (dCons (dVar 0) (dCons (dVar 1) dNil))) (bName 4)) (sAsg (dFn 3 sp__law_blocks_row (dCons (dVar 0) (dCons (dVar 1) (dCons (dVar 2) dNil)))) (bName 4)))) (sSeq (sIf (dTest (dOp dEq (dFn 2 sp__law_draw (dCons (dVar 0) (dCons (dC (.int 4)) dNil))) (dC (.int 0)))) (sAsg (dLc [6] (dRange1 (dCons (dCall dLen (dCons (dVar 4) dNil)) dNil)) (bName 6) dYes (dOp dAdd (dOp dSub (dOp dIx (dVar 2) (dVar 6)) (dOp dIx (dVar 4) (dNeg (dC (.int 1))))) (dOp dIx (dVar 4) (dOp dSub (dOp dSub (dCall dLen (dCons (dVar 4) dNil)) (dC (.int 1))) (dVar 6))))) (bName 4)) sNext) (sSeq (sIf (dTest (dOp dEq (dFn 2 sp__law_draw (dCons (dVar 0) (dCons (dC (.int 6)) dNil))) (dC (.int 0)))) (sSeq (sAsg (dFn 2 sp__law_draw (dCons (dVar 0) (dCons (dOp dAdd (dOp dIx (dVar 4) (dNeg (dC (.int 1)))) (dC (.int 1))) dNil))) (bName 5)) (sAsg (dLc [7] (dSeqI (dVar 4)) (bName 7) dYes (dCall dMin2 (dCons (dVar 7) (dCons (dVar 5) dNil)))) (bName 4))) sNext) (sRet (dFn 3 sp__law_renamed_row (dCons (dVar 0) (dCons (dVar 1) (dCons (dVar 4) dNil)))))))))
def T__law_row (K : PySem.W.Frag) (sp__law_renamed_row : VSp) (sp__law_draw : VSp) (sp__law_grown_row : VSp) (sp__law_columns_row : VSp) (sp__law_blocks_row : VSp) : TS := (tSeq (tAsg (tCB (toSp K 2 sp__law_draw) (tCons (tVar 0) (tCons (tC (.int 6)) tNil))) (gName 3)) (tSeq (tIfS (tTest (tOp rLtI (tVar 3) (tC (.int 3)))) (tAsg (tCB (toSp K 2 sp__law_grown_row) (tCons (tVar 0) (tCons (tVar 1) tNil))) (gName 4)) (tIfS (tTest (tOp rLtI (tVar 3) (tC (.int 5)))) (tAsg (tCB (toSp K 2 sp__law_columns_row) (tCons (tVar 0) (tCons (tVar 1) tNil))) (gName 4)) (tAsg (tCB (toSp K 3 sp__law_blocks_row) (tCons (tVar 0) (tCons (tVar 1) (tCons (tVar 2) tNil)))) (gName 4)))) (tSeq (tIfS (tTest (tOp (rEqD K) (tCB (toSp K 2 sp__law_draw) (tCons (tVar 0) (tCons (tC (.int 4)) tNil))) (tC (.int 0)))) (tAsg (tLc (iRng1 (tCons (tCB (rLenA K) (tCons (tVar 4) tNil)) tNil)) (gName 6) tYes (tOp (rAddA K) (tOp rSubI (tOp (rIx K) (tVar 2) (tVar 6)) (tOp (rIx K) (tVar 4) (tUn (rU fun i => .int (-i)) (tC (.int 1))))) (tOp (rIx K) (tVar 4) (tOp rSubI (tOp rSubI (tCB (rLenA K) (tCons (tVar 4) tNil)) (tC (.int 1))) (tVar 6)))) [6]) (gName 4)) tNext) (tSeq (tIfS (tTest (tOp (rEqD K) (tCB (toSp K 2 sp__law_draw) (tCons (tVar 0) (tCons (tC (.int 6)) tNil))) (tC (.int 0)))) (tSeq (tAsg (tCB (toSp K 2 sp__law_draw) (tCons (tVar 0) (tCons (tOp (rAddA K) (tOp (rIx K) (tVar 4) (tUn (rU fun i => .int (-i)) (tC (.int 1)))) (tC (.int 1))) tNil))) (gName 5)) (tAsg (tLc (iSeq K (tVar 4)) (gName 7) tYes (tCB rMin2 (tCons (tVar 7) (tCons (tVar 5) tNil))) [7]) (gName 4))) tNext) (tRet (tCB (toSp K 3 sp__law_renamed_row) (tCons (tVar 0) (tCons (tVar 1) (tCons (tVar 4) tNil)))))))))
theorem ok__law_row {P : Program} {w : World} {K : PySem.W.Frag} {mg : Str → Option Value} {base : Heap} {f : Addr} {fd : FuncData} {sp : VSp} {sp__law_renamed_row : VSp} {sp__law_draw : VSp} {sp__law_grown_row : VSp} {sp__law_columns_row : VSp} {sp__law_blocks_row : VSp} (hm : mg "_law_row" = some (.ref f)) (F : FunD K "_law_row" "_law_row" (defArgs s__law_row) (defBody s__law_row) (defScope s__law_row) [] [] f fd) (c__law_renamed_row : Def P w K mg base 2 "_law_renamed_row" s__law_renamed_row P__law_renamed_row sp__law_renamed_row) (c__law_draw : Def P w K mg base 1 "_law_draw" s__law_draw P__law_draw sp__law_draw) (c__law_grown_row : Def P w K mg base 2 "_law_grown_row" s__law_grown_row P__law_grown_row sp__law_grown_row) (c__law_columns_row : Def P w K mg base 3 "_law_columns_row" s__law_columns_row P__law_columns_row sp__law_columns_row) (c__law_blocks_row : Def P w K mg base 2 "_law_blocks_row" s__law_blocks_row P__law_blocks_row sp__law_blocks_row) (m_min : mg "min" = none) (m_len : mg "len" = none) (m_range : mg "range" = none)
    (hd : ∀ (ds : List PyData) (β : Bag) (Q : PyData → Bag → Prop), ds.length = 3 → sp ds β Q → D__law_row sp__law_renamed_row sp__law_draw sp__law_grown_row sp__law_columns_row sp__law_blocks_row { nx := fun s => Q .none s.β, rt := Q } (initS 8 ds β)) : Def P w K mg base (4) "_law_row" s__law_row P__law_row sp :=
  def_of' hm F sc__law_row (fun _ _ _ _ _ _ us hl => match us, hl with | [_, _, _], _ => rfl) (T__law_row K sp__law_renamed_row sp__law_draw sp__law_grown_row sp__law_columns_row sp__law_blocks_row) (D__law_row sp__law_renamed_row sp__law_draw sp__law_grown_row sp__law_columns_row sp__law_blocks_row) hd fun cd A outer s H hr => have nd := sc__law_row.nd; (vb_cons (vs_setN (i := 3) (v_call c__law_draw (hr.mono (by decide)) (by rfl) (va_cons (v_nm 0) (va_cons v_int va_nil))) nd)
  (vb_cons (vs_if (vt_cmp op_lt lt_v (v_nm 3) v_int (nomark _)) (vb_one (vs_setN (i := 4) (v_call c__law_grown_row (hr.mono (by decide)) (by rfl) (va_cons (v_nm 0) (va_cons (v_nm 1) va_nil))) nd)) (vb_one (vs_if (vt_cmp op_lt lt_v (v_nm 3) v_int (nomark _)) (vb_one (vs_setN (i := 4) (v_call c__law_columns_row (hr.mono (by decide)) (by rfl) (va_cons (v_nm 0) (va_cons (v_nm 1) va_nil))) nd)) (vb_one (vs_setN (i := 4) (v_call c__law_blocks_row (hr.mono (by decide)) (by rfl) (va_cons (v_nm 0) (va_cons (v_nm 1) (va_cons (v_nm 2) va_nil)))) nd)))))
  (vb_cons (vs_if (vt_cmp (op_eqD hr.u64) opv_eq (v_call c__law_draw (hr.mono (by decide)) (by rfl) (va_cons (v_nm 0) (va_cons v_int va_nil))) v_int (nomark _)) (vb_one (vs_setN (i := 4) (VO.e (v_lc (own := [("code", 6)]) (by rfl) nd (vi_range1 (by rfl) m_range (va_cons (v_bc call_len_seq callv_len (by rfl) m_len bb_len (va_cons (v_nm 4) va_nil)) va_nil)) (blkOk_by (N := N__law_row) (sc := defScope s__law_row) (own := [("code", 6)]) (by decide +kernel)) (fun _ _ _ _ _ => (vg_nm 6 nd)) (fun _ _ _ _ _ => vts_nil) (fun _ _ _ _ _ => (v_add (v_sub (v_ix (v_nm 2) (v_nm 6) (by intro _ _; rfl)) (v_ix (v_nm 4) (v_neg v_int) (by intro _ _; rfl))) (v_ix (v_nm 4) (v_sub (v_sub (v_bc call_len_seq callv_len (by rfl) m_len bb_len (va_cons (v_nm 4) va_nil)) v_int) (v_nm 6)) (by intro _ _; rfl)))))) nd)) vb_nil)
  (vb_cons (vs_if (vt_cmp (op_eqD hr.u64) opv_eq (v_call c__law_draw (hr.mono (by decide)) (by rfl) (va_cons (v_nm 0) (va_cons v_int va_nil))) v_int (nomark _)) (vb_cons (vs_setN (i := 5) (v_call c__law_draw (hr.mono (by decide)) (by rfl) (va_cons (v_nm 0) (va_cons (v_add (v_ix (v_nm 4) (v_neg v_int) (by intro _ _; rfl)) v_int) va_nil))) nd)
  (vb_one (vs_setN (i := 4) (VO.e (v_lc (own := [("rank", 7)]) (by rfl) nd (vi_seq (v_nm 4)) (blkOk_by (N := N__law_row) (sc := defScope s__law_row) (own := [("rank", 7)]) (by decide +kernel)) (fun _ _ _ _ _ => (vg_nm 7 nd)) (fun _ _ _ _ _ => vts_nil) (fun _ _ _ _ _ => (v_bc (cr_min2 (by rfl)) callv_min2 (by rfl) m_min bb_min (va_cons (v_nm 7) (va_cons (v_nm 5) va_nil)))))) nd))) vb_nil)
  (vb_one (vs_ret (v_call c__law_renamed_row (hr.mono (by decide)) (by rfl) (va_cons (v_nm 0) (va_cons (v_nm 1) (va_cons (v_nm 4) va_nil))))))))))
/-! ### _law_table: 0 n, 1 lots, 2 row, 3 most, 4 codes, 5 code -/
abbrev N__law_table : List Str := ["n", "lots", "row", "most", "codes", "code"]
abbrev P__law_table : List Str := ["n", "lots", "row"]
theorem sc__law_table : FnScope N__law_table P__law_table (defScope s__law_table) := ⟨rfl, rfl, rfl, by decide +kernel, rfl, by decide +kernel, by decide +kernel⟩
def D__law_table : DS := (sSeq (sAsg (dOp dIx (dVar 2) (dNeg (dC (.int 1)))) (bName 3)) (sSeq (sAsg (dLc [5] (dRange1 (dCons (dCall dLen (dCons (dVar 2) dNil)) dNil)) (bName 5) (dAndT (dTest (dOp dEq (dOp dIx (dVar 2) (dVar 5)) (dVar 3))) (dTest (dOp dEq (dCall dLen (dCons (dOp dIx (dVar 1) (dVar 5)) dNil)) (dVar 3)))) (dVar 5)) (bName 4)) (sRet (dTup (dCons (dVar 0) (dCons (dCall dTupOf (dCons (dCall dSorted (dCons (dLc [5] (dSeqI (dVar 4)) (bName 5) dYes (dOp dIx (dVar 1) (dVar 5))) dNil)) dNil)) dNil))))))
def T__law_table (K : PySem.W.Frag) : TS := (tSeq (tAsg (tOp (rIx K) (tVar 2) (tUn (rU fun i => .int (-i)) (tC (.int 1)))) (gName 3)) (tSeq (tAsg (tLc (iRng1 (tCons (tCB (rLenA K) (tCons (tVar 2) tNil)) tNil)) (gName 5) (tAnd (tTest (tOp (rEqD K) (tOp (rIx K) (tVar 2) (tVar 5)) (tVar 3))) (tTest (tOp (rEqD K) (tCB (rLenA K) (tCons (tOp (rIx K) (tVar 1) (tVar 5)) tNil)) (tVar 3)))) (tVar 5) [5]) (gName 4)) (tRet (tTup (tCons (tVar 0) (tCons (tCB (rTupA K) (tCons (tCB (rSortedA K) (tCons (tLc (iSeq K (tVar 4)) (gName 5) tYes (tOp (rIx K) (tVar 1) (tVar 5)) [5]) tNil)) tNil)) tNil))))))
theorem ok__law_table {P : Program} {w : World} {K : PySem.W.Frag} {mg : Str → Option Value} {base : Heap} {f : Addr} {fd : FuncData} {sp : VSp} (hm : mg "_law_table" = some (.ref f)) (F : FunD K "_law_table" "_law_table" (defArgs s__law_table) (defBody s__law_table) (defScope s__law_table) [] [] f fd) (m_tuple : mg "tuple" = none) (m_sorted : mg "sorted" = none) (m_len : mg "len" = none) (m_range : mg "range" = none)
    (hd : ∀ (ds : List PyData) (β : Bag) (Q : PyData → Bag → Prop), ds.length = 3 → sp ds β Q → D__law_table { nx := fun s => Q .none s.β, rt := Q } (initS 6 ds β)) : Def P w K mg base (1) "_law_table" s__law_table P__law_table sp :=
  def_of' hm F sc__law_table (fun _ _ _ _ _ _ us hl => match us, hl with | [_, _, _], _ => rfl) (T__law_table K) (D__law_table) hd fun cd A outer s H hr => have nd := sc__law_table.nd; (vb_cons (vs_setN (i := 3) (v_ix (v_nm 2) (v_neg v_int) (by intro _ _; rfl)) nd)
  (vb_cons (vs_lcSet (i := 4) (own := [("code", 5)]) (by rfl) nd (by rfl) (by rfl) (sw_true (by rfl) (by rfl) (by rfl) (by decide +kernel)) (vi_range1 (by rfl) m_range (va_cons (v_bc call_len_seq callv_len (by rfl) m_len bb_len (va_cons (v_nm 2) va_nil)) va_nil)) (blkOk_by (N := N__law_table) (sc := defScope s__law_table) (own := [("code", 5)]) (by decide +kernel)) (fun _ _ _ _ _ => (vg_nm 5 nd)) (fun _ _ _ _ _ => (vts_one (VW.t (vw_and (vt_cmp (op_eqD hr.u64) opv_eq (v_ix (v_nm 2) (v_nm 5) (by intro _ _; rfl)) (v_nm 3) (nomark _)) (vw_and1 (vt_cmp (op_eqD hr.u64) opv_eq (v_bc call_len_seq callv_len (by rfl) m_len bb_len (va_cons (v_ix (v_nm 1) (v_nm 5) (by intro _ _; rfl)) va_nil)) (v_nm 3) (nomark _))))))) (fun _ _ _ _ _ => (v_nm 5)))
  (vb_one (vs_ret (v_tup (va_cons (v_nm 0) (va_cons (v_ty call_tuple_of callv_tuple (by rfl) m_tuple bb_tuple (va_cons (VO.e (v_bcO (cr_sortedA (by rfl) hr.u64) callv_sorted (by rfl) m_sorted bb_sorted (va_cons (VO.e (v_lc (own := [("code", 5)]) (by rfl) nd (vi_seq (v_nm 4)) (blkOk_by (N := N__law_table) (sc := defScope s__law_table) (own := [("code", 5)]) (by decide +kernel)) (fun _ _ _ _ _ => (vg_nm 5 nd)) (fun _ _ _ _ _ => vts_nil) (fun _ _ _ _ _ => (v_ix (v_nm 1) (v_nm 5) (by intro _ _; rfl))))) va_nil))) va_nil)) va_nil)))))))
/-! ### _law_closures: 0 n, 1 row, 2 bits, 3 found, 4 code, 5 rank, 6 x, 7 bit -/
abbrev N__law_closures : List Str := ["n", "row", "bits", "found", "code", "rank", "x", "bit"]
abbrev P__law_closures : List Str := ["n", "row"]
theorem sc__law_closures : FnScope N__law_closures P__law_closures (defScope s__law_closures) := ⟨rfl, rfl, rfl, by decide +kernel, rfl, by decide +kernel, by decide +kernel⟩
def D__law_closures : DS := (sSeq (sPar [2, 3] (dmSh (dLc [6] (dRange1 (dCons (dVar 0) dNil)) (bName 6) dYes (dOp dShl (dC (.int 1)) (dVar 6))) (dmOw (dLst dNil) dmNil))) (sSeq (sFor (dEnumI (dCons (dVar 1) dNil)) (bSeq 2 (bCons (bName 4) (bCons (bName 5) bNil))) (sDrop (dMeth "list" 3 mAppend (dCons (dCall dSumOf (dCons (dLc [7] (dSeqI (dVar 2)) (bName 7) (dTest (dOp dEq (dOp dIx (dVar 1) (dOp dOr (dVar 4) (dVar 7))) (dVar 5))) (dVar 7)) dNil)) dNil)))) (sRet (dVar 3))))
def T__law_closures (K : PySem.W.Frag) : TS := (tSeq (tPar 2 3 (tCons (tLc (iRng1 (tCons (tVar 0) tNil)) (gName 6) tYes (tOp rShlI (tC (.int 1)) (tVar 6)) [6]) (tCons (tLst tNil) tNil))) (tSeq (tFor (iEnum K (tCons (tVar 1) tNil)) (gSeq K 2 (gCons (gName 4) (gCons (gName 5) gNil))) (tDrop (tBM K "list" rAppend (tVar 3) (tCons (tCB (rSum K) (tCons (tLc (iSeq K (tVar 2)) (gName 7) (tTest (tOp (rEqD K) (tOp (rIx K) (tVar 1) (tOp rOrI (tVar 4) (tVar 7))) (tVar 5))) (tVar 7) [7]) tNil)) tNil)))) (tRet (tVar 3))))
theorem ok__law_closures {P : Program} {w : World} {K : PySem.W.Frag} {mg : Str → Option Value} {base : Heap} {f : Addr} {fd : FuncData} {sp : VSp} (hm : mg "_law_closures" = some (.ref f)) (F : FunD K "_law_closures" "_law_closures" (defArgs s__law_closures) (defBody s__law_closures) (defScope s__law_closures) [] [] f fd) (m_enumerate : mg "enumerate" = none) (m_sum : mg "sum" = none) (m_range : mg "range" = none)
    (hd : ∀ (ds : List PyData) (β : Bag) (Q : PyData → Bag → Prop), ds.length = 2 → sp ds β Q → D__law_closures { nx := fun s => Q .none s.β, rt := Q } (initS 8 ds β)) : Def P w K mg base (1) "_law_closures" s__law_closures P__law_closures sp :=
  def_of' hm F sc__law_closures (fun _ _ _ _ _ _ us hl => match us, hl with | [_, _], _ => rfl) (T__law_closures K) (D__law_closures) hd fun cd A outer s H hr => have nd := sc__law_closures.nd; (vb_cons (vs_par (i := 2) (j := 3) (by rfl) nd (by rfl) (by rfl) (by decide) (by rfl) (by rfl) (vm_sh (VO.e (v_lc (own := [("x", 6)]) (by rfl) nd (vi_range1 (by rfl) m_range (va_cons (v_nm 0) va_nil)) (blkOk_by (N := N__law_closures) (sc := defScope s__law_closures) (own := [("x", 6)]) (by decide +kernel)) (fun _ _ _ _ _ => (vg_nm 6 nd)) (fun _ _ _ _ _ => vts_nil) (fun _ _ _ _ _ => (v_shl v_int (v_nm 6))))) (vm_ow (v_lst va_nil) vm_nil)) (by rfl))
  (vb_cons (vs_for PassesOwn.never (by rfl) (vi_enum (by rfl) m_enumerate (va_cons (v_nm 1) va_nil)) (vg_seq (by rfl) (vgs_cons (vg_nm 4 nd) (vgs_cons (vg_nm 5 nd) vgs_nil))) (vb_one (vs_expr (v_meth PySem.F.plainAttrs_list PySem.F.slot_list_append PySem.F.type_list_append app_m methv_append (pv 3) (va_cons (v_bc (cr_sum (by rfl)) callv_sum (by rfl) m_sum bb_sum (va_cons (VO.e (v_lc (own := [("bit", 7)]) (by rfl) nd (vi_seq (v_nm 2)) (blkOk_by (N := N__law_closures) (sc := defScope s__law_closures) (own := [("bit", 7)]) (by decide +kernel)) (fun _ _ _ _ _ => (vg_nm 7 nd)) (fun _ _ _ _ _ => (vts_one (vt_cmp (op_eqD hr.u64) opv_eq (v_ix (v_nm 1) (v_bor (v_nm 4) (v_nm 7)) (by intro _ _; rfl)) (v_nm 5) (nomark _)))) (fun _ _ _ _ _ => (v_nm 7)))) va_nil)) va_nil)))))
  (vb_one (vs_ret (v_nm 3)))))
/-! ### _law_is: 0 told, 1 due, 2 a, 3 b -/
abbrev N__law_is : List Str := ["told", "due", "a", "b"]
abbrev P__law_is : List Str := ["told", "due"]
theorem sc__law_is : FnScope N__law_is P__law_is (defScope s__law_is) := ⟨rfl, rfl, rfl, by decide +kernel, rfl, by decide +kernel, by decide +kernel⟩
def D__law_is : DS := (sSeq (sIf (dTest (dOp dNe (dCall dReprX (dCons (dVar 0) dNil)) (dCall dReprX (dCons (dVar 1) dNil)))) (sRet (dC (.bool false))) sNext) (sSeq (sIf (dTru (dIsX "tuple" (dVar 1))) (sRet (dAndV (dIsX "tuple" (dVar 0)) (dCall dAllOf (dCons (dLc [2, 3] (dZipX (dCons (dVar 0) (dCons (dVar 1) dNil))) (bSeq 2 (bCons (bName 2) (bCons (bName 3) bNil))) dYes (dOp dEq (dIsX "tuple" (dVar 2)) (dIsX "tuple" (dVar 3)))) dNil)))) sNext) (sSeq (sIf (dTest (dOp (dInS false) (dCall dReprX (dCons (dVar 1) dNil)) (dTup (dCons (dC (.str (PySem.Str.ofString "True"))) (dCons (dC (.str (PySem.Str.ofString "False"))) (dCons (dC (.str (PySem.Str.ofString "None"))) dNil)))))) (sRet (dOrV (dOp dIsB (dVar 0) (dC (.bool true))) (dOrV (dOp dIsB (dVar 0) (dC (.bool false))) (dOp dIsN (dVar 0) (dC .none))))) sNext) (sRet (dAndV (dOp dEq (dIsX "int" (dVar 0)) (dIsX "int" (dVar 1))) (dOp dEq (dIsX "str" (dVar 0)) (dIsX "str" (dVar 1))))))))
def T__law_is (K : PySem.W.Frag) : TS := (tSeq (tIfS (tTest (tOp (rNeD K) (tCB (rReprX K) (tCons (tVar 0) tNil)) (tCB (rReprX K) (tCons (tVar 1) tNil)))) (tRet (tC (.bl false))) tNext) (tSeq (tIfS (tTru K (tCB (rIsi K) (tCons (tVar 1) (tCons (tC (.ty "tuple")) tNil)))) (tRet (tAndV (tCB (rIsi K) (tCons (tVar 0) (tCons (tC (.ty "tuple")) tNil))) (tCB (rAll K) (tCons (tLc (RZ.iZipA K (tCons (tVar 0) (tCons (tVar 1) tNil))) (gSeq K 2 (gCons (gName 2) (gCons (gName 3) gNil))) tYes (tOp (rEqD K) (tCB (rIsi K) (tCons (tVar 2) (tCons (tC (.ty "tuple")) tNil))) (tCB (rIsi K) (tCons (tVar 3) (tCons (tC (.ty "tuple")) tNil)))) [2, 3]) tNil)))) tNext) (tSeq (tIfS (tTest (tOp (rInA K) (tCB (rReprX K) (tCons (tVar 1) tNil)) (tTup (tCons (tC (.str (PySem.Str.ofString "True"))) (tCons (tC (.str (PySem.Str.ofString "False"))) (tCons (tC (.str (PySem.Str.ofString "None"))) tNil)))))) (tRet (tOrV (tOp rIsBA (tVar 0) (tC (.bl true))) (tOrV (tOp rIsBA (tVar 0) (tC (.bl false))) (tOp rIsNo (tVar 0) (tC .non))))) tNext) (tRet (tAndV (tOp (rEqD K) (tCB (rIsi K) (tCons (tVar 0) (tCons (tC (.ty "int")) tNil))) (tCB (rIsi K) (tCons (tVar 1) (tCons (tC (.ty "int")) tNil)))) (tOp (rEqD K) (tCB (rIsi K) (tCons (tVar 0) (tCons (tC (.ty "str")) tNil))) (tCB (rIsi K) (tCons (tVar 1) (tCons (tC (.ty "str")) tNil)))))))))
theorem ok__law_is {P : Program} {w : World} {K : PySem.W.Frag} {mg : Str → Option Value} {base : Heap} {f : Addr} {fd : FuncData} {sp : VSp} (hm : mg "_law_is" = some (.ref f)) (F : FunD K "_law_is" "_law_is" (defArgs s__law_is) (defBody s__law_is) (defScope s__law_is) [] [] f fd) (hsy : SysAt base) (m_isinstance : mg "isinstance" = none) (m_int : mg "int" = none) (m_str : mg "str" = none) (m_repr : mg "repr" = none) (m_tuple : mg "tuple" = none) (m_all : mg "all" = none) (m_zip : mg "zip" = none)
    (hd : ∀ (ds : List PyData) (β : Bag) (Q : PyData → Bag → Prop), ds.length = 2 → sp ds β Q → D__law_is { nx := fun s => Q .none s.β, rt := Q } (initS 4 ds β)) : Def P w K mg base (1) "_law_is" s__law_is P__law_is sp :=
  def_of' hm F sc__law_is (fun _ _ _ _ _ _ us hl => match us, hl with | [_, _], _ => rfl) (T__law_is K) (D__law_is) hd fun cd A outer s H hr => have nd := sc__law_is.nd; (vb_cons (vs_if (vt_cmp (op_neD hr.u64) opv_ne (v_bc (call_reprX hr.g hr.u64 hsy) callv_reprX (by rfl) m_repr bb_repr (va_cons (v_nm 0) va_nil)) (v_bc (call_reprX hr.g hr.u64 hsy) callv_reprX (by rfl) m_repr bb_repr (va_cons (v_nm 1) va_nil)) (nomark _)) (vb_one (vs_ret v_bl)) vb_nil)
  (vb_cons (vs_if (vt_tru (v_isX (by rfl) m_isinstance bb_isinstance (v_nm 1) (pe_bltn (by rfl) m_tuple bb_tuple (by rfl)))) (vb_one (vs_ret (v_and (v_isX (by rfl) m_isinstance bb_isinstance (v_nm 0) (pe_bltn (by rfl) m_tuple bb_tuple (by rfl))) (v_one (v_bc (cr_all (by rfl)) callv_all (by rfl) m_all bb_all (va_cons (VO.e (v_lc (own := [("a", 2), ("b", 3)]) (by rfl) nd (vi_zipX (by rfl) m_zip (va_cons (v_nm 0) (va_cons (v_nm 1) va_nil))) (blkOk_by (N := N__law_is) (sc := defScope s__law_is) (own := [("a", 2), ("b", 3)]) (by decide +kernel)) (fun _ _ _ _ _ => (vg_seq (by rfl) (vgs_cons (vg_nm 2 nd) (vgs_cons (vg_nm 3 nd) vgs_nil)))) (fun _ _ _ _ _ => vts_nil) (fun _ _ _ _ _ => (v_cmp (op_eqD hr.u64) opv_eq (v_isX (by rfl) m_isinstance bb_isinstance (v_nm 2) (pe_bltn (by rfl) m_tuple bb_tuple (by rfl))) (v_isX (by rfl) m_isinstance bb_isinstance (v_nm 3) (pe_bltn (by rfl) m_tuple bb_tuple (by rfl))) (nomark _))))) va_nil)))))) vb_nil)
  (vb_cons (vs_if (vt_cmp (op_inA hr.u65) opv_inS (v_bc (call_reprX hr.g hr.u64 hsy) callv_reprX (by rfl) m_repr bb_repr (va_cons (v_nm 1) va_nil)) (v_tup (va_cons v_str (va_cons v_str (va_cons v_str va_nil)))) (by rfl)) (vb_one (vs_ret (v_or (v_cmp op_isBA opv_isB (v_nm 0) v_bl (nomark _)) (v_or (v_cmp op_isBA opv_isB (v_nm 0) v_bl (nomark _)) (v_one (v_cmp op_isN opv_isN (v_nm 0) v_non (nomark _))))))) vb_nil)
  (vb_one (vs_ret (v_and (v_cmp (op_eqD hr.u64) opv_eq (v_isX (by rfl) m_isinstance bb_isinstance (v_nm 0) (pe_bltn (by rfl) m_int bb_int (by rfl))) (v_isX (by rfl) m_isinstance bb_isinstance (v_nm 1) (pe_bltn (by rfl) m_int bb_int (by rfl))) (nomark _)) (v_one (v_cmp (op_eqD hr.u64) opv_eq (v_isX (by rfl) m_isinstance bb_isinstance (v_nm 0) (pe_bltn (by rfl) m_str bb_str (by rfl))) (v_isX (by rfl) m_isinstance bb_isinstance (v_nm 1) (pe_bltn (by rfl) m_str bb_str (by rfl))) (nomark _)))))))))
/-! ### _law_asked: 0 bag, 1 n, 2 flats, 3 many, 4 found, 5 turn, 6 way, 7 flat, 8 bit -/
abbrev N__law_asked : List Str := ["bag", "n", "flats", "many", "found", "turn", "way", "flat", "bit"]
abbrev P__law_asked : List Str := ["bag", "n", "flats"]
theorem sc__law_asked : FnScope N__law_asked P__law_asked (defScope s__law_asked) := ⟨rfl, rfl, rfl, by decide +kernel, rfl, by decide +kernel, by decide +kernel⟩
def D__law_asked (sp__law_draw : VSp) (sp__law_pick : VSp) : DS := (sSeq (sAsg (dOp dShl (dC (.int 1)) (dVar 1)) (bName 3)) (sSeq (sIf (dTest (dOp dLt (dVar 1) (dC (.int 4)))) (sRet (dLstRg (dRg1 (dVar 3)))) sNext) (sSeq (sOwn (dLst (dCons (dC (.int 0)) (dCons (dOp dSub (dVar 3) (dC (.int 1))) dNil))) 4) (sSeq (sFor (dRange1 (dCons (dC (.int 8)) dNil)) (bName 5) (sSeq (sPar [6, 7, 8] (dmSh (dFn 2 sp__law_draw (dCons (dVar 0) (dCons (dC (.int 4)) dNil))) (dmSh (dFn 2 sp__law_pick (dCons (dVar 0) (dCons (dVar 2) dNil))) (dmSh (dOp dShl (dC (.int 1)) (dFn 2 sp__law_draw (dCons (dVar 0) (dCons (dVar 1) dNil)))) dmNil)))) (sIf (dTest (dOp dEq (dVar 6) (dC (.int 0)))) (sDrop (dMeth "list" 4 mAppend (dCons (dVar 7) dNil))) (sIf (dTest (dOp dEq (dVar 6) (dC (.int 1)))) (sDrop (dMeth "list" 4 mAppend (dCons (dOp dAnd (dVar 7) (dOp dSub (dOp dSub (dVar 3) (dC (.int 1))) (dVar 8))) dNil))) (sIf (dTest (dOp dEq (dVar 6) (dC (.int 2)))) (sDrop (dMeth "list" 4 mAppend (dCons (dOp dOr (dVar 7) (dVar 8)) dNil))) (sDrop (dMeth "list" 4 mAppend (dCons (dFn 2 sp__law_draw (dCons (dVar 0) (dCons (dVar 3) dNil))) dNil)))))))) (sRet (dVar 4))))))
def T__law_asked (K : PySem.W.Frag) (sp__law_draw : VSp) (sp__law_pick : VSp) : TS := (tSeq (tAsg (tOp rShlI (tC (.int 1)) (tVar 1)) (gName 3)) (tSeq (tIfS (tTest (tOp rLtI (tVar 1) (tC (.int 4)))) (tRet (tLstRg (tRg1 (tVar 3)))) tNext) (tSeq (tAsg (tLst (tCons (tC (.int 0)) (tCons (tOp rSubI (tVar 3) (tC (.int 1))) tNil))) (gName 4)) (tSeq (tFor (iRng1 (tCons (tC (.int 8)) tNil)) (gName 5) (tSeq (tPar3 6 7 8 (tCons (tCB (toSp K 2 sp__law_draw) (tCons (tVar 0) (tCons (tC (.int 4)) tNil))) (tCons (tCB (toSp K 2 sp__law_pick) (tCons (tVar 0) (tCons (tVar 2) tNil))) (tCons (tOp rShlI (tC (.int 1)) (tCB (toSp K 2 sp__law_draw) (tCons (tVar 0) (tCons (tVar 1) tNil)))) tNil)))) (tIfS (tTest (tOp (rEqD K) (tVar 6) (tC (.int 0)))) (tDrop (tBM K "list" rAppend (tVar 4) (tCons (tVar 7) tNil))) (tIfS (tTest (tOp (rEqD K) (tVar 6) (tC (.int 1)))) (tDrop (tBM K "list" rAppend (tVar 4) (tCons (tOp rAndI (tVar 7) (tOp rSubI (tOp rSubI (tVar 3) (tC (.int 1))) (tVar 8))) tNil))) (tIfS (tTest (tOp (rEqD K) (tVar 6) (tC (.int 2)))) (tDrop (tBM K "list" rAppend (tVar 4) (tCons (tOp rOrI (tVar 7) (tVar 8)) tNil))) (tDrop (tBM K "list" rAppend (tVar 4) (tCons (tCB (toSp K 2 sp__law_draw) (tCons (tVar 0) (tCons (tVar 3) tNil))) tNil)))))))) (tRet (tVar 4))))))
theorem ok__law_asked {P : Program} {w : World} {K : PySem.W.Frag} {mg : Str → Option Value} {base : Heap} {f : Addr} {fd : FuncData} {sp : VSp} {sp__law_draw : VSp} {sp__law_pick : VSp} (hm : mg "_law_asked" = some (.ref f)) (F : FunD K "_law_asked" "_law_asked" (defArgs s__law_asked) (defBody s__law_asked) (defScope s__law_asked) [] [] f fd) (c__law_draw : Def P w K mg base 1 "_law_draw" s__law_draw P__law_draw sp__law_draw) (c__law_pick : Def P w K mg base 2 "_law_pick" s__law_pick P__law_pick sp__law_pick) (m_range : mg "range" = none) (m_list : mg "list" = none)
    (hd : ∀ (ds : List PyData) (β : Bag) (Q : PyData → Bag → Prop), ds.length = 3 → sp ds β Q → D__law_asked sp__law_draw sp__law_pick { nx := fun s => Q .none s.β, rt := Q } (initS 9 ds β)) : Def P w K mg base (3) "_law_asked" s__law_asked P__law_asked sp :=
  def_of' hm F sc__law_asked (fun _ _ _ _ _ _ us hl => match us, hl with | [_, _, _], _ => rfl) (T__law_asked K sp__law_draw sp__law_pick) (D__law_asked sp__law_draw sp__law_pick) hd fun cd A outer s H hr => have nd := sc__law_asked.nd; (vb_cons (vs_setN (i := 3) (v_shl v_int (v_nm 1)) nd)
  (vb_cons (vs_if (vt_cmp op_lt lt_v (v_nm 1) v_int (nomark _)) (vb_one (vs_ret (VO.e (v_lstRg (by rfl) (by rfl) m_list (vr_1 (by rfl) m_range (v_nm 3)))))) vb_nil)
  (vb_cons (vs_ownN (i := 4) (v_lst (va_cons v_int (va_cons (v_sub (v_nm 3) v_int) va_nil))) nd)
  (vb_cons (vs_for PassesOwn.never (by rfl) (vi_range1 (by rfl) m_range (va_cons v_int va_nil)) (vg_nm 5 nd) (vb_cons (vs_par3 (i := 6) (j := 7) (l := 8) (by rfl) nd (by rfl) (by rfl) (by rfl) (by decide) (by decide) (by decide) (by rfl) (by rfl) (by rfl) (vm_sh (v_call c__law_draw (hr.mono (by decide)) (by rfl) (va_cons (v_nm 0) (va_cons v_int va_nil))) (vm_sh (v_call c__law_pick (hr.mono (by decide)) (by rfl) (va_cons (v_nm 0) (va_cons (v_nm 2) va_nil))) (vm_sh (v_shl v_int (v_call c__law_draw (hr.mono (by decide)) (by rfl) (va_cons (v_nm 0) (va_cons (v_nm 1) va_nil)))) vm_nil))) (by rfl))
  (vb_one (vs_if (vt_cmp (op_eqD hr.u64) opv_eq (v_nm 6) v_int (nomark _)) (vb_one (vs_expr (v_meth PySem.F.plainAttrs_list PySem.F.slot_list_append PySem.F.type_list_append app_m methv_append (pv 4) (va_cons (v_nm 7) va_nil)))) (vb_one (vs_if (vt_cmp (op_eqD hr.u64) opv_eq (v_nm 6) v_int (nomark _)) (vb_one (vs_expr (v_meth PySem.F.plainAttrs_list PySem.F.slot_list_append PySem.F.type_list_append app_m methv_append (pv 4) (va_cons (v_band (v_nm 7) (v_sub (v_sub (v_nm 3) v_int) (v_nm 8))) va_nil)))) (vb_one (vs_if (vt_cmp (op_eqD hr.u64) opv_eq (v_nm 6) v_int (nomark _)) (vb_one (vs_expr (v_meth PySem.F.plainAttrs_list PySem.F.slot_list_append PySem.F.type_list_append app_m methv_append (pv 4) (va_cons (v_bor (v_nm 7) (v_nm 8)) va_nil)))) (vb_one (vs_expr (v_meth PySem.F.plainAttrs_list PySem.F.slot_list_append PySem.F.type_list_append app_m methv_append (pv 4) (va_cons (v_call c__law_draw (hr.mono (by decide)) (by rfl) (va_cons (v_nm 0) (va_cons (v_nm 3) va_nil))) va_nil))))))))))))
  (vb_one (vs_ret (v_nm 4)))))))
/-! ### _law_asked_ranks: 0 bag, 1 n, 2 most -/
abbrev N__law_asked_ranks : List Str := ["bag", "n", "most"]
abbrev P__law_asked_ranks : List Str := ["bag", "n", "most"]
theorem sc__law_asked_ranks : FnScope N__law_asked_ranks P__law_asked_ranks (defScope s__law_asked_ranks) := ⟨rfl, rfl, rfl, by decide +kernel, rfl, by decide +kernel, by decide +kernel⟩
def D__law_asked_ranks (sp__law_draw : VSp) : DS := (sSeq (sIf (dTest (dOp dLt (dVar 1) (dC (.int 8)))) (sRet (dLstRg (dRg1 (dOp dAdd (dVar 2) (dC (.int 1)))))) sNext) (sRet (dLst (dCons (dC (.int 0)) (dCons (dVar 2) (dCons (dCall dMax2 (dCons (dC (.int 0)) (dCons (dOp dSub (dVar 2) (dC (.int 1))) dNil))) (dCons (dFn 2 sp__law_draw (dCons (dVar 0) (dCons (dOp dAdd (dVar 2) (dC (.int 1))) dNil))) dNil)))))))
def T__law_asked_ranks (K : PySem.W.Frag) (sp__law_draw : VSp) : TS := (tSeq (tIfS (tTest (tOp rLtI (tVar 1) (tC (.int 8)))) (tRet (tLstRg (tRg1 (tOp (rAddA K) (tVar 2) (tC (.int 1)))))) tNext) (tRet (tLst (tCons (tC (.int 0)) (tCons (tVar 2) (tCons (tCB rMax2 (tCons (tC (.int 0)) (tCons (tOp rSubI (tVar 2) (tC (.int 1))) tNil))) (tCons (tCB (toSp K 2 sp__law_draw) (tCons (tVar 0) (tCons (tOp (rAddA K) (tVar 2) (tC (.int 1))) tNil))) tNil)))))))
theorem ok__law_asked_ranks {P : Program} {w : World} {K : PySem.W.Frag} {mg : Str → Option Value} {base : Heap} {f : Addr} {fd : FuncData} {sp : VSp} {sp__law_draw : VSp} (hm : mg "_law_asked_ranks" = some (.ref f)) (F : FunD K "_law_asked_ranks" "_law_asked_ranks" (defArgs s__law_asked_ranks) (defBody s__law_asked_ranks) (defScope s__law_asked_ranks) [] [] f fd) (c__law_draw : Def P w K mg base 1 "_law_draw" s__law_draw P__law_draw sp__law_draw) (m_max : mg "max" = none) (m_list : mg "list" = none) (m_range : mg "range" = none)
    (hd : ∀ (ds : List PyData) (β : Bag) (Q : PyData → Bag → Prop), ds.length = 3 → sp ds β Q → D__law_asked_ranks sp__law_draw { nx := fun s => Q .none s.β, rt := Q } (initS 3 ds β)) : Def P w K mg base (2) "_law_asked_ranks" s__law_asked_ranks P__law_asked_ranks sp :=
  def_of' hm F sc__law_asked_ranks (fun _ _ _ _ _ _ us hl => match us, hl with | [_, _, _], _ => rfl) (T__law_asked_ranks K sp__law_draw) (D__law_asked_ranks sp__law_draw) hd fun cd A outer s H hr => have nd := sc__law_asked_ranks.nd; (vb_cons (vs_if (vt_cmp op_lt lt_v (v_nm 1) v_int (nomark _)) (vb_one (vs_ret (VO.e (v_lstRg (by rfl) (by rfl) m_list (vr_1 (by rfl) m_range (v_add (v_nm 2) v_int)))))) vb_nil)
  (vb_one (vs_ret (VO.e (v_lst (va_cons v_int (va_cons (v_nm 2) (va_cons (v_bc (cr_max2 (by rfl)) callv_max2 (by rfl) m_max bb_max (va_cons v_int (va_cons (v_sub (v_nm 2) v_int) va_nil))) (va_cons (v_call c__law_draw (hr.mono (by decide)) (by rfl) (va_cons (v_nm 0) (va_cons (v_add (v_nm 2) v_int) va_nil))) va_nil)))))))))
/-! ### _law_told: 0 lots, 1 codes, 2 code -/
abbrev N__law_told : List Str := ["lots", "codes", "code"]
abbrev P__law_told : List Str := ["lots", "codes"]
theorem sc__law_told : FnScope N__law_told P__law_told (defScope s__law_told) := ⟨rfl, rfl, rfl, by decide +kernel, rfl, by decide +kernel, by decide +kernel⟩
def D__law_told : DS := (sRet (dCall dTupOf (dCons (dCall dSorted (dCons (dLc [2] (dSeqI (dVar 1)) (bName 2) dYes (dOp dIx (dVar 0) (dVar 2))) dNil)) dNil)))
def T__law_told (K : PySem.W.Frag) : TS := (tRet (tCB (rTupA K) (tCons (tCB (rSortedA K) (tCons (tLc (iSeq K (tVar 1)) (gName 2) tYes (tOp (rIx K) (tVar 0) (tVar 2)) [2]) tNil)) tNil)))
theorem ok__law_told {P : Program} {w : World} {K : PySem.W.Frag} {mg : Str → Option Value} {base : Heap} {f : Addr} {fd : FuncData} {sp : VSp} (hm : mg "_law_told" = some (.ref f)) (F : FunD K "_law_told" "_law_told" (defArgs s__law_told) (defBody s__law_told) (defScope s__law_told) [] [] f fd) (m_tuple : mg "tuple" = none) (m_sorted : mg "sorted" = none)
    (hd : ∀ (ds : List PyData) (β : Bag) (Q : PyData → Bag → Prop), ds.length = 2 → sp ds β Q → D__law_told { nx := fun s => Q .none s.β, rt := Q } (initS 3 ds β)) : Def P w K mg base (1) "_law_told" s__law_told P__law_told sp :=
  def_of' hm F sc__law_told (fun _ _ _ _ _ _ us hl => match us, hl with | [_, _], _ => rfl) (T__law_told K) (D__law_told) hd fun cd A outer s H hr => have nd := sc__law_told.nd; (vb_one (vs_ret (v_ty call_tuple_of callv_tuple (by rfl) m_tuple bb_tuple (va_cons (VO.e (v_bcO (cr_sortedA (by rfl) hr.u64) callv_sorted (by rfl) m_sorted bb_sorted (va_cons (VO.e (v_lc (own := [("code", 2)]) (by rfl) nd (vi_seq (v_nm 1)) (blkOk_by (N := N__law_told) (sc := defScope s__law_told) (own := [("code", 2)]) (by decide +kernel)) (fun _ _ _ _ _ => (vg_nm 2 nd)) (fun _ _ _ _ _ => vts_nil) (fun _ _ _ _ _ => (v_ix (v_nm 0) (v_nm 2) (by intro _ _; rfl))))) va_nil))) va_nil))))
/-! ### _law_are_least_right: 0 table, 1 lots, 2 full, 3 flats, 4 code, 5 is_named, 6 lot, 7 words, 8 told, 9 x, 10 flat -/
abbrev N__law_are_least_right : List Str := ["table", "lots", "full", "flats", "code", "is_named", "lot", "words", "told", "x", "flat"]
abbrev P__law_are_least_right : List Str := ["table", "lots", "full", "flats", "code", "is_named"]
theorem sc__law_are_least_right : FnScope N__law_are_least_right P__law_are_least_right (defScope s__law_are_least_right) := ⟨rfl, rfl, rfl, by decide +kernel, rfl, by decide +kernel, by decide +kernel⟩
def D__law_are_least_right (sp__law_is : VSp) (sp_is_flat : VSp) (sp_least_flat : VSp) : DS := (sSeq (sAsg (dOp dIx (dVar 1) (dVar 4)) (bName 6)) (sSeq (sIf (dTru (dVar 5)) (sAsg (dLst (dCons (dFnK sp_is_flat [0, 1] 0 2 2 dNil (dCons (dVar 0) (dCons (dVar 6) dNil))) (dCons (dFnK sp_least_flat [0, 1] 0 2 2 dNil (dCons (dVar 0) (dCons (dVar 6) dNil))) dNil))) (bName 7)) (sAsg (dLst (dCons (dFn 2 sp_is_flat (dCons (dVar 0) (dCons (dVar 6) dNil))) (dCons (dFn 2 sp_least_flat (dCons (dVar 0) (dCons (dVar 6) dNil))) dNil))) (bName 7))) (sSeq (sIf (dOrT (dNotT (dTru (dFn 2 sp__law_is (dCons (dOp dIx (dVar 7) (dC (.int 0))) (dCons (dOp dEq (dVar 2) (dVar 4)) dNil))))) (dNotT (dTru (dFn 2 sp__law_is (dCons (dOp dIx (dVar 7) (dC (.int 1))) (dCons (dOp dIx (dVar 1) (dVar 2)) dNil)))))) (sRet (dC (.bool false))) sNext) (sSeq (sAsg (dCall dSumOf (dCons (dLc [9] (dSeqI (dOp dIx (dVar 7) (dC (.int 1)))) (bName 9) dYes (dOp dShl (dC (.int 1)) (dVar 9))) dNil)) (bName 8)) (sRet (dAndV (dOp dEq (dOp dAnd (dVar 8) (dVar 4)) (dVar 4)) (dCall dAllOf (dCons (dLc [10] (dSeqI (dVar 3)) (bName 10) dYes (dOrV (dOp dNe (dOp dAnd (dVar 10) (dVar 4)) (dVar 4)) (dOp dEq (dOp dAnd (dVar 10) (dVar 8)) (dVar 8)))) dNil))))))))
def T__law_are_least_right (K : PySem.W.Frag) (sp__law_is : VSp) (sp_is_flat : VSp) (sp_least_flat : VSp) : TS := (tSeq (tAsg (tOp (rIx K) (tVar 1) (tVar 4)) (gName 6)) (tSeq (tIfS (tTru K (tVar 5)) (tAsg (tLst (tCons (tCKw (toSp K 2 sp_is_flat) [0, 1] 0 2 tNil (tCons (tVar 0) (tCons (tVar 6) tNil))) (tCons (tCKw (toSp K 2 sp_least_flat) [0, 1] 0 2 tNil (tCons (tVar 0) (tCons (tVar 6) tNil))) tNil))) (gName 7)) (tAsg (tLst (tCons (tCB (toSp K 2 sp_is_flat) (tCons (tVar 0) (tCons (tVar 6) tNil))) (tCons (tCB (toSp K 2 sp_least_flat) (tCons (tVar 0) (tCons (tVar 6) tNil))) tNil))) (gName 7))) (tSeq (tIfS (tOr (tNot (tTru K (tCB (toSp K 2 sp__law_is) (tCons (tOp (rIx K) (tVar 7) (tC (.int 0))) (tCons (tOp (rEqD K) (tVar 2) (tVar 4)) tNil))))) (tNot (tTru K (tCB (toSp K 2 sp__law_is) (tCons (tOp (rIx K) (tVar 7) (tC (.int 1))) (tCons (tOp (rIx K) (tVar 1) (tVar 2)) tNil)))))) (tRet (tC (.bl false))) tNext) (tSeq (tAsg (tCB (rSum K) (tCons (tLc (iSeq K (tOp (rIx K) (tVar 7) (tC (.int 1)))) (gName 9) tYes (tOp rShlI (tC (.int 1)) (tVar 9)) [9]) tNil)) (gName 8)) (tRet (tAndV (tOp (rEqD K) (tOp rAndI (tVar 8) (tVar 4)) (tVar 4)) (tCB (rAll K) (tCons (tLc (iSeq K (tVar 3)) (gName 10) tYes (tOrV (tOp (rNeD K) (tOp rAndI (tVar 10) (tVar 4)) (tVar 4)) (tOp (rEqD K) (tOp rAndI (tVar 10) (tVar 8)) (tVar 8))) [10]) tNil))))))))
theorem ok__law_are_least_right {P : Program} {w : World} {K : PySem.W.Frag} {mg : Str → Option Value} {base : Heap} {f : Addr} {fd : FuncData} {sp : VSp} {sp__law_is : VSp} {sp_is_flat : VSp} {sp_least_flat : VSp} (hm : mg "_law_are_least_right" = some (.ref f)) (F : FunD K "_law_are_least_right" "_law_are_least_right" (defArgs s__law_are_least_right) (defBody s__law_are_least_right) (defScope s__law_are_least_right) [] [] f fd) (c__law_is : Def P w K mg base 1 "_law_is" s__law_is P__law_is sp__law_is) (c_is_flat : Def P w K mg base 5 "is_flat" s_is_flat P_is_flat sp_is_flat) (c_least_flat : Def P w K mg base 4 "least_flat" s_least_flat P_least_flat sp_least_flat) (m_all : mg "all" = none) (m_sum : mg "sum" = none)
    (hd : ∀ (ds : List PyData) (β : Bag) (Q : PyData → Bag → Prop), ds.length = 6 → sp ds β Q → D__law_are_least_right sp__law_is sp_is_flat sp_least_flat { nx := fun s => Q .none s.β, rt := Q } (initS 11 ds β)) : Def P w K mg base (6) "_law_are_least_right" s__law_are_least_right P__law_are_least_right sp :=
  def_of' hm F sc__law_are_least_right (fun _ _ _ _ _ _ us hl => match us, hl with | [_, _, _, _, _, _], _ => rfl) (T__law_are_least_right K sp__law_is sp_is_flat sp_least_flat) (D__law_are_least_right sp__law_is sp_is_flat sp_least_flat) hd fun cd A outer s H hr => have nd := sc__law_are_least_right.nd; (vb_cons (vs_setN (i := 6) (v_ix (v_nm 1) (v_nm 4) (by intro _ _; rfl)) nd)
  (vb_cons (vs_if (vt_tru (v_nm 5)) (vb_one (vs_setN (i := 7) (VO.e (v_lst (va_cons (v_callK0 ["table", "lot"] (js := [0, 1]) c_is_flat (hr.mono (by decide)) (by rfl) (fun _ _ _ _ _ _ us ws h1 h2 => match us, ws, h1, h2 with | [], [_, _], _, _ => rfl) (vk_cons (v_nm 0) (vk_cons (v_nm 6) vk_nil))) (va_cons (v_callK0 ["table", "lot"] (js := [0, 1]) c_least_flat (hr.mono (by decide)) (by rfl) (fun _ _ _ _ _ _ us ws h1 h2 => match us, ws, h1, h2 with | [], [_, _], _, _ => rfl) (vk_cons (v_nm 0) (vk_cons (v_nm 6) vk_nil))) va_nil)))) nd)) (vb_one (vs_setN (i := 7) (VO.e (v_lst (va_cons (v_call c_is_flat (hr.mono (by decide)) (by rfl) (va_cons (v_nm 0) (va_cons (v_nm 6) va_nil))) (va_cons (v_call c_least_flat (hr.mono (by decide)) (by rfl) (va_cons (v_nm 0) (va_cons (v_nm 6) va_nil))) va_nil)))) nd)))
  (vb_cons (vs_if (VW.t (vw_or (vt_not (vt_tru (v_call c__law_is (hr.mono (by decide)) (by rfl) (va_cons (v_ix (v_nm 7) v_int (by intro _ _; rfl)) (va_cons (v_cmp (op_eqD hr.u64) opv_eq (v_nm 2) (v_nm 4) (nomark _)) va_nil))))) (vw_or1 (vt_not (vt_tru (v_call c__law_is (hr.mono (by decide)) (by rfl) (va_cons (v_ix (v_nm 7) v_int (by intro _ _; rfl)) (va_cons (v_ix (v_nm 1) (v_nm 2) (by intro _ _; rfl)) va_nil)))))))) (vb_one (vs_ret v_bl)) vb_nil)
  (vb_cons (vs_setN (i := 8) (v_bc (cr_sum (by rfl)) callv_sum (by rfl) m_sum bb_sum (va_cons (VO.e (v_lc (own := [("x", 9)]) (by rfl) nd (vi_seq (v_ix (v_nm 7) v_int (by intro _ _; rfl))) (blkOk_by (N := N__law_are_least_right) (sc := defScope s__law_are_least_right) (own := [("x", 9)]) (by decide +kernel)) (fun _ _ _ _ _ => (vg_nm 9 nd)) (fun _ _ _ _ _ => vts_nil) (fun _ _ _ _ _ => (v_shl v_int (v_nm 9))))) va_nil)) nd)
  (vb_one (vs_ret (v_and (v_cmp (op_eqD hr.u64) opv_eq (v_band (v_nm 8) (v_nm 4)) (v_nm 4) (nomark _)) (v_one (v_bc (cr_all (by rfl)) callv_all (by rfl) m_all bb_all (va_cons (VO.e (v_lc (own := [("flat", 10)]) (by rfl) nd (vi_seq (v_nm 3)) (blkOk_by (N := N__law_are_least_right) (sc := defScope s__law_are_least_right) (own := [("flat", 10)]) (by decide +kernel)) (fun _ _ _ _ _ => (vg_nm 10 nd)) (fun _ _ _ _ _ => vts_nil) (fun _ _ _ _ _ => (v_or (v_cmp (op_neD hr.u64) opv_ne (v_band (v_nm 10) (v_nm 4)) (v_nm 4) (nomark _)) (v_one (v_cmp (op_eqD hr.u64) opv_eq (v_band (v_nm 10) (v_nm 8)) (v_nm 8) (nomark _))))))) va_nil))))))))))
/-! ### law: 0 script, 1 bag, 2 n, 3 lots, 4 pops, 5 first, 6 is_renamed, 7 rows, 8 tables, 9 kept, 10 closures, 11 flats, 12 code, 13 dues, 14 some, 15 rank, 16 due, 17 turn, 18 k, 19 lot, 20 row, 21 fulls, 22 full -/
abbrev N_law : List Str := ["script", "bag", "n", "lots", "pops", "first", "is_renamed", "rows", "tables", "kept", "closures", "flats", "code", "dues", "some", "rank", "due", "turn", "k", "lot", "row", "fulls", "full"]
abbrev P_law : List Str := ["script"]
theorem sc_law : FnScope N_law P_law (defScope s_law) := ⟨rfl, rfl, rfl, by decide +kernel, rfl, by decide +kernel, by decide +kernel⟩
def D_law (sp__law_is : VSp) (sp_all_flats : VSp) (sp__law_asked : VSp) (sp__law_are_least_right : VSp) (sp__law_draw : VSp) (sp_flats_of_rank : VSp) (sp__law_told : VSp) (sp__law_asked_ranks : VSp) (sp__law_closures : VSp) (sp__law_table : VSp) (sp__law_renamed_row : VSp) (sp__law_row : VSp) (sp__law_lots : VSp) (sp__law_size : VSp) (sp__law_own_bag : VSp) : DS := (sSeq (sAsg (dFn 1 sp__law_own_bag (dCons (dVar 0) dNil)) (bName 1)) (sSeq (sAsg (dFn 1 sp__law_size (dCons (dVar 1) dNil)) (bName 2)) (sSeq (sAsg (dFn 1 sp__law_lots (dCons (dVar 2) dNil)) (bName 3)) (sSeq (sAsg (dLc [19] (dSeqI (dVar 3)) (bName 19) dYes (dCall dLen (dCons (dVar 19) dNil))) (bName 4)) (sSeq (sAsg (dFn 3 sp__law_row (dCons (dVar 1) (dCons (dVar 2) (dCons (dVar 4) dNil)))) (bName 5)) (sSeq (sAsg (dOrV (dOp dGt (dVar 2) (dC (.int 6))) (dOp dEq (dFn 2 sp__law_draw (dCons (dVar 1) (dCons (dC (.int 2)) dNil))) (dC (.int 0)))) (bName 6)) (sSeq (sAsg (dLst (dCons (dVar 5) (dCons (dIf (dTru (dVar 6)) (dFn 3 sp__law_renamed_row (dCons (dVar 1) (dCons (dVar 2) (dCons (dVar 5) dNil)))) (dFn 3 sp__law_row (dCons (dVar 1) (dCons (dVar 2) (dCons (dVar 4) dNil))))) dNil))) (bName 7)) (sSeq (sAsg (dLc [20] (dSeqI (dVar 7)) (bName 20) dYes (dFn 3 sp__law_table (dCons (dVar 2) (dCons (dVar 3) (dCons (dVar 20) dNil))))) (bName 8)) (sSeq (sAsg (dCall dReprX (dCons (dVar 8) dNil)) (bName 9)) (sSeq (sAsg (dLc [20] (dSeqI (dVar 7)) (bName 20) dYes (dFn 2 sp__law_closures (dCons (dVar 2) (dCons (dVar 20) dNil)))) (bName 10)) (sSeq (sAsg (dLc [21] (dSeqI (dVar 10)) (bName 21) dYes (dLc [12, 22] (dEnumI (dCons (dVar 21) dNil)) (bSeq 2 (bCons (bName 12) (bCons (bName 22) bNil))) (dTest (dOp dEq (dVar 12) (dVar 22))) (dVar 12))) (bName 11)) (sSeq (sAsg (dLc [14] (dSeqI (dVar 11)) (bName 14) dYes (dFn 2 sp__law_told (dCons (dVar 3) (dCons (dVar 14) dNil)))) (bName 13)) (sSeq (sIf (dOrT (dNotT (dTru (dFn 2 sp__law_is (dCons (dFn 1 sp_all_flats (dCons (dOp dIx (dVar 8) (dC (.int 0))) dNil)) (dCons (dOp dIx (dVar 13) (dC (.int 0))) dNil))))) (dNotT (dTru (dFn 2 sp__law_is (dCons (dFn 1 sp_all_flats (dCons (dOp dIx (dVar 8) (dC (.int 1))) dNil)) (dCons (dOp dIx (dVar 13) (dC (.int 1))) dNil)))))) (sRet (dC (.bool false))) sNext) (sSeq (sFor (dSeqI (dFn 3 sp__law_asked_ranks (dCons (dVar 1) (dCons (dVar 2) (dCons (dOp dIx (dOp dIx (dVar 7) (dC (.int 0))) (dNeg (dC (.int 1)))) dNil))))) (bName 15) (sSeq (sAsg (dFn 2 sp__law_told (dCons (dVar 3) (dCons (dLc [12] (dSeqI (dOp dIx (dVar 11) (dC (.int 0)))) (bName 12) (dTest (dOp dEq (dOp dIx (dOp dIx (dVar 7) (dC (.int 0))) (dVar 12)) (dVar 15))) (dVar 12)) dNil))) (bName 16)) (sIf (dNotT (dTru (dFn 2 sp__law_is (dCons (dFn 2 sp_flats_of_rank (dCons (dOp dIx (dVar 8) (dC (.int 0))) (dCons (dVar 15) dNil))) (dCons (dVar 16) dNil))))) (sRet (dC (.bool false))) sNext))) (sSeq (sAsg (dFn 2 sp__law_draw (dCons (dVar 1) (dCons (dOp dAdd (dOp dIx (dOp dIx (dVar 7) (dC (.int 1))) (dNeg (dC (.int 1)))) (dC (.int 1))) dNil))) (bName 15)) (sSeq (sAsg (dFn 2 sp__law_told (dCons (dVar 3) (dCons (dLc [12] (dSeqI (dOp dIx (dVar 11) (dC (.int 1)))) (bName 12) (dTest (dOp dEq (dOp dIx (dOp dIx (dVar 7) (dC (.int 1))) (dVar 12)) (dVar 15))) (dVar 12)) dNil))) (bName 16)) (sSeq (sIf (dNotT (dTru (dFn 2 sp__law_is (dCons (dFnK sp_flats_of_rank [0, 1] 0 2 2 dNil (dCons (dOp dIx (dVar 8) (dC (.int 1))) (dCons (dVar 15) dNil))) (dCons (dVar 16) dNil))))) (sRet (dC (.bool false))) sNext) (sSeq (sFor (dEnumI (dCons (dFn 3 sp__law_asked (dCons (dVar 1) (dCons (dVar 2) (dCons (dOp dIx (dVar 11) (dC (.int 0))) dNil)))) dNil)) (bSeq 2 (bCons (bName 17) (bCons (bName 12) bNil))) (sSeq (sAsg (dFn 2 sp__law_draw (dCons (dVar 1) (dCons (dC (.int 2)) dNil))) (bName 18)) (sSeq (sIf (dNotT (dTru (dFn 6 sp__law_are_least_right (dCons (dOp dIx (dVar 8) (dVar 18)) (dCons (dVar 3) (dCons (dOp dIx (dOp dIx (dVar 10) (dVar 18)) (dVar 12)) (dCons (dOp dIx (dVar 11) (dVar 18)) (dCons (dVar 12) (dCons (dOp dGt (dVar 17) (dC (.int 4))) dNil))))))))) (sRet (dC (.bool false))) sNext) (sSeq (sAsg (dIf (dTest (dOp dLt (dVar 17) (dC (.int 2)))) (dOp dIx (dVar 11) (dOp dSub (dC (.int 1)) (dVar 18))) (dLst dNil)) (bName 14)) (sIf (dNotT (dTru (dFn 6 sp__law_are_least_right (dCons (dOp dIx (dVar 8) (dOp dSub (dC (.int 1)) (dVar 18))) (dCons (dVar 3) (dCons (dOp dIx (dOp dIx (dVar 10) (dOp dSub (dC (.int 1)) (dVar 18))) (dVar 12)) (dCons (dVar 14) (dCons (dVar 12) (dCons (dOp dLt (dVar 17) (dC (.int 3))) dNil))))))))) (sRet (dC (.bool false))) sNext))))) (sSeq (sIf (dNotT (dTru (dFn 2 sp__law_is (dCons (dFnK sp_all_flats [0] 0 1 1 dNil (dCons (dOp dIx (dVar 8) (dC (.int 0))) dNil)) (dCons (dOp dIx (dVar 13) (dC (.int 0))) dNil))))) (sRet (dC (.bool false))) sNext) (sRet (dOp dEq (dCall dReprX (dCons (dVar 8) dNil)) (dVar 9))))))))))))))))))))))
def T_law (K : PySem.W.Frag) (sp__law_is : VSp) (sp_all_flats : VSp) (sp__law_asked : VSp) (sp__law_are_least_right : VSp) (sp__law_draw : VSp) (sp_flats_of_rank : VSp) (sp__law_told : VSp) (sp__law_asked_ranks : VSp) (sp__law_closures : VSp) (sp__law_table : VSp) (sp__law_renamed_row : VSp) (sp__law_row : VSp) (sp__law_lots : VSp) (sp__law_size : VSp) (sp__law_own_bag : VSp) : TS := (tSeq (tAsg (tCB (toSp K 1 sp__law_own_bag) (tCons (tVar 0) tNil)) (gName 1)) (tSeq (tAsg (tCB (toSp K 1 sp__law_size) (tCons (tVar 1) tNil)) (gName 2)) (tSeq (tAsg (tCB (toSp K 1 sp__law_lots) (tCons (tVar 2) tNil)) (gName 3)) (tSeq (tAsg (tLc (iSeq K (tVar 3)) (gName 19) tYes (tCB (rLenA K) (tCons (tVar 19) tNil)) [19]) (gName 4)) (tSeq (tAsg (tCB (toSp K 3 sp__law_row) (tCons (tVar 1) (tCons (tVar 2) (tCons (tVar 4) tNil)))) (gName 5)) (tSeq (tAsg (tOrV (tOp rGtI (tVar 2) (tC (.int 6))) (tOp (rEqD K) (tCB (toSp K 2 sp__law_draw) (tCons (tVar 1) (tCons (tC (.int 2)) tNil))) (tC (.int 0)))) (gName 6)) (tSeq (tAsg (tLst (tCons (tVar 5) (tCons (tIf (tTru K (tVar 6)) (tCB (toSp K 3 sp__law_renamed_row) (tCons (tVar 1) (tCons (tVar 2) (tCons (tVar 5) tNil)))) (tCB (toSp K 3 sp__law_row) (tCons (tVar 1) (tCons (tVar 2) (tCons (tVar 4) tNil))))) tNil))) (gName 7)) (tSeq (tAsg (tLc (iSeq K (tVar 7)) (gName 20) tYes (tCB (toSp K 3 sp__law_table) (tCons (tVar 2) (tCons (tVar 3) (tCons (tVar 20) tNil)))) [20]) (gName 8)) (tSeq (tAsg (tCB (rReprX K) (tCons (tVar 8) tNil)) (gName 9)) (tSeq (tAsg (tLc (iSeq K (tVar 7)) (gName 20) tYes (tCB (toSp K 2 sp__law_closures) (tCons (tVar 2) (tCons (tVar 20) tNil))) [20]) (gName 10)) (tSeq (tAsg (tLc (iSeq K (tVar 10)) (gName 21) tYes (tLc (iEnum K (tCons (tVar 21) tNil)) (gSeq K 2 (gCons (gName 12) (gCons (gName 22) gNil))) (tTest (tOp (rEqD K) (tVar 12) (tVar 22))) (tVar 12) [12, 22]) [21]) (gName 11)) (tSeq (tAsg (tLc (iSeq K (tVar 11)) (gName 14) tYes (tCB (toSp K 2 sp__law_told) (tCons (tVar 3) (tCons (tVar 14) tNil))) [14]) (gName 13)) (tSeq (tIfS (tOr (tNot (tTru K (tCB (toSp K 2 sp__law_is) (tCons (tCB (toSp K 1 sp_all_flats) (tCons (tOp (rIx K) (tVar 8) (tC (.int 0))) tNil)) (tCons (tOp (rIx K) (tVar 13) (tC (.int 0))) tNil))))) (tNot (tTru K (tCB (toSp K 2 sp__law_is) (tCons (tCB (toSp K 1 sp_all_flats) (tCons (tOp (rIx K) (tVar 8) (tC (.int 1))) tNil)) (tCons (tOp (rIx K) (tVar 13) (tC (.int 1))) tNil)))))) (tRet (tC (.bl false))) tNext) (tSeq (tFor (iSeq K (tCB (toSp K 3 sp__law_asked_ranks) (tCons (tVar 1) (tCons (tVar 2) (tCons (tOp (rIx K) (tOp (rIx K) (tVar 7) (tC (.int 0))) (tUn (rU fun i => .int (-i)) (tC (.int 1)))) tNil))))) (gName 15) (tSeq (tAsg (tCB (toSp K 2 sp__law_told) (tCons (tVar 3) (tCons (tLc (iSeq K (tOp (rIx K) (tVar 11) (tC (.int 0)))) (gName 12) (tTest (tOp (rEqD K) (tOp (rIx K) (tOp (rIx K) (tVar 7) (tC (.int 0))) (tVar 12)) (tVar 15))) (tVar 12) [12]) tNil))) (gName 16)) (tIfS (tNot (tTru K (tCB (toSp K 2 sp__law_is) (tCons (tCB (toSp K 2 sp_flats_of_rank) (tCons (tOp (rIx K) (tVar 8) (tC (.int 0))) (tCons (tVar 15) tNil))) (tCons (tVar 16) tNil))))) (tRet (tC (.bl false))) tNext))) (tSeq (tAsg (tCB (toSp K 2 sp__law_draw) (tCons (tVar 1) (tCons (tOp (rAddA K) (tOp (rIx K) (tOp (rIx K) (tVar 7) (tC (.int 1))) (tUn (rU fun i => .int (-i)) (tC (.int 1)))) (tC (.int 1))) tNil))) (gName 15)) (tSeq (tAsg (tCB (toSp K 2 sp__law_told) (tCons (tVar 3) (tCons (tLc (iSeq K (tOp (rIx K) (tVar 11) (tC (.int 1)))) (gName 12) (tTest (tOp (rEqD K) (tOp (rIx K) (tOp (rIx K) (tVar 7) (tC (.int 1))) (tVar 12)) (tVar 15))) (tVar 12) [12]) tNil))) (gName 16)) (tSeq (tIfS (tNot (tTru K (tCB (toSp K 2 sp__law_is) (tCons (tCKw (toSp K 2 sp_flats_of_rank) [0, 1] 0 2 tNil (tCons (tOp (rIx K) (tVar 8) (tC (.int 1))) (tCons (tVar 15) tNil))) (tCons (tVar 16) tNil))))) (tRet (tC (.bl false))) tNext) (tSeq (tFor (iEnum K (tCons (tCB (toSp K 3 sp__law_asked) (tCons (tVar 1) (tCons (tVar 2) (tCons (tOp (rIx K) (tVar 11) (tC (.int 0))) tNil)))) tNil)) (gSeq K 2 (gCons (gName 17) (gCons (gName 12) gNil))) (tSeq (tAsg (tCB (toSp K 2 sp__law_draw) (tCons (tVar 1) (tCons (tC (.int 2)) tNil))) (gName 18)) (tSeq (tIfS (tNot (tTru K (tCB (toSp K 6 sp__law_are_least_right) (tCons (tOp (rIx K) (tVar 8) (tVar 18)) (tCons (tVar 3) (tCons (tOp (rIx K) (tOp (rIx K) (tVar 10) (tVar 18)) (tVar 12)) (tCons (tOp (rIx K) (tVar 11) (tVar 18)) (tCons (tVar 12) (tCons (tOp rGtI (tVar 17) (tC (.int 4))) tNil))))))))) (tRet (tC (.bl false))) tNext) (tSeq (tAsg (tIf (tTest (tOp rLtI (tVar 17) (tC (.int 2)))) (tOp (rIx K) (tVar 11) (tOp rSubI (tC (.int 1)) (tVar 18))) (tLst tNil)) (gName 14)) (tIfS (tNot (tTru K (tCB (toSp K 6 sp__law_are_least_right) (tCons (tOp (rIx K) (tVar 8) (tOp rSubI (tC (.int 1)) (tVar 18))) (tCons (tVar 3) (tCons (tOp (rIx K) (tOp (rIx K) (tVar 10) (tOp rSubI (tC (.int 1)) (tVar 18))) (tVar 12)) (tCons (tVar 14) (tCons (tVar 12) (tCons (tOp rLtI (tVar 17) (tC (.int 3))) tNil))))))))) (tRet (tC (.bl false))) tNext))))) (tSeq (tIfS (tNot (tTru K (tCB (toSp K 2 sp__law_is) (tCons (tCKw (toSp K 1 sp_all_flats) [0] 0 1 tNil (tCons (tOp (rIx K) (tVar 8) (tC (.int 0))) tNil)) (tCons (tOp (rIx K) (tVar 13) (tC (.int 0))) tNil))))) (tRet (tC (.bl false))) tNext) (tRet (tOp (rEqD K) (tCB (rReprX K) (tCons (tVar 8) tNil)) (tVar 9))))))))))))))))))))))
theorem ok_law {P : Program} {w : World} {K : PySem.W.Frag} {mg : Str → Option Value} {base : Heap} {f : Addr} {fd : FuncData} {sp : VSp} {sp__law_is : VSp} {sp_all_flats : VSp} {sp__law_asked : VSp} {sp__law_are_least_right : VSp} {sp__law_draw : VSp} {sp_flats_of_rank : VSp} {sp__law_told : VSp} {sp__law_asked_ranks : VSp} {sp__law_closures : VSp} {sp__law_table : VSp} {sp__law_renamed_row : VSp} {sp__law_row : VSp} {sp__law_lots : VSp} {sp__law_size : VSp} {sp__law_own_bag : VSp} (hm : mg "law" = some (.ref f)) (F : FunD K "law" "law" (defArgs s_law) (defBody s_law) (defScope s_law) [] [] f fd) (c__law_is : Def P w K mg base 1 "_law_is" s__law_is P__law_is sp__law_is) (c_all_flats : Def P w K mg base 5 "all_flats" s_all_flats P_all_flats sp_all_flats) (c__law_asked : Def P w K mg base 3 "_law_asked" s__law_asked P__law_asked sp__law_asked) (c__law_are_least_right : Def P w K mg base 6 "_law_are_least_right" s__law_are_least_right P__law_are_least_right sp__law_are_least_right) (c__law_draw : Def P w K mg base 1 "_law_draw" s__law_draw P__law_draw sp__law_draw) (c_flats_of_rank : Def P w K mg base 5 "flats_of_rank" s_flats_of_rank P_flats_of_rank sp_flats_of_rank) (c__law_told : Def P w K mg base 1 "_law_told" s__law_told P__law_told sp__law_told) (c__law_asked_ranks : Def P w K mg base 2 "_law_asked_ranks" s__law_asked_ranks P__law_asked_ranks sp__law_asked_ranks) (c__law_closures : Def P w K mg base 1 "_law_closures" s__law_closures P__law_closures sp__law_closures) (c__law_table : Def P w K mg base 1 "_law_table" s__law_table P__law_table sp__law_table) (c__law_renamed_row : Def P w K mg base 2 "_law_renamed_row" s__law_renamed_row P__law_renamed_row sp__law_renamed_row) (c__law_row : Def P w K mg base 4 "_law_row" s__law_row P__law_row sp__law_row) (c__law_lots : Def P w K mg base 1 "_law_lots" s__law_lots P__law_lots sp__law_lots) (c__law_size : Def P w K mg base 3 "_law_size" s__law_size P__law_size sp__law_size) (c__law_own_bag : Def P w K mg base 1 "_law_own_bag" s__law_own_bag P__law_own_bag sp__law_own_bag) (hsy : SysAt base) (m_repr : mg "repr" = none) (m_enumerate : mg "enumerate" = none) (m_len : mg "len" = none)
    (hd : ∀ (ds : List PyData) (β : Bag) (Q : PyData → Bag → Prop), ds.length = 1 → sp ds β Q → D_law sp__law_is sp_all_flats sp__law_asked sp__law_are_least_right sp__law_draw sp_flats_of_rank sp__law_told sp__law_asked_ranks sp__law_closures sp__law_table sp__law_renamed_row sp__law_row sp__law_lots sp__law_size sp__law_own_bag { nx := fun s => Q .none s.β, rt := Q } (initS 23 ds β)) : Def P w K mg base (7) "law" s_law P_law sp :=
  def_of' hm F sc_law (fun _ _ _ _ _ _ us hl => match us, hl with | [_], _ => rfl) (T_law K sp__law_is sp_all_flats sp__law_asked sp__law_are_least_right sp__law_draw sp_flats_of_rank sp__law_told sp__law_asked_ranks sp__law_closures sp__law_table sp__law_renamed_row sp__law_row sp__law_lots sp__law_size sp__law_own_bag) (D_law sp__law_is sp_all_flats sp__law_asked sp__law_are_least_right sp__law_draw sp_flats_of_rank sp__law_told sp__law_asked_ranks sp__law_closures sp__law_table sp__law_renamed_row sp__law_row sp__law_lots sp__law_size sp__law_own_bag) hd fun cd A outer s H hr => have nd := sc_law.nd; (vb_cons (vs_setN (i := 1) (v_call c__law_own_bag (hr.mono (by decide)) (by rfl) (va_cons (v_nm 0) va_nil)) nd)
  (vb_cons (vs_setN (i := 2) (v_call c__law_size (hr.mono (by decide)) (by rfl) (va_cons (v_nm 1) va_nil)) nd)
  (vb_cons (vs_setN (i := 3) (v_call c__law_lots (hr.mono (by decide)) (by rfl) (va_cons (v_nm 2) va_nil)) nd)
  (vb_cons (vs_lcSet (i := 4) (own := [("lot", 19)]) (by rfl) nd (by rfl) (by rfl) (sw_true (by rfl) (by rfl) (by rfl) (by decide +kernel)) (vi_seq (v_nm 3)) (blkOk_by (N := N_law) (sc := defScope s_law) (own := [("lot", 19)]) (by decide +kernel)) (fun _ _ _ _ _ => (vg_nm 19 nd)) (fun _ _ _ _ _ => vts_nil) (fun _ _ _ _ _ => (v_bc call_len_seq callv_len (by rfl) m_len bb_len (va_cons (v_nm 19) va_nil))))
  (vb_cons (vs_setN (i := 5) (v_call c__law_row (hr.mono (by decide)) (by rfl) (va_cons (v_nm 1) (va_cons (v_nm 2) (va_cons (v_nm 4) va_nil)))) nd)
  (vb_cons (vs_setN (i := 6) (v_or (v_cmp op_gt gt_v (v_nm 2) v_int (nomark _)) (v_one (v_cmp (op_eqD hr.u64) opv_eq (v_call c__law_draw (hr.mono (by decide)) (by rfl) (va_cons (v_nm 1) (va_cons v_int va_nil))) v_int (nomark _)))) nd)
  (vb_cons (vs_setN (i := 7) (VO.e (v_lst (va_cons (v_nm 5) (va_cons (v_ifExp (vt_tru (v_nm 6)) (v_call c__law_renamed_row (hr.mono (by decide)) (by rfl) (va_cons (v_nm 1) (va_cons (v_nm 2) (va_cons (v_nm 5) va_nil)))) (v_call c__law_row (hr.mono (by decide)) (by rfl) (va_cons (v_nm 1) (va_cons (v_nm 2) (va_cons (v_nm 4) va_nil))))) va_nil)))) nd)
  (vb_cons (vs_lcSet (i := 8) (own := [("row", 20)]) (by rfl) nd (by rfl) (by rfl) (sw_true (by rfl) (by rfl) (by rfl) (by decide +kernel)) (vi_seq (v_nm 7)) (blkOk_by (N := N_law) (sc := defScope s_law) (own := [("row", 20)]) (by decide +kernel)) (fun _ _ _ _ _ => (vg_nm 20 nd)) (fun _ _ _ _ _ => vts_nil) (fun _ _ _ _ _ => (v_call c__law_table (hr.mono (by decide)) (by rfl) (va_cons (v_nm 2) (va_cons (v_nm 3) (va_cons (v_nm 20) va_nil))))))
  (vb_cons (vs_setN (i := 9) (v_bc (call_reprX hr.g hr.u64 hsy) callv_reprX (by rfl) m_repr bb_repr (va_cons (v_nm 8) va_nil)) nd)
  (vb_cons (vs_lcSet (i := 10) (own := [("row", 20)]) (by rfl) nd (by rfl) (by rfl) (sw_true (by rfl) (by rfl) (by rfl) (by decide +kernel)) (vi_seq (v_nm 7)) (blkOk_by (N := N_law) (sc := defScope s_law) (own := [("row", 20)]) (by decide +kernel)) (fun _ _ _ _ _ => (vg_nm 20 nd)) (fun _ _ _ _ _ => vts_nil) (fun _ _ _ _ _ => (v_call c__law_closures (hr.mono (by decide)) (by rfl) (va_cons (v_nm 2) (va_cons (v_nm 20) va_nil)))))
  (vb_cons (vs_lcSet (i := 11) (own := [("fulls", 21)]) (by rfl) nd (by rfl) (by rfl) (sw_true (by rfl) (by rfl) (by rfl) (by decide +kernel)) (vi_seq (v_nm 10)) (blkOk_by (N := N_law) (sc := defScope s_law) (own := [("fulls", 21)]) (by decide +kernel)) (fun _ _ _ _ _ => (vg_nm 21 nd)) (fun _ _ _ _ _ => vts_nil) (fun _ _ _ _ _ => (VO.e (v_lc (own := [("code", 12), ("full", 22)]) (by rfl) nd (vi_enum (by rfl) m_enumerate (va_cons (v_nm 21) va_nil)) (blkOk_by (N := N_law)  (own := [("code", 12), ("full", 22)]) (by kernel_rfl)) (fun _ _ _ _ _ => (vg_seq (by rfl) (vgs_cons (vg_nm 12 nd) (vgs_cons (vg_nm 22 nd) vgs_nil)))) (fun _ _ _ _ _ => (vts_one (vt_cmp (op_eqD hr.u64) opv_eq (v_nm 12) (v_nm 22) (nomark _)))) (fun _ _ _ _ _ => (v_nm 12))))))
  (vb_cons (vs_lcSet (i := 13) (own := [("some", 14)]) (by rfl) nd (by rfl) (by rfl) (sw_true (by rfl) (by rfl) (by rfl) (by decide +kernel)) (vi_seq (v_nm 11)) (blkOk_by (N := N_law) (sc := defScope s_law) (own := [("some", 14)]) (by decide +kernel)) (fun _ _ _ _ _ => (vg_nm 14 nd)) (fun _ _ _ _ _ => vts_nil) (fun _ _ _ _ _ => (v_call c__law_told (hr.mono (by decide)) (by rfl) (va_cons (v_nm 3) (va_cons (v_nm 14) va_nil)))))
  (vb_cons (vs_if (VW.t (vw_or (vt_not (vt_tru (v_call c__law_is (hr.mono (by decide)) (by rfl) (va_cons (v_call c_all_flats (hr.mono (by decide)) (by rfl) (va_cons (v_ix (v_nm 8) v_int (by intro _ _; rfl)) va_nil)) (va_cons (v_ix (v_nm 13) v_int (by intro _ _; rfl)) va_nil))))) (vw_or1 (vt_not (vt_tru (v_call c__law_is (hr.mono (by decide)) (by rfl) (va_cons (v_call c_all_flats (hr.mono (by decide)) (by rfl) (va_cons (v_ix (v_nm 8) v_int (by intro _ _; rfl)) va_nil)) (va_cons (v_ix (v_nm 13) v_int (by intro _ _; rfl)) va_nil)))))))) (vb_one (vs_ret v_bl)) vb_nil)
  (vb_cons (vs_for PassesOwn.never (by rfl) (vi_seq (v_call c__law_asked_ranks (hr.mono (by decide)) (by rfl) (va_cons (v_nm 1) (va_cons (v_nm 2) (va_cons (v_ix (v_ix (v_nm 7) v_int (by intro _ _; rfl)) (v_neg v_int) (by intro _ _; rfl)) va_nil))))) (vg_nm 15 nd) (vb_cons (vs_setN (i := 16) (v_call c__law_told (hr.mono (by decide)) (by rfl) (va_cons (v_nm 3) (va_cons (VO.e (v_lc (own := [("code", 12)]) (by rfl) nd (vi_seq (v_ix (v_nm 11) v_int (by intro _ _; rfl))) (blkOk_by (N := N_law) (sc := defScope s_law) (own := [("code", 12)]) (by decide +kernel)) (fun _ _ _ _ _ => (vg_nm 12 nd)) (fun _ _ _ _ _ => (vts_one (vt_cmp (op_eqD hr.u64) opv_eq (v_ix (v_ix (v_nm 7) v_int (by intro _ _; rfl)) (v_nm 12) (by intro _ _; rfl)) (v_nm 15) (nomark _)))) (fun _ _ _ _ _ => (v_nm 12)))) va_nil))) nd)
  (vb_one (vs_if (vt_not (vt_tru (v_call c__law_is (hr.mono (by decide)) (by rfl) (va_cons (v_call c_flats_of_rank (hr.mono (by decide)) (by rfl) (va_cons (v_ix (v_nm 8) v_int (by intro _ _; rfl)) (va_cons (v_nm 15) va_nil))) (va_cons (v_nm 16) va_nil))))) (vb_one (vs_ret v_bl)) vb_nil))))
  (vb_cons (vs_setN (i := 15) (v_call c__law_draw (hr.mono (by decide)) (by rfl) (va_cons (v_nm 1) (va_cons (v_add (v_ix (v_ix (v_nm 7) v_int (by intro _ _; rfl)) (v_neg v_int) (by intro _ _; rfl)) v_int) va_nil))) nd)
  (vb_cons (vs_setN (i := 16) (v_call c__law_told (hr.mono (by decide)) (by rfl) (va_cons (v_nm 3) (va_cons (VO.e (v_lc (own := [("code", 12)]) (by rfl) nd (vi_seq (v_ix (v_nm 11) v_int (by intro _ _; rfl))) (blkOk_by (N := N_law) (sc := defScope s_law) (own := [("code", 12)]) (by decide +kernel)) (fun _ _ _ _ _ => (vg_nm 12 nd)) (fun _ _ _ _ _ => (vts_one (vt_cmp (op_eqD hr.u64) opv_eq (v_ix (v_ix (v_nm 7) v_int (by intro _ _; rfl)) (v_nm 12) (by intro _ _; rfl)) (v_nm 15) (nomark _)))) (fun _ _ _ _ _ => (v_nm 12)))) va_nil))) nd)
  (vb_cons (vs_if (vt_not (vt_tru (v_call c__law_is (hr.mono (by decide)) (by rfl) (va_cons (v_callK0 ["table", "rank"] (js := [0, 1]) c_flats_of_rank (hr.mono (by decide)) (by rfl) (fun _ _ _ _ _ _ us ws h1 h2 => match us, ws, h1, h2 with | [], [_, _], _, _ => rfl) (vk_cons (v_ix (v_nm 8) v_int (by intro _ _; rfl)) (vk_cons (v_nm 15) vk_nil))) (va_cons (v_nm 16) va_nil))))) (vb_one (vs_ret v_bl)) vb_nil)
  (vb_cons (vs_for PassesOwn.never (by rfl) (vi_enum (by rfl) m_enumerate (va_cons (v_call c__law_asked (hr.mono (by decide)) (by rfl) (va_cons (v_nm 1) (va_cons (v_nm 2) (va_cons (v_ix (v_nm 11) v_int (by intro _ _; rfl)) va_nil)))) va_nil)) (vg_seq (by rfl) (vgs_cons (vg_nm 17 nd) (vgs_cons (vg_nm 12 nd) vgs_nil))) (vb_cons (vs_setN (i := 18) (v_call c__law_draw (hr.mono (by decide)) (by rfl) (va_cons (v_nm 1) (va_cons v_int va_nil))) nd)
  (vb_cons (vs_if (vt_not (vt_tru (v_call c__law_are_least_right (hr.mono (by decide)) (by rfl) (va_cons (v_ix (v_nm 8) (v_nm 18) (by intro _ _; rfl)) (va_cons (v_nm 3) (va_cons (v_ix (v_ix (v_nm 10) (v_nm 18) (by intro _ _; rfl)) (v_nm 12) (by intro _ _; rfl)) (va_cons (v_ix (v_nm 11) (v_nm 18) (by intro _ _; rfl)) (va_cons (v_nm 12) (va_cons (v_cmp op_gt gt_v (v_nm 17) v_int (nomark _)) va_nil))))))))) (vb_one (vs_ret v_bl)) vb_nil)
  (vb_cons (vs_setN (i := 14) (v_ifExp (vt_cmp op_lt lt_v (v_nm 17) v_int (nomark _)) (v_ix (v_nm 11) (v_sub v_int (v_nm 18)) (by intro _ _; rfl)) (VO.e (v_lst va_nil))) nd)
  (vb_one (vs_if (vt_not (vt_tru (v_call c__law_are_least_right (hr.mono (by decide)) (by rfl) (va_cons (v_ix (v_nm 8) (v_sub v_int (v_nm 18)) (by intro _ _; rfl)) (va_cons (v_nm 3) (va_cons (v_ix (v_ix (v_nm 10) (v_sub v_int (v_nm 18)) (by intro _ _; rfl)) (v_nm 12) (by intro _ _; rfl)) (va_cons (v_nm 14) (va_cons (v_nm 12) (va_cons (v_cmp op_lt lt_v (v_nm 17) v_int (nomark _)) va_nil))))))))) (vb_one (vs_ret v_bl)) vb_nil))))))
  (vb_cons (vs_if (vt_not (vt_tru (v_call c__law_is (hr.mono (by decide)) (by rfl) (va_cons (v_callK0 ["table"] (js := [0]) c_all_flats (hr.mono (by decide)) (by rfl) (fun _ _ _ _ _ _ us ws h1 h2 => match us, ws, h1, h2 with | [], [_], _, _ => rfl) (vk_cons (v_ix (v_nm 8) v_int (by intro _ _; rfl)) vk_nil)) (va_cons (v_ix (v_nm 13) v_int (by intro _ _; rfl)) va_nil))))) (vb_one (vs_ret v_bl)) vb_nil)
  (vb_one (vs_ret (v_cmp (op_eqD hr.u64) opv_eq (v_bc (call_reprX hr.g hr.u64 hsy) callv_reprX (by rfl) m_repr bb_repr (va_cons (v_nm 8) va_nil)) (v_nm 9) (nomark _)))))))))))))))))))))))
end Wk
namespace PL
open PySem PySem.Spec L2 VS
open PyProof.Rows hiding St

/-! ### the bag of draws -/
def GoodB (β : Bag) : Prop := 0 ≤ β.dig ∧ 0 ≤ β.mix ∧ β.mix < 2147483647 ∧ β.on = true
def sp_draw : VSp := fun ds β P => ∃ n : Int, ds = [bagD, .int n] ∧ 0 < n ∧ n < 1073741824 ∧ GoodB β ∧ ∀ (r : Int) (β' : Bag), 0 ≤ r → r < n → GoodB β' → P (.int r) β'
theorem eqv_int (a b : Int) : PyData.eqv (.int a) (.int b) = decide (a = b) := by
  by_cases h : a = b <;> simp [PyData.eqv, h]
theorem sh_int (a : Int) : SeqAt.shaped (.int a) = true := rfl
theorem hd_draw (ds : List PyData) (β : Bag) (Q : PyData → Bag → Prop) (hl : ds.length = 2) (h : sp_draw ds β Q) : Wk.D__law_draw { nx := fun s => Q .none s.β, rt := Q } (initS 4 ds β) := by
  obtain ⟨n, rfl, hn, hn2, hb, k⟩ := h
  have tail : ∀ (β : Bag) (a : Slot), GoodB β → (sSeq (sIf (dTest (dOp dGt (dBagAt 0 1) (dC (.int 0)))) (sSeq (sAsg (dOp dMod (dCall dInt (dCons (dBagAt 0 1) dNil)) (dVar 1)) (bName 3)) (sSeq (sBagPut (dOp dFdiv (dBagAt 0 1) (dVar 1)) 0 1) (sRet (dVar 3)))) sNext) (sSeq (sBagPut (dOp dMod (dCall dInt (dCons (dOp dAdd (dOp dMul (dBagAt 0 2) (dC (.int 48271))) (dC (.int 11))) dNil)) (dC (.int 2147483647))) 0 2) (sRet (dOp dMod (dCall dInt (dCons (dOp dFdiv (dOp dMod (dCall dInt (dCons (dOp dMul (dBagAt 0 2) (dBagAt 0 2)) dNil)) (dC (.int 2147483629))) (dC (.int 7))) dNil)) (dVar 1))))) { nx := fun s => Q .none s.β, rt := Q } ⟨[.sh bagD, .sh (.int n), a, .un], β⟩ := by
    rintro β a ⟨h1, h2, h3, h4⟩
    simp only [sSeq, sIf, dTest, dOp, dC, dGt, dLt, dLe, dGe, dI0, dI, sAsg, bName, sRet, sRetN, sNext, sDrop, sOwn, dVar, dMod, dFdiv, dMul, dAdd, dSub, dAnd, dOr, dEq, dNe, dCall, dCons, dNil, dLst, dTup, dIx, dFn, dAndT, dOrT, dNotT, dTru, truD, dAndV, dOrV, dNotV, dIf, initS, sPar, dmNil, dmSh, dmOw, setS, Item.slot, dLen, dTupOf, dListOf, dAllOf, dAnyOf, dDictT, dSorted, dRange1, dRange2, dRevI, dEnumI, dSl, dNoP, dPart, dLstRg, dTupRg, dRg1, dRg2, dMeth, isT, mAppend, mExtend, mPop, mPopAt, mUpdT, dNewT, dDisp1, dYes, dIxB, dEqB, asOwn, dInB, dIn, dRepr, dIsi, tyD, sItem, dem, dRep, bTup, bCons, bNil, dLstRev, dScrSl, dBagAt, dBagNe, dBagPop, sBagPut, sBagRet, dInt, List.getElem?_cons_zero, List.getElem?_cons_succ, List.getElem?_nil, List.set_cons_zero, List.set_cons_succ, true_and, and_true, PyData.int.injEq, PyData.bool.injEq, PyData.list.injEq, PyData.tuple.injEq, exists_eq_left', exists_eq_left, reduceCtorEq, or_false, false_or, Nat.reduceEqDiff, decide_eq_true_eq, Nat.succ_ne_self, false_and, and_false, if_true, if_false, List.map_cons, List.map_nil, List.length_cons, List.length_nil, List.cons_append, List.nil_append, Nat.reduceAdd, Nat.reduceSub, List.replicate_succ, List.replicate_zero, Bool.not_true, Bool.not_false, Bool.false_eq_true, eq_self_iff_true]
    have em : 0 ≤ (β.mix * 48271 + 11) % 2147483647 ∧ (β.mix * 48271 + 11) % 2147483647 < 2147483647 := by omega
    split
    · exact ⟨hn, ⟨hn, hn2⟩, k _ _ (Int.emod_nonneg _ (by omega)) (Int.emod_lt_of_pos _ hn) ⟨Int.ediv_nonneg h1 (by omega), h2, h3, h4⟩⟩
    · refine ⟨.inr ⟨by decide, by decide⟩, by decide, .inl ⟨by omega, by omega⟩, by decide, ⟨by decide, by decide⟩, hn, k _ _ (Int.emod_nonneg _ (by omega)) (Int.emod_lt_of_pos _ hn) ⟨h1, em.1, em.2, h4⟩⟩
  refine ⟨β.cells.length + 1, ?_⟩
  have loop : ∀ (m : Nat) (β : Bag) (a : Slot), β.cells.length = m → GoodB β → whileN (dAndT (dTest (dOp dEq (dBagAt 0 1) (dC (.int 0)))) (dBagNe 0)) (sSeq (sAsg (dBagPop 0) (bName 2)) (sBagPut (dIf (dTest (dOp dGt (dVar 2) (dOp dPow (dC (.int 10)) (dC (.int 9))))) (dVar 2) (dC (.int 0))) 0 1)) { nx := (sSeq (sIf (dTest (dOp dGt (dBagAt 0 1) (dC (.int 0)))) (sSeq (sAsg (dOp dMod (dCall dInt (dCons (dBagAt 0 1) dNil)) (dVar 1)) (bName 3)) (sSeq (sBagPut (dOp dFdiv (dBagAt 0 1) (dVar 1)) 0 1) (sRet (dVar 3)))) sNext) (sSeq (sBagPut (dOp dMod (dCall dInt (dCons (dOp dAdd (dOp dMul (dBagAt 0 2) (dC (.int 48271))) (dC (.int 11))) dNil)) (dC (.int 2147483647))) 0 2) (sRet (dOp dMod (dCall dInt (dCons (dOp dFdiv (dOp dMod (dCall dInt (dCons (dOp dMul (dBagAt 0 2) (dBagAt 0 2)) dNil)) (dC (.int 2147483629))) (dC (.int 7))) dNil)) (dVar 1))))) { nx := fun s => Q .none s.β, rt := Q }, rt := Q } (m + 1) ⟨[.sh bagD, .sh (.int n), a, .un], β⟩ := by
    intro m
    induction m with
    | zero =>
      intro β a hm hb
      have e : β.cells = [] := List.eq_nil_of_length_eq_zero hm
      rw [whileN]
      simp only [dAndT, dTest, dOp, dEq, dC, dBagAt, dBagNe, List.getElem?_cons_zero, List.getElem?_cons_succ, List.getElem?_nil, List.set_cons_zero, List.set_cons_succ, true_and, and_true, PyData.int.injEq, PyData.bool.injEq, PyData.list.injEq, PyData.tuple.injEq, exists_eq_left', exists_eq_left, reduceCtorEq, or_false, false_or, Nat.reduceEqDiff, decide_eq_true_eq, Nat.succ_ne_self, false_and, and_false, if_true, if_false, List.map_cons, List.map_nil, List.length_cons, List.length_nil, List.cons_append, List.nil_append, Nat.reduceAdd, Nat.reduceSub, List.replicate_succ, List.replicate_zero, Bool.not_true, Bool.not_false, Bool.false_eq_true, eq_self_iff_true, sh_int, eqv_int, e, List.isEmpty_nil]
      split
      · exact tail β a hb
      · exact tail β a hb
    | succ m ih =>
      intro β a hm hb
      rw [whileN]
      have hne : β.cells.isEmpty = false := by
        cases q : β.cells with
        | nil => rw [q] at hm; simp at hm
        | cons _ _ => rfl
      simp only [dAndT, dTest, dOp, dEq, dC, dBagAt, dBagNe, List.getElem?_cons_zero, List.getElem?_cons_succ, List.getElem?_nil, List.set_cons_zero, List.set_cons_succ, true_and, and_true, PyData.int.injEq, PyData.bool.injEq, PyData.list.injEq, PyData.tuple.injEq, exists_eq_left', exists_eq_left, reduceCtorEq, or_false, false_or, Nat.reduceEqDiff, decide_eq_true_eq, Nat.succ_ne_self, false_and, and_false, if_true, if_false, List.map_cons, List.map_nil, List.length_cons, List.length_nil, List.cons_append, List.nil_append, Nat.reduceAdd, Nat.reduceSub, List.replicate_succ, List.replicate_zero, Bool.not_true, Bool.not_false, Bool.false_eq_true, eq_self_iff_true, sh_int, eqv_int, hne]
      split
      · have hlt : β.cells.length - 1 < β.cells.length := by omega
        have pw : CPow 10 9 := ⟨by decide, by decide, by decide⟩
        simp only [sSeq, sAsg, dBagPop, bName, sBagPut, dIf, dTest, dOp, dGt, dI0, dI, dPow, dC, dVar, List.getElem?_cons_zero, List.getElem?_cons_succ, List.getElem?_nil, List.set_cons_zero, List.set_cons_succ, true_and, and_true, PyData.int.injEq, PyData.bool.injEq, PyData.list.injEq, PyData.tuple.injEq, exists_eq_left', exists_eq_left, reduceCtorEq, or_false, false_or, Nat.reduceEqDiff, decide_eq_true_eq, Nat.succ_ne_self, false_and, and_false, if_true, if_false, List.map_cons, List.map_nil, List.length_cons, List.length_nil, List.cons_append, List.nil_append, Nat.reduceAdd, Nat.reduceSub, List.replicate_succ, List.replicate_zero, Bool.not_true, Bool.not_false, Bool.false_eq_true, eq_self_iff_true, List.getElem?_eq_getElem hlt, pw, Option.some.injEq, exists_eq_left']
        obtain ⟨h1, h2, h3, h4⟩ := hb
        split
        · exact ih _ _ (by simp [hm]) ⟨by
            rename_i q
            show (0 : Int) ≤ β.cells[β.cells.length - 1]
            have : (10 : Int) ^ (9 : Int).toNat = 1000000000 := by decide
            omega, h2, h3, h4⟩
        · exact ih _ _ (by simp [hm]) ⟨Int.le_refl _, h2, h3, h4⟩
      · exact tail β a hb
  exact loop _ β .un rfl hb

/-! ### own bag -/
def sp_own : VSp := fun ds β P => ∃ ns : List Int, ds = [scrD ns] ∧ ns.length ≤ 63 ∧ β.on = false ∧ ∀ β', GoodB β' → P bagD β'
/-- a comprehension that keeps the state: what stands for each item -/
theorem lcW_map {own : List Nat} {b : DG} {tt : DT} {te : DE} {ρ : List Slot} {P : List PyData → S → Prop} {β : Bag} (f : PyData → PyData) : ∀ (ds acc : List PyData),
    (∀ d ∈ ds, ∀ (R : Bool → S → PyData → S → Prop) (F : S → S → Prop), (∀ s2, R true s2 (f d) ⟨s2.ρ, β⟩) → b d ⟨wipeS ρ own, β⟩ fun s2 => tt s2 fun c s3 => if c = true then te s3 fun y s4 => R true s2 y s4 else F s2 s3) →
    acc.length + ds.length ≤ sizeLine → P (acc ++ ds.map f) ⟨ρ, β⟩ → lcW own b tt te ρ P ds acc β
  | [], acc, _, _, p => by simpa [lcW] using p
  | d :: ds, acc, h, hl, p => by
    rw [List.length_cons] at hl
    have ih := lcW_map f ds (acc ++ [f d]) (fun x hx => h x (List.mem_cons_of_mem _ hx)) (by simp; omega) (by simpa using p)
    exact h d (List.mem_cons_self ..) (fun _ s2 y s4 => acc.length < sizeLine ∧ s4.ρ = s2.ρ ∧ lcW own b tt te ρ P ds (acc ++ [y]) s4.β) (fun s2 s3 => s3.ρ = s2.ρ ∧ lcW own b tt te ρ P ds acc s3.β) fun s2 => ⟨by omega, rfl, ih⟩
theorem lcW_filt {own : List Nat} {b : DG} {tt : DT} {te : DE} {ρ : List Slot} {P : List PyData → S → Prop} {β : Bag} (f : PyData → Option PyData) : ∀ (ds acc : List PyData),
    (∀ d ∈ ds, ∀ (R : S → PyData → S → Prop) (F : S → S → Prop), (match f d with | some y => ∀ s2, R s2 y ⟨s2.ρ, β⟩ | none => ∀ s2 : S, F s2 ⟨s2.ρ, β⟩) → b d ⟨wipeS ρ own, β⟩ fun s2 => tt s2 fun c s3 => if c = true then te s3 fun y s4 => R s2 y s4 else F s2 s3) →
    acc.length + ds.length ≤ sizeLine → P (acc ++ ds.filterMap f) ⟨ρ, β⟩ → lcW own b tt te ρ P ds acc β
  | [], acc, _, _, p => by simpa [lcW] using p
  | d :: ds, acc, h, hl, p => by
    rw [List.length_cons] at hl
    refine h d (List.mem_cons_self ..) (fun s2 y s4 => acc.length < sizeLine ∧ s4.ρ = s2.ρ ∧ lcW own b tt te ρ P ds (acc ++ [y]) s4.β) (fun s2 s3 => s3.ρ = s2.ρ ∧ lcW own b tt te ρ P ds acc s3.β) ?_
    cases q : f d with
    | some y =>
      exact fun s2 => ⟨by omega, rfl, lcW_filt f ds (acc ++ [y]) (fun x hx => h x (List.mem_cons_of_mem _ hx)) (by simp; omega) (by simpa [q] using p)⟩
    | none =>
      exact fun s2 => ⟨rfl, lcW_filt f ds acc (fun x hx => h x (List.mem_cons_of_mem _ hx)) (by omega) (by simpa [q] using p)⟩
/-- a for loop with an invariant -/
theorem forW_inv {b : DG} {body : DS} {D : DEnds} (I : List PyData → S → Prop) : ∀ (ds : List PyData) (s : S), I ds s → (∀ s, I [] s → D.nx s) →
    (∀ d r s, I (d :: r) s → ∀ D' : DEnds, D'.rt = D.rt → (∀ s', I r s' → D'.nx s') → b d s fun s' => body D' s') → forW b body D ds s
  | [], s, h, e, _ => e s h
  | d :: ds, s, h, e, t => t d ds s h { D with nx := forW b body D ds, ct := forW b body D ds, bk := D.nx } rfl fun s' h' => forW_inv I ds s' h' e t
theorem cut_take (xs : List PyData) (k : Nat) : VS.cutD xs none (some (k : Int)) = xs.take k := by
  unfold VS.cutD
  rw [HT.sIx_nat]
  show (xs.drop 0).take (min k xs.length - 0) = xs.take k
  rw [List.drop_zero, Nat.sub_zero, List.take_eq_take_iff]
  omega
def absD : PyData → PyData
  | .int i => .int ((if i < 0 then -i else i) % 10 ^ (57 : Int).toNat)
  | d => d
theorem hd_own (ds : List PyData) (β : Bag) (Q : PyData → Bag → Prop) (hl : ds.length = 1) (h : sp_own ds β Q) : Wk.D__law_own_bag { nx := fun s => Q .none s.β, rt := Q } (initS 4 ds β) := by
  obtain ⟨ns, rfl, hn, off, k⟩ := h
  unfold Wk.D__law_own_bag
  have cut : VS.cutD (ns.map PyData.int) none (some ((63 : Nat) : Int)) = (ns.map PyData.int).take 63 := cut_take _ 63
  have cut : VS.cutD (ns.map PyData.int) none (some 63) = (ns.map PyData.int).take 63 := cut
  have e2 : ((ns.map PyData.int).take 63).map absD = (((ns.take 63).map fun i : Int => (if i < 0 then -i else i) % 10 ^ (57 : Int).toNat)).map PyData.int := by
    rw [← List.map_take, List.map_map, List.map_map]
    rfl
  refine .inl ⟨ns, rfl, lcW_map absD _ _ (fun d hd R F q => ?_) ?_ ?_⟩
  · rw [cut] at hd
    obtain ⟨i, _, rfl⟩ := List.mem_map.mp (List.mem_of_mem_take hd)
    exact ⟨⟨by decide, by decide, by decide⟩, (show (0 : Int) < 10 ^ (57 : Int).toNat by decide +kernel), q ⟨[.sh (scrD ns), .un, .sh (.int i), .un], β⟩⟩
  · rw [cut, List.length_take]
    have : sizeLine = 16777216 := by decide
    simp only [List.length_nil, List.length_map]
    omega
  · rw [cut, e2, List.nil_append]
    generalize hc : ((ns.take 63).map fun i : Int => (if i < 0 then -i else i) % 10 ^ (57 : Int).toNat) = cs
    have hcl : cs.length ≤ 63 := by rw [← hc, List.length_map, List.length_take]; omega
    refine .inl (forW_inv (fun r s => (∀ d ∈ r, ∃ i : Int, d = .int i) ∧ ∃ (m : Int) (a : Slot), 0 ≤ m ∧ m < 2147483647 ∧ s = ⟨[.sh (scrD ns), .sh (.list (cs.map .int)), a, .sh (.int m)], β⟩) _ _ ⟨fun d hd => ?_, 2468 + ((cs.map PyData.int).length : Int), .un, by omega, ?_, rfl⟩ ?_ ?_)
    · obtain ⟨i, _, rfl⟩ := List.mem_map.mp hd
      exact ⟨i, rfl⟩
    · rw [List.length_map]; omega
    · rintro _ ⟨_, m, a, h1, h2, rfl⟩
      exact ⟨cs.reverse, 0, m, by rw [List.map_reverse], rfl, rfl, off, k _ ⟨Int.le_refl _, h1, h2, rfl⟩⟩
    · rintro d r _ ⟨hr, m, a, h1, h2, rfl⟩ D' _ hD
      obtain ⟨i, rfl⟩ := hr d (List.mem_cons_self ..)
      refine ⟨.inr ⟨by decide, by decide⟩, (show (0 : Int) < 2147483629 by decide), (show (0 : Int) < 2147483647 by decide), hD _ ⟨fun x hx => hr x (List.mem_cons_of_mem _ hx), _, .sh (.int i), Int.emod_nonneg _ (by decide), Int.emod_lt_of_pos _ (by decide), rfl⟩⟩
end PL
namespace PL
open PySem PySem.Spec L2 VS
open PyProof.Rows hiding St
open PySem.W (AllAlike alike alikeAll dataLe)

/-! ### lots -/
def lotD (l : List Nat) : PyData := .tuple (l.map fun (x : Nat) => PyData.int (x : Int))
def subs (l : List Nat) : List (List Nat) := l.foldl (fun f x => f ++ f.map (· ++ [x])) [[]]
def keysN (l : List Nat) : List Key := l.map fun (x : Nat) => Sum.inl (x : Int)
theorem sizeL : sizeLine = 16777216 := by decide
theorem lotD_keys (l : List Nat) : lotD l = .tuple ((keysN l).map keyD) := by
  unfold lotD keysN
  rw [List.map_map]
  rfl
theorem keysN_inj {a b : List Nat} (h : keysN a = keysN b) : a = b := by
  have := congrArg (List.map fun k : Key => match k with | .inl i => i.toNat | .inr _ => 0) h
  unfold keysN at this
  rw [List.map_map, List.map_map] at this
  have e : ((fun k : Key => match k with | .inl i => i.toNat | .inr _ => 0) ∘ fun (x : Nat) => (Sum.inl (x : Int) : Key)) = id := by
    funext x
    exact Int.toNat_natCast x
  rw [e, List.map_id, List.map_id] at this
  exact this
theorem lotD_inj {a b : List Nat} (h : lotD a = lotD b) : a = b := by
  rw [lotD_keys, lotD_keys, PyData.tuple.injEq] at h
  exact keysN_inj (keysD_inj h)
theorem nats_lay (l : List Nat) : PyData.canLayAll0 (l.map fun (x : Nat) => PyData.int (x : Int)) = true := by
  have := ints_lay (l.map fun (x : Nat) => (x : Int))
  rw [List.map_map] at this
  exact this
theorem nats_depth (l : List Nat) : PyData.depthAll (l.map fun (x : Nat) => PyData.int (x : Int)) = 0 := by
  have := ints_depth (l.map fun (x : Nat) => (x : Int))
  rw [List.map_map] at this
  exact this
theorem lot_depth (l : List Nat) : (lotD l).depth = 1 := by
  simp [lotD, PyData.depth, nats_depth]
theorem lots_lay : ∀ L : List (List Nat), PyData.canLayAll0 (L.map lotD) = true
  | [] => rfl
  | l :: L => by
    have h1 : (lotD l).canLay0 = true := nats_lay l
    have h2 := lots_lay L
    simp [PyData.canLayAll0, h1, h2]
theorem lots_depth : ∀ L : List (List Nat), PyData.depthAll (L.map lotD) ≤ 1
  | [] => by simp [PyData.depthAll]
  | l :: L => by
    have h2 := lots_depth L
    simp [PyData.depthAll, lot_depth]
    omega
theorem shaped_lot (l : List Nat) : SeqAt.shaped (lotD l) = true := by
  unfold SeqAt.shaped
  rw [Bool.and_eq_true]
  exact ⟨nats_lay l, decide_eq_true (by rw [lot_depth]; decide)⟩
theorem shaped_lots (L : List (List Nat)) : SeqAt.shaped (.list (L.map lotD)) = true := by
  unfold SeqAt.shaped
  rw [Bool.and_eq_true]
  refine ⟨lots_lay L, decide_eq_true ?_⟩
  have := lots_depth L
  simp [PyData.depth]
  omega
theorem eqvAll_nats : ∀ a b : List Nat, PyData.eqvAll (a.map fun (x : Nat) => PyData.int (x : Int)) (b.map fun (x : Nat) => PyData.int (x : Int)) = decide (a = b)
  | [], [] => by simp [PyData.eqvAll]
  | [], _ :: _ => by simp [PyData.eqvAll]
  | _ :: _, [] => by simp [PyData.eqvAll]
  | x :: a, y :: b => by
    have := eqvAll_nats a b
    have e : ((x : Int) = (y : Int)) = (x = y) := propext ⟨fun h => by omega, fun h => by omega⟩
    simp only [List.map_cons, PyData.eqvAll, eqv_int, this, e, List.cons.injEq, Bool.decide_and]
theorem eqv_lot (a b : List Nat) : PyData.eqv (lotD a) (lotD b) = decide (a = b) := by
  have := eqvAll_nats a b
  simp [lotD, PyData.eqv, this]
theorem alike_nats : ∀ a b : List Nat, alikeAll (a.map fun (x : Nat) => PyData.int (x : Int)) (b.map fun (x : Nat) => PyData.int (x : Int)) = true
  | [], [] => by simp [alikeAll]
  | [], _ :: _ => by simp [alikeAll]
  | _ :: _, [] => by simp [alikeAll]
  | x :: a, y :: b => by
    have := alike_nats a b
    simp [alikeAll, alike, this]
theorem sortOk_lots (L : List (List Nat)) : VT.SortOk (L.map lotD) := by
  refine ⟨fun d hd d' hd' => ?_, .inl fun d hd => ?_, fun d hd => ?_⟩
  · obtain ⟨a, _, rfl⟩ := List.mem_map.mp hd
    obtain ⟨b, _, rfl⟩ := List.mem_map.mp hd'
    have := alike_nats a b
    simp [lotD, alike, this]
  · obtain ⟨a, _, rfl⟩ := List.mem_map.mp hd
    exact ⟨_, rfl⟩
  · obtain ⟨a, _, rfl⟩ := List.mem_map.mp hd
    rw [lot_depth]
    decide
/-- sorted lots: again lots, the same ones -/
def sortLots (L : List (List Nat)) : List (List Nat) := L.mergeSort fun a b => dataLe false id (lotD a) (lotD b)
theorem sortD_lots (L : List (List Nat)) : sortD (L.map lotD) = (sortLots L).map lotD := by
  unfold sortD sortLots
  exact (List.map_mergeSort (f := lotD) (s := dataLe false id) (r := fun a b => dataLe false id (lotD a) (lotD b)) fun a _ b _ => rfl).symm
theorem mem_sortLots {L : List (List Nat)} {l : List Nat} : l ∈ sortLots L ↔ l ∈ L := List.mem_mergeSort
theorem length_sortLots (L : List (List Nat)) : (sortLots L).length = L.length := List.length_mergeSort _
/-! ### dicts of lots -/
def tr (L : List (List Nat)) : List (List Key × PyData) := L.map fun l => (keysN l, PyData.bool true)
theorem pairT_tr (L : List (List Nat)) : pairT (tr L) = L.map fun l => .tuple [lotD l, .bool true] := by
  unfold pairT tr
  rw [List.map_map]
  refine List.map_congr_left fun l _ => ?_
  rw [lotD_keys]
  rfl
section
variable {κ : Type} [DecidableEq κ]
/-- first occurrences -/
def dd (l : List κ) : List κ := l.foldl (fun acc x => if x ∈ acc then acc else acc ++ [x]) []
theorem dd_mem_aux (x : κ) : ∀ (l acc : List κ), x ∈ l.foldl (fun acc x => if x ∈ acc then acc else acc ++ [x]) acc ↔ x ∈ acc ∨ x ∈ l
  | [], acc => by simp
  | y :: l, acc => by
    rw [List.foldl_cons, dd_mem_aux x l]
    by_cases h : y ∈ acc
    · rw [if_pos h]
      constructor
      · rintro (q | q)
        · exact .inl q
        · exact .inr (List.mem_cons_of_mem _ q)
      · rintro (q | q)
        · exact .inl q
        · rcases List.mem_cons.mp q with rfl | q
          · exact .inl h
          · exact .inr q
    · rw [if_neg h]
      simp [or_assoc]
theorem dd_mem {x : κ} {l : List κ} : x ∈ dd l ↔ x ∈ l := by
  unfold dd
  rw [dd_mem_aux]
  simp
theorem dd_len_aux : ∀ (l acc : List κ), (l.foldl (fun acc x => if x ∈ acc then acc else acc ++ [x]) acc).length ≤ acc.length + l.length
  | [], acc => by simp
  | y :: l, acc => by
    rw [List.foldl_cons]
    have := dd_len_aux l (if y ∈ acc then acc else acc ++ [y])
    refine Nat.le_trans this ?_
    split
    · simp
    · simp; omega
theorem dd_len (l : List κ) : (dd l).length ≤ l.length := by
  have := dd_len_aux l []
  simpa [dd] using this
theorem keys_put (m : List (κ × PyData)) (k : κ) (d : PyData) : (putD m k d).map (·.1) = if k ∈ m.map (·.1) then m.map (·.1) else m.map (·.1) ++ [k] := by
  unfold putD
  have e : hasD m k = true ↔ k ∈ m.map (·.1) := by
    unfold hasD
    rw [List.any_eq_true]
    constructor
    · rintro ⟨p, hp, q⟩
      exact List.mem_map.mpr ⟨p, hp, of_decide_eq_true q⟩
    · intro h
      obtain ⟨p, hp, q⟩ := List.mem_map.mp h
      exact ⟨p, hp, decide_eq_true q⟩
  by_cases h : hasD m k = true
  · rw [if_pos h, if_pos (e.mp h), List.map_map]
    refine List.map_congr_left fun p _ => ?_
    show (if p.1 = k then (p.1, d) else p).1 = p.1
    split <;> rfl
  · rw [if_neg h, if_neg fun z => h (e.mpr z)]
    simp
theorem keys_merge : ∀ (ps m : List (κ × PyData)), (mergeD m ps).map (·.1) = (ps.map (·.1)).foldl (fun acc x => if x ∈ acc then acc else acc ++ [x]) (m.map (·.1))
  | [], m => rfl
  | p :: ps, m => by
    show (mergeD (putD m p.1 p.2) ps).map (·.1) = _
    rw [keys_merge ps, keys_put]
    rfl
theorem has_iff {m : List (κ × PyData)} {k : κ} : hasD m k = decide (k ∈ m.map (·.1)) := by
  unfold hasD
  rw [Bool.eq_iff_iff, List.any_eq_true, decide_eq_true_eq]
  constructor
  · rintro ⟨p, hp, q⟩
    exact List.mem_map.mpr ⟨p, hp, of_decide_eq_true q⟩
  · intro h
    obtain ⟨p, hp, q⟩ := List.mem_map.mp h
    exact ⟨p, hp, decide_eq_true q⟩
end
theorem dd_map {α β : Type} [DecidableEq α] [DecidableEq β] (f : α → β) (inj : ∀ a b, f a = f b → a = b) (l : List α) : dd (l.map f) = (dd l).map f := by
  unfold dd
  suffices h : ∀ (l acc : List α), (l.map f).foldl (fun acc x => if x ∈ acc then acc else acc ++ [x]) (acc.map f) = (l.foldl (fun acc x => if x ∈ acc then acc else acc ++ [x]) acc).map f from h l []
  intro l
  induction l with
  | nil => intro acc; rfl
  | cons x l ih =>
    intro acc
    rw [List.map_cons, List.foldl_cons, List.foldl_cons]
    have e : (f x ∈ acc.map f) ↔ x ∈ acc := by
      rw [List.mem_map]
      exact ⟨fun ⟨y, hy, q⟩ => inj _ _ q ▸ hy, fun h => ⟨x, h, rfl⟩⟩
    by_cases h : x ∈ acc
    · rw [if_pos (e.mpr h), if_pos h]
      exact ih acc
    · rw [if_neg fun z => h (e.mp z), if_neg h]
      have := ih (acc ++ [x])
      rw [List.map_append] at this
      exact this
/-- the keys of a dict of lots -/
theorem keys_tr (L : List (List Nat)) : (mergeD [] (tr L)).map (·.1) = (dd L).map keysN := by
  rw [keys_merge]
  show ((tr L).map (·.1)).foldl _ [] = _
  have e : (tr L).map (·.1) = L.map keysN := by
    unfold tr
    rw [List.map_map]
    rfl
  rw [e]
  exact dd_map keysN (fun _ _ => keysN_inj) L
end PL
namespace PL
open PySem PySem.Spec L2 VS
open PyProof.Rows hiding St
open PySem.W (AllAlike alike alikeAll dataLe)

/-! ### the program's own defs -/
abbrev intN (x : Nat) : PyData := .int (x : Int)
theorem ne_intN (x y : Nat) : PyData.eqv (intN x) (intN y) = decide (x = y) := by
  rw [eqv_int]
  have e : ((x : Int) = (y : Int)) = (x = y) := propext ⟨fun h => by omega, fun h => by omega⟩
  simp only [e]
def sp_without : VSp := fun ds β P => ∃ (l : List Nat) (x : Nat), ds = [lotD l, intN x] ∧ l.length ≤ 9 ∧ P (lotD (l.filter fun y => decide (y ≠ x))) β
/-! lots within a lot -/
theorem subs_snoc (l : List Nat) (x : Nat) : subs (l ++ [x]) = subs l ++ (subs l).map (· ++ [x]) := by
  unfold subs
  rw [List.foldl_append]
  rfl
theorem subs_length (l : List Nat) : (subs l).length = 2 ^ l.length := by
  suffices h : ∀ (l : List Nat) (f : List (List Nat)), (l.foldl (fun f x => f ++ f.map (· ++ [x])) f).length = f.length * 2 ^ l.length by
    have := h l [[]]
    simpa [subs] using this
  intro l
  induction l with
  | nil => intro f; simp
  | cons x l ih =>
    intro f
    rw [List.foldl_cons, ih, List.length_append, List.length_map, List.length_cons, Nat.pow_succ]
    rw [← Nat.two_mul, Nat.mul_comm 2, Nat.mul_assoc, Nat.mul_comm 2]
theorem subs_len9 {l : List Nat} (h : l.length ≤ 9) : (subs l).length ≤ 512 := by
  rw [subs_length]
  exact Nat.pow_le_pow_right (by decide) h
theorem subs_mem_len {l m : List Nat} (h : m ∈ subs l) : m.length ≤ l.length := by
  suffices g : ∀ (l : List Nat) (f : List (List Nat)) (b : Nat), (∀ m ∈ f, m.length ≤ b) → ∀ m ∈ l.foldl (fun f x => f ++ f.map (· ++ [x])) f, m.length ≤ b + l.length by
    have := g l [[]] 0 (by simp) m h
    omega
  intro l
  induction l with
  | nil => intro f b hf m hm; exact hf m hm
  | cons x l ih =>
    intro f b hf m hm
    have := ih (f ++ f.map (· ++ [x])) (b + 1) (fun m hm => by
      rcases List.mem_append.mp hm with q | q
      · have := hf m q; omega
      · obtain ⟨a, ha, rfl⟩ := List.mem_map.mp q
        have := hf a ha
        simp; omega) m hm
    rw [List.length_cons]
    omega
def sp_lots : VSp := fun ds β P => ∃ l : List Nat, ds = [lotD l] ∧ l.length ≤ 9 ∧ P (.list ((subs l).map lotD)) β
def snocD (x : PyData) : PyData → PyData
  | .tuple xs => .tuple (xs ++ [x])
  | d => d
theorem snoc_lots (L : List (List Nat)) (x : Nat) : (L.map lotD).map (snocD (intN x)) = (L.map (· ++ [x])).map lotD := by
  rw [List.map_map, List.map_map]
  refine List.map_congr_left fun l _ => ?_
  show PyData.tuple (l.map intN ++ [intN x]) = .tuple ((l ++ [x]).map intN)
  rw [List.map_append]
  rfl
theorem hd_lots (ds : List PyData) (β : Bag) (Q : PyData → Bag → Prop) (hl : ds.length = 1) (h : sp_lots ds β Q) : Wk.D_lots_within { nx := fun s => Q .none s.β, rt := Q } (initS 4 ds β) := by
  obtain ⟨l, rfl, hl9, k⟩ := h
  unfold Wk.D_lots_within
  refine ⟨by decide, by decide, .inr (forW_inv (fun r s => ∃ (done rest : List Nat) (a : Slot), done ++ rest = l ∧ r = rest.map intN ∧ s = ⟨[.sh (lotD l), .sh (.list ((subs done).map lotD)), a, .un], β⟩) _ _ ⟨[], l, .un, rfl, rfl, rfl⟩ ?_ ?_)⟩
  · rintro _ ⟨done, rest, a, e1, e2, rfl⟩
    have e3 : rest = [] := by simpa using e2.symm
    subst e3
    rw [List.append_nil] at e1
    subst e1
    exact k
  · rintro d r _ ⟨done, rest, a, e1, e2, rfl⟩ D' _ hD
    cases rest with
    | nil => cases e2
    | cons x rest =>
      rw [List.map_cons, List.cons.injEq] at e2
      obtain ⟨rfl, rfl⟩ := e2
      have hdl : done.length ≤ 9 := by
        have := congrArg List.length e1
        simp at this
        omega
      have hs := subs_len9 hdl
      refine .inl (lcW_map (snocD (intN x)) _ _ (fun d hd R F q => ?_) ?_ ?_)
      · obtain ⟨m, hm, rfl⟩ := List.mem_map.mp hd
        have hml := subs_mem_len hm
        refine ⟨(show 1 ≤ sizeLine by decide), ?_, q ⟨_, β⟩⟩
        rw [List.length_map, sizeL]
        simp only [List.length_cons, List.length_nil]
        omega
      · rw [List.length_map, sizeL]
        simp only [List.length_nil]
        omega
      · rw [List.nil_append, snoc_lots]
        refine ⟨?_, hD _ ⟨done ++ [x], rest, .sh (intN x), by simpa using e1, rfl, ?_⟩⟩
        · rw [List.length_map, List.length_map, List.length_map, sizeL]
          omega
        · rw [subs_snoc, List.map_append]
          rfl
/-! the table -/
def tabD (n : Nat) (Bs : List (List Nat)) : PyData := .tuple [intN n, .tuple (Bs.map lotD)]
structure TabOk (n : Nat) (Bs : List (List Nat)) : Prop where
  n9 : n ≤ 9
  few : Bs.length ≤ 512
  small : ∀ l ∈ Bs, l.length ≤ 9
def fr (Bs : List (List Nat)) (l : List Nat) : Prop := ∃ b ∈ Bs, l ∈ subs b
def sp_free : VSp := fun ds β P => ∃ (n : Nat) (Bs : List (List Nat)), ds = [tabD n Bs] ∧ TabOk n Bs ∧ ∀ L : List (List Nat), (∀ l, l ∈ L ↔ fr Bs l) → L.length ≤ 262144 → P (.tuple (L.map lotD)) β
theorem trueD_lots (L : List (List Nat)) : (L.map lotD).map (fun d => PyData.tuple [d, .bool true]) = pairT (tr L) := by
  rw [pairT_tr, List.map_map]
  rfl
theorem length_tr (L : List (List Nat)) : (tr L).length = L.length := List.length_map _
theorem length_merge {κ : Type} [DecidableEq κ] : ∀ (ps m : List (κ × PyData)), (mergeD m ps).length ≤ m.length + ps.length := by
  intro ps m
  have e := congrArg List.length (keys_merge ps m)
  rw [List.length_map] at e
  have := dd_len_aux (ps.map (·.1)) (m.map (·.1))
  rw [← e] at this
  simpa using this
theorem merge_tr (L M : List (List Nat)) : mergeD (mergeD [] (tr L)) (tr M) = mergeD [] (tr (L ++ M)) := by
  unfold mergeD tr
  rw [List.map_append, List.foldl_append]
theorem keyD_tr (L : List (List Nat)) : ((mergeD [] (tr L)).map fun p => PyData.tuple (p.1.map keyD)) = (dd L).map lotD := by
  have h := congrArg (List.map fun k : List Key => PyData.tuple (k.map keyD)) (keys_tr L)
  rw [List.map_map, List.map_map] at h
  have e : (dd L).map lotD = (dd L).map ((fun k : List Key => PyData.tuple (k.map keyD)) ∘ keysN) := List.map_congr_left fun l _ => lotD_keys l
  rw [e]
  exact h
theorem flat_len : ∀ (L : List (List Nat)), (∀ b ∈ L, b.length ≤ 9) → (L.flatMap subs).length ≤ 512 * L.length
  | [], _ => by simp
  | b :: L, h => by
    have h1 := subs_len9 (h b (List.mem_cons_self ..))
    have h2 := flat_len L fun x hx => h x (List.mem_cons_of_mem _ hx)
    rw [List.flatMap_cons, List.length_append, List.length_cons]
    omega
theorem hd_free (ds : List PyData) (β : Bag) (Q : PyData → Bag → Prop) (hl : ds.length = 1) (h : sp_free ds β Q) : Wk.D_free_lots sp_lots { nx := fun s => Q .none s.β, rt := Q } (initS 4 ds β) := by
  obtain ⟨n, Bs, rfl, ok, k⟩ := h
  unfold Wk.D_free_lots
  refine .inr ⟨_, rfl, forW_inv (fun r s => ∃ (done rest : List (List Nat)) (a : Slot), done ++ rest = Bs ∧ r = rest.map lotD ∧ s = ⟨[.sh (tabD n Bs), .ow (dictT (toT (mergeD [] (tr (done.flatMap subs))))), a, .un], β⟩) _ _ ⟨[], Bs, .un, rfl, rfl, rfl⟩ ?_ ?_⟩
  · rintro _ ⟨done, rest, a, e1, e2, rfl⟩
    have e3 : rest = [] := by simpa using e2.symm
    subst e3
    rw [List.append_nil] at e1
    subst e1
    refine .inr (.inl ⟨_, rfl, ?_, ?_⟩)
    · rw [keyD_tr]
      exact sortOk_lots _
    · rw [keyD_tr, sortD_lots]
      refine k _ (fun l => ?_) ?_
      · rw [mem_sortLots, dd_mem, List.mem_flatMap]
        rfl
      · rw [length_sortLots]
        refine Nat.le_trans (dd_len _) (Nat.le_trans (flat_len done ok.small) ?_)
        have := ok.few
        omega
  · rintro d r _ ⟨done, rest, a, e1, e2, rfl⟩ D' _ hD
    cases rest with
    | nil => cases e2
    | cons b rest =>
      rw [List.map_cons, List.cons.injEq] at e2
      obtain ⟨rfl, rfl⟩ := e2
      have hb : b.length ≤ 9 := ok.small b (by rw [← e1]; simp)
      have hs := subs_len9 hb
      refine ⟨⟨_, rfl, rfl⟩, .inl ⟨rfl, b, rfl, hb, lcW_map (fun d => PyData.tuple [d, .bool true]) _ _ (fun d hd R F q => ⟨(show 2 ≤ sizeLine by decide), q ⟨_, β⟩⟩) ?_ ?_⟩⟩
      · rw [List.length_map, sizeL]
        simp only [List.length_nil]
        omega
      · rw [List.nil_append, trueD_lots]
        refine ⟨_, rfl, _, _, rfl, rfl, ?_, ?_⟩
        · have h1 := length_merge (tr (done.flatMap subs)) []
          have h2 := flat_len done fun x hx => ok.small x (by rw [← e1]; exact List.mem_append_left _ hx)
          have h3 : done.length ≤ 512 := by
            have := congrArg List.length e1
            rw [List.length_append] at this
            have := ok.few
            omega
          rw [length_tr] at h1 ⊢
          simp only [List.length_nil] at h1
          rw [sizeL]
          omega
        · rw [merge_tr]
          exact hD _ ⟨done ++ [b], rest, .sh (lotD b), by simpa using e1, rfl, by rw [List.flatMap_append]; simp⟩
end PL
namespace PL
open PySem PySem.Spec L2 VS
open PyProof.Rows hiding St

theorem has_true {κ : Type} [DecidableEq κ] {m : List (κ × PyData)} {k : κ} : hasD m k = true ↔ k ∈ m.map (·.1) := by
  unfold hasD
  rw [List.any_eq_true]
  constructor
  · rintro ⟨p, hp, q⟩
    exact List.mem_map.mpr ⟨p, hp, of_decide_eq_true q⟩
  · intro h
    obtain ⟨p, hp, q⟩ := List.mem_map.mp h
    exact ⟨p, hp, decide_eq_true q⟩
theorem has_tr (L : List (List Nat)) (l : List Nat) : hasD (mergeD [] (tr L)) (keysN l) = decide (l ∈ L) := by
  rw [Bool.eq_iff_iff, has_true, keys_tr, decide_eq_true_eq, List.mem_map]
  constructor
  · rintro ⟨m, hm, e⟩
    rw [keysN_inj e] at hm
    exact dd_mem.mp hm
  · intro h
    exact ⟨l, dd_mem.mpr h, rfl⟩
theorem rg_nat (n : Nat) : rgD 0 (n : Int) = (List.range n).map intN := by
  unfold rgD rangeD
  have : ((n : Int) - 0).toNat = n := by omega
  rw [this]
  refine List.map_congr_left fun i _ => ?_
  show PyData.int (0 + (i : Int)) = .int (i : Int)
  rw [Int.zero_add]
theorem rgOk (n : Nat) (h : n ≤ 1024) : RgOk 0 (n : Int) := ⟨by omega, by omega, by omega, by omega, by omega⟩
def isR (Bs : List (List Nat)) (l : List Nat) : Prop := ¬ fr Bs l ∧ ∀ x ∈ l, fr Bs (l.filter fun y => decide (y ≠ x))
def sp_rounds : VSp := fun ds β P => ∃ (n : Nat) (Bs : List (List Nat)), ds = [tabD n Bs] ∧ TabOk n Bs ∧ ∀ L : List (List Nat), (∀ l, l ∈ L ↔ l ∈ subs (List.range n) ∧ isR Bs l) → L.length ≤ 512 → P (.tuple (L.map lotD)) β
/-- whether a lot is a round, told of the free ones -/
def rdB (L : List (List Nat)) (l : List Nat) : Bool := !decide (l ∈ L) && (l.map fun x => decide ((l.filter fun y => decide (y ≠ x)) ∈ L)).all id
theorem rdB_iff {Bs L : List (List Nat)} (hL : ∀ l, l ∈ L ↔ fr Bs l) (l : List Nat) : rdB L l = true ↔ isR Bs l := by
  unfold rdB isR
  rw [Bool.and_eq_true, Bool.not_eq_true', decide_eq_false_iff_not, hL, List.all_eq_true]
  refine and_congr_right fun _ => ⟨fun h x hx => (hL _).mp ?_, fun h b hb => ?_⟩
  · exact of_decide_eq_true (h _ (List.mem_map.mpr ⟨x, hx, rfl⟩))
  · obtain ⟨x, hx, rfl⟩ := List.mem_map.mp hb
    exact decide_eq_true ((hL _).mpr (h x hx))
end PL
namespace PL
open PySem PySem.Spec L2 VS
open PyProof.Rows hiding St
open PySem.W (AllAlike alike alikeAll dataLe)

theorem lcW_mapL {α : Type} (enc f : α → PyData) {own : List Nat} {b : DG} {tt : DT} {te : DE} {ρ : List Slot} {P : List PyData → S → Prop} {β : Bag} : ∀ (xs : List α) (acc : List PyData),
    (∀ x ∈ xs, ∀ (R : Bool → S → PyData → S → Prop) (F : S → S → Prop), (∀ s2, R true s2 (f x) ⟨s2.ρ, β⟩) → b (enc x) ⟨wipeS ρ own, β⟩ fun s2 => tt s2 fun c s3 => if c = true then te s3 fun y s4 => R true s2 y s4 else F s2 s3) →
    acc.length + xs.length ≤ sizeLine → P (acc ++ xs.map f) ⟨ρ, β⟩ → lcW own b tt te ρ P (xs.map enc) acc β
  | [], acc, _, _, p => by simpa [lcW] using p
  | x :: xs, acc, h, hl, p => by
    rw [List.length_cons] at hl
    have ih := lcW_mapL enc f xs (acc ++ [f x]) (fun y hy => h y (List.mem_cons_of_mem _ hy)) (by simp; omega) (by simpa using p)
    exact h x (List.mem_cons_self ..) (fun _ s2 y s4 => acc.length < sizeLine ∧ s4.ρ = s2.ρ ∧ lcW own b tt te ρ P (xs.map enc) (acc ++ [y]) s4.β) (fun s2 s3 => s3.ρ = s2.ρ ∧ lcW own b tt te ρ P (xs.map enc) acc s3.β) fun s2 => ⟨by omega, rfl, ih⟩
theorem lcW_filtL {α : Type} (enc : α → PyData) (f : α → Option PyData) {own : List Nat} {b : DG} {tt : DT} {te : DE} {ρ : List Slot} {P : List PyData → S → Prop} {β : Bag} : ∀ (xs : List α) (acc : List PyData),
    (∀ x ∈ xs, ∀ (R : S → PyData → S → Prop) (F : S → S → Prop), (match f x with | some y => ∀ s2, R s2 y ⟨s2.ρ, β⟩ | none => ∀ s2 : S, F s2 ⟨s2.ρ, β⟩) → b (enc x) ⟨wipeS ρ own, β⟩ fun s2 => tt s2 fun c s3 => if c = true then te s3 fun y s4 => R s2 y s4 else F s2 s3) →
    acc.length + xs.length ≤ sizeLine → P (acc ++ xs.filterMap f) ⟨ρ, β⟩ → lcW own b tt te ρ P (xs.map enc) acc β
  | [], acc, _, _, p => by simpa [lcW] using p
  | x :: xs, acc, h, hl, p => by
    rw [List.length_cons] at hl
    refine h x (List.mem_cons_self ..) (fun s2 y s4 => acc.length < sizeLine ∧ s4.ρ = s2.ρ ∧ lcW own b tt te ρ P (xs.map enc) (acc ++ [y]) s4.β) (fun s2 s3 => s3.ρ = s2.ρ ∧ lcW own b tt te ρ P (xs.map enc) acc s3.β) ?_
    cases q : f x with
    | some y =>
      exact fun s2 => ⟨by omega, rfl, lcW_filtL enc f xs (acc ++ [y]) (fun z hz => h z (List.mem_cons_of_mem _ hz)) (by simp; omega) (by simpa [q] using p)⟩
    | none =>
      exact fun s2 => ⟨rfl, lcW_filtL enc f xs acc (fun z hz => h z (List.mem_cons_of_mem _ hz)) (by omega) (by simpa [q] using p)⟩
/-- a loop over encoded items -/
theorem forW_L {α : Type} (enc : α → PyData) {b : DG} {body : DS} {D : DEnds} (I : List α → List α → S → Prop) (all : List α) (s : S) (h0 : I [] all s) (he : ∀ s, I all [] s → D.nx s)
    (ht : ∀ done x rest s, all = done ++ x :: rest → I done (x :: rest) s → ∀ D' : DEnds, D'.rt = D.rt → (∀ s', I (done ++ [x]) rest s' → D'.nx s') → b (enc x) s fun s' => body D' s') : forW b body D (all.map enc) s := by
  refine forW_inv (fun r s => ∃ done rest, all = done ++ rest ∧ r = rest.map enc ∧ I done rest s) _ _ ⟨[], all, rfl, rfl, h0⟩ ?_ ?_
  · rintro s ⟨done, rest, e1, e2, h⟩
    have e3 : rest = [] := by simpa using e2.symm
    subst e3
    rw [List.append_nil] at e1
    subst e1
    exact he s h
  · rintro d r s ⟨done, rest, e1, e2, h⟩ D' hr hD
    cases rest with
    | nil => cases e2
    | cons x rest =>
      rw [List.map_cons, List.cons.injEq] at e2
      obtain ⟨rfl, rfl⟩ := e2
      exact ht done x rest s e1 h D' hr fun s' h' => hD s' ⟨done ++ [x], rest, by rw [e1]; simp, rfl, h'⟩
abbrev castN (l : List Nat) : List Int := l.map fun (x : Nat) => (x : Int)
theorem lotD_cast (l : List Nat) : lotD l = .tuple ((castN l).map .int) := by
  unfold lotD castN
  rw [List.map_map]
  rfl
theorem mem_cast {x : Nat} {l : List Nat} : (x : Int) ∈ castN l ↔ x ∈ l := by
  unfold castN
  rw [List.mem_map]
  constructor
  · rintro ⟨y, hy, e⟩
    have : y = x := by omega
    exact this ▸ hy
  · exact fun h => ⟨x, h, rfl⟩
def tieP (n : Nat) (Bs : List (List Nat)) (x y : Nat) : Prop := x = y ∨ ∃ l, (l ∈ subs (List.range n) ∧ isR Bs l) ∧ x ∈ l ∧ y ∈ l
def sp_tied : VSp := fun ds β P => ∃ (n x y : Nat) (Bs : List (List Nat)), ds = [tabD n Bs, intN x, intN y] ∧ TabOk n Bs ∧ ∀ b : Bool, (b = true ↔ tieP n Bs x y) → P (.bool b) β
end PL
namespace PL
open PySem PySem.Spec L2 VS
open PyProof.Rows hiding St
open PySem.W (AllAlike alike alikeAll dataLe)

theorem dd_nodup {κ : Type} [DecidableEq κ] (l : List κ) : (dd l).Nodup := by
  unfold dd
  suffices h : ∀ (l acc : List κ), acc.Nodup → (l.foldl (fun acc x => if x ∈ acc then acc else acc ++ [x]) acc).Nodup from h l [] List.nodup_nil
  intro l
  induction l with
  | nil => intro acc h; exact h
  | cons x l ih =>
    intro acc h
    rw [List.foldl_cons]
    refine ih _ ?_
    split
    · exact h
    · rename_i q
      rw [List.nodup_append]
      refine ⟨h, by simp, fun a ha b hb => ?_⟩
      rw [List.mem_singleton] at hb
      rintro rfl
      exact q (hb ▸ ha)
theorem dataLe_int (a b : Int) : dataLe false id (.int a) (.int b) = decide (a ≤ b) := by
  show (!PyProof.Rows.lexLt PyProof.Rows.itemOrd [.inl b] [.inl a]) = _
  have : PyProof.Rows.lexLt PyProof.Rows.itemOrd [.inl b] [.inl a] = decide (b < a) := by
    by_cases h : b < a
    · simp [PyProof.Rows.lexLt, PyProof.Rows.itemLt, h]
    · simp [PyProof.Rows.lexLt, PyProof.Rows.itemLt, h]
  rw [this]
  by_cases h : b < a
  · rw [decide_eq_true h, decide_eq_false (by omega)]; rfl
  · rw [decide_eq_false h, decide_eq_true (by omega)]; rfl
theorem sortD_nats (zs : List Nat) : sortD (zs.map intN) = (zs.mergeSort fun a b => decide (a ≤ b)).map intN := by
  unfold sortD
  refine (List.map_mergeSort (f := intN) (s := dataLe false id) (r := fun a b => decide (a ≤ b)) fun a _ b _ => ?_).symm
  rw [dataLe_int]
  have e : ((a : Int) ≤ (b : Int)) = (a ≤ b) := propext ⟨fun h => by omega, fun h => by omega⟩
  simp only [e]
theorem sort_canon {zs : List Nat} (hz : zs.Nodup) {p : Nat → Bool} {N : Nat} (h : ∀ y, y ∈ zs ↔ y < N ∧ p y = true) : (zs.mergeSort fun a b => decide (a ≤ b)) = (List.range N).filter p := by
  have h1 : ((List.range N).filter p).Nodup := List.Pairwise.filter _ List.nodup_range
  refine List.Perm.eq_of_pairwise (le := fun a b => a ≤ b) (fun a b _ _ h1 h2 => by omega) ?_ ?_ ?_
  · have := List.pairwise_mergeSort (le := fun a b : Nat => decide (a ≤ b)) (fun a b c h1 h2 => by simp at *; omega) (fun a b => by simp; omega) zs
    exact this.imp fun h => of_decide_eq_true h
  · exact (List.Pairwise.filter _ List.pairwise_lt_range).imp fun h => Nat.le_of_lt h
  · refine (List.mergeSort_perm zs _).trans ((List.perm_ext_iff_of_nodup hz h1).mpr fun y => ?_)
    rw [h y, List.mem_filter, List.mem_range]
theorem sortOk_nats (zs : List Nat) : VT.SortOk (zs.map intN) := by
  refine ⟨fun d hd d' hd' => ?_, .inr fun d hd => ?_, fun d hd => ?_⟩
  · obtain ⟨a, _, rfl⟩ := List.mem_map.mp hd
    obtain ⟨b, _, rfl⟩ := List.mem_map.mp hd'
    simp [intN, alike]
  · obtain ⟨a, _, rfl⟩ := List.mem_map.mp hd
    exact ⟨(fun h => nomatch h), fun xs h => nomatch h⟩
  · obtain ⟨a, _, rfl⟩ := List.mem_map.mp hd
    simp [intN, PyData.depth]
/-! a dict of things -/
def trN (ys : List Nat) : List (Key × PyData) := ys.map fun (y : Nat) => (Sum.inl (y : Int), PyData.bool true)
theorem pairK_tr (ys : List Nat) : pairK (trN ys) = ys.map fun y => .tuple [intN y, .bool true] := by
  unfold pairK trN
  rw [List.map_map]
  rfl
theorem keys_trN (ys : List Nat) : ((mergeD [] (trN ys)).map fun p => keyD p.1) = (dd ys).map intN := by
  have h : (mergeD [] (trN ys)).map (·.1) = (dd ys).map fun (y : Nat) => (Sum.inl (y : Int) : Key) := by
    rw [keys_merge]
    show ((trN ys).map (·.1)).foldl _ [] = _
    have e : (trN ys).map (·.1) = ys.map fun (y : Nat) => (Sum.inl (y : Int) : Key) := by
      unfold trN
      rw [List.map_map]
      rfl
    rw [e]
    exact dd_map (fun (y : Nat) => (Sum.inl (y : Int) : Key)) (fun a b h => by
      have h : (Sum.inl (a : Int) : Key) = Sum.inl (b : Int) := h
      rw [Sum.inl.injEq] at h
      omega) ys
  have h2 := congrArg (List.map keyD) h
  rw [List.map_map, List.map_map] at h2
  exact h2
theorem merge_trN (a b : List Nat) : mergeD (mergeD [] (trN a)) (trN b) = mergeD [] (trN (a ++ b)) := by
  unfold mergeD trN
  rw [List.map_append, List.foldl_append]
structure RdOk (L : List (List Nat)) : Prop where
  few : L.length ≤ 512
  len : ∀ l ∈ L, l.length ≤ 9
  lt : ∀ l ∈ L, ∀ y ∈ l, y < 9
def partOf (L : List (List Nat)) (x : Nat) : List Nat := (List.range 9).filter fun y => decide (y = x) || L.any fun l => decide (x ∈ l) && decide (y ∈ l)
def sp_part : VSp := fun ds β P => ∃ (L : List (List Nat)) (x : Nat), ds = [.tuple (L.map lotD), intN x] ∧ RdOk L ∧ x < 9 ∧ P (lotD (partOf L x)) β
def gat (L : List (List Nat)) (x : Nat) : List Nat := x :: L.flatMap fun l => if x ∈ l then l else []
theorem gat_snoc (L : List (List Nat)) (l : List Nat) (x : Nat) : gat (L ++ [l]) x = gat L x ++ if x ∈ l then l else [] := by
  unfold gat
  rw [List.flatMap_append]
  simp
theorem gat_len (x : Nat) : ∀ (L : List (List Nat)), (∀ l ∈ L, l.length ≤ 9) → (gat L x).length ≤ 1 + 9 * L.length
  | [], _ => by simp [gat]
  | l :: L, h => by
    have h2 := gat_len x L fun m hm => h m (List.mem_cons_of_mem _ hm)
    have h1 := h l (List.mem_cons_self ..)
    unfold gat at h2 ⊢
    rw [List.length_cons] at h2 ⊢
    rw [List.flatMap_cons, List.length_append, List.length_cons]
    split
    · omega
    · simp only [List.length_nil]; omega
end PL
namespace PL
open PySem PySem.Spec L2 VS
open PyProof.Rows hiding St

theorem rangeD_nat (n : Nat) : rangeD 0 n = (List.range n).map intN := by
  unfold rangeD
  refine List.map_congr_left fun i _ => ?_
  show PyData.int (0 + (i : Int)) = .int (i : Int)
  rw [Int.zero_add]
theorem subs_sub {l m : List Nat} (h : m ∈ subs l) : ∀ y ∈ m, y ∈ l := by
  suffices g : ∀ (l : List Nat) (f : List (List Nat)) (p : Nat → Prop), (∀ m ∈ f, ∀ y ∈ m, p y) → (∀ y ∈ l, p y) → ∀ m ∈ l.foldl (fun f x => f ++ f.map (· ++ [x])) f, ∀ y ∈ m, p y from
    g l [[]] (· ∈ l) (fun m hm y hy => by simp at hm; subst hm; cases hy) (fun y hy => hy) m h
  intro l
  induction l with
  | nil => intro f p hf _ m hm; exact hf m hm
  | cons x l ih =>
    intro f p hf hl m hm
    refine ih (f ++ f.map (· ++ [x])) p (fun m hm y hy => ?_) (fun y hy => hl y (List.mem_cons_of_mem _ hy)) m hm
    rcases List.mem_append.mp hm with q | q
    · exact hf m q y hy
    · obtain ⟨a, ha, rfl⟩ := List.mem_map.mp q
      rcases List.mem_append.mp hy with q | q
      · exact hf a ha y q
      · rw [List.mem_singleton] at q
        exact q ▸ hl x (List.mem_cons_self ..)
def RdOf (n : Nat) (Bs L : List (List Nat)) : Prop := ∀ l, l ∈ L ↔ l ∈ subs (List.range n) ∧ isR Bs l
theorem RdOf.ok {n : Nat} {Bs L : List (List Nat)} (h : RdOf n Bs L) (h9 : n ≤ 9) (hl : L.length ≤ 512) : RdOk L := ⟨hl, fun l hm => by
    have := subs_mem_len ((h l).mp hm).1
    rw [List.length_range] at this
    omega, fun l hm y hy => by
    have := List.mem_range.mp (subs_sub ((h l).mp hm).1 y hy)
    omega⟩
def sp_parts : VSp := fun ds β P => ∃ (n : Nat) (Bs : List (List Nat)), ds = [tabD n Bs] ∧ TabOk n Bs ∧ ∀ L : List (List Nat), RdOf n Bs L → P (.tuple ((sortLots (dd ((List.range n).map (partOf L)))).map lotD)) β
def sp_one : VSp := fun ds β P => ∃ (n : Nat) (Bs : List (List Nat)), ds = [tabD n Bs] ∧ TabOk n Bs ∧ ∀ L : List (List Nat), RdOf n Bs L → P (.bool (decide ((dd ((List.range n).map (partOf L))).length ≤ 1))) β
end PL
namespace PL
open PySem PySem.Spec L2 VS
open PyProof.Rows hiding St

/-! ### codes -/
def bl (c : Nat) : List Nat := (List.range 9).filter fun i => c.testBit i
theorem mem_bl {c y : Nat} : y ∈ bl c ↔ y < 9 ∧ c.testBit y = true := by
  unfold bl
  rw [List.mem_filter, List.mem_range]
theorem bl_len (c : Nat) : (bl c).length ≤ 9 := by
  have := List.length_filter_le (fun i => c.testBit i) (List.range 9)
  rw [List.length_range] at this
  exact this
theorem bit_high {c i k : Nat} (h : c < 2 ^ k) (hi : k ≤ i) : c.testBit i = false := Nat.testBit_lt_two_pow (Nat.lt_of_lt_of_le h (Nat.pow_le_pow_right (by decide) hi))
theorem lt512 {n c : Nat} (h9 : n ≤ 9) (h : c < 2 ^ n) : c < 512 := Nat.lt_of_lt_of_le h (show 2 ^ n ≤ 2 ^ 9 from Nat.pow_le_pow_right (by decide) h9)
theorem bl_inj {c d : Nat} (hc : c < 512) (hd : d < 512) (h : ∀ y < 9, c.testBit y = d.testBit y) : c = d := by
  apply Nat.eq_of_testBit_eq
  intro i
  by_cases q : i < 9
  · exact h i q
  · rw [bit_high (k := 9) hc (by omega), bit_high (k := 9) hd (by omega)]
theorem subs_filter (p : Nat → Bool) : ∀ (k : Nat) (m : List Nat), m ∈ subs ((List.range k).filter p) ↔ ∃ q : Nat → Bool, (∀ i < k, q i = true → p i = true) ∧ m = (List.range k).filter q
  | 0, m => by
    show m ∈ [[]] ↔ _
    rw [List.mem_singleton]
    exact ⟨fun h => ⟨fun _ => false, fun i hi => by omega, h⟩, fun ⟨q, _, h⟩ => h⟩
  | k + 1, m => by
    rw [List.range_succ, List.filter_append]
    have ih := subs_filter p k
    have fil : ∀ q : Nat → Bool, ([k] : List Nat).filter q = if q k = true then [k] else [] := fun q => by
      by_cases h : q k = true <;> simp [h]
    rw [fil]
    have con : ∀ {q : Nat → Bool} (b : Bool), (List.range k).filter (fun i => if i = k then b else q i) = (List.range k).filter q := fun {q} b => by
      refine List.filter_congr fun i hi => ?_
      have := List.mem_range.mp hi
      rw [if_neg (by omega)]
    by_cases hk : p k = true
    · rw [if_pos hk, subs_snoc, List.mem_append]
      constructor
      · rintro (h | h)
        · obtain ⟨q, h1, h2⟩ := (ih m).mp h
          refine ⟨fun i => if i = k then false else q i, fun i hi hq => ?_, ?_⟩
          · by_cases e : i = k
            · simp [e] at hq
            · simp only [e, if_false] at hq; exact h1 i (by omega) hq
          · rw [List.filter_append, con, fil, if_neg (by simp), List.append_nil]
            exact h2
        · obtain ⟨a, ha, rfl⟩ := List.mem_map.mp h
          obtain ⟨q, h1, h2⟩ := (ih a).mp ha
          refine ⟨fun i => if i = k then true else q i, fun i hi hq => ?_, ?_⟩
          · by_cases e : i = k
            · exact e ▸ hk
            · simp only [e, if_false] at hq; exact h1 i (by omega) hq
          · rw [List.filter_append, con, fil, if_pos (by simp), h2]
      · rintro ⟨q, h1, rfl⟩
        rw [List.filter_append, fil]
        by_cases hq : q k = true
        · rw [if_pos hq]
          exact .inr (List.mem_map.mpr ⟨_, (ih _).mpr ⟨q, fun i hi => h1 i (by omega), rfl⟩, rfl⟩)
        · rw [if_neg hq, List.append_nil]
          exact .inl ((ih _).mpr ⟨q, fun i hi => h1 i (by omega), rfl⟩)
    · rw [if_neg hk, List.append_nil]
      rw [ih]
      constructor
      · rintro ⟨q, h1, h2⟩
        refine ⟨fun i => if i = k then false else q i, fun i hi hq => ?_, ?_⟩
        · by_cases e : i = k
          · simp [e] at hq
          · simp only [e, if_false] at hq; exact h1 i (by omega) hq
        · rw [List.filter_append, con, fil, if_neg (by simp), List.append_nil]
          exact h2
      · rintro ⟨q, h1, rfl⟩
        refine ⟨q, fun i hi => h1 i (by omega), ?_⟩
        rw [List.filter_append, fil, if_neg fun h => hk (h1 k (by omega) h), List.append_nil]
theorem code_of (q : Nat → Bool) : ∀ k : Nat, ∃ c, c < 2 ^ k ∧ ∀ i, c.testBit i = (decide (i < k) && q i)
  | 0 => ⟨0, by decide, fun i => by simp⟩
  | k + 1 => by
    obtain ⟨c, h1, h2⟩ := code_of q k
    by_cases hk : q k = true
    · refine ⟨2 ^ k + c, by rw [Nat.pow_succ]; omega, fun i => ?_⟩
      rcases Nat.lt_trichotomy i k with h | h | h
      · rw [Nat.testBit_two_pow_add_gt h, h2, decide_eq_true h, decide_eq_true (by omega)]
      · subst h
        rw [Nat.testBit_two_pow_add_eq, h2]
        simp [hk]
      · rw [bit_high (k := k + 1) (by rw [Nat.pow_succ]; omega) (by omega), decide_eq_false (by omega)]
        rfl
    · refine ⟨c, by rw [Nat.pow_succ]; omega, fun i => ?_⟩
      rw [h2]
      rcases Nat.lt_trichotomy i k with h | h | h
      · rw [decide_eq_true h, decide_eq_true (by omega)]
      · subst h
        have hk' : q i = false := by simpa using hk
        simp [hk']
      · rw [decide_eq_false (by omega), decide_eq_false (by omega)]
def sub (c b : Nat) : Prop := c &&& b = c
theorem sub_iff {c b : Nat} : sub c b ↔ ∀ i, c.testBit i = true → b.testBit i = true := by
  unfold sub
  constructor
  · intro h i hi
    have := congrArg (fun z => z.testBit i) h
    simp only [Nat.testBit_and] at this
    rw [hi] at this
    simpa using this
  · intro h
    apply Nat.eq_of_testBit_eq
    intro i
    rw [Nat.testBit_and]
    cases hc : c.testBit i with
    | false => rfl
    | true => rw [h i hc]; rfl
theorem subs_bl {c b : Nat} (hc : c < 512) : bl c ∈ subs (bl b) ↔ sub c b := by
  unfold bl
  rw [subs_filter, sub_iff]
  constructor
  · rintro ⟨q, h1, h2⟩ i hi
    have i9 : i < 9 := by
      refine Classical.byContradiction fun h => ?_
      rw [bit_high (k := 9) hc (by omega)] at hi
      cases hi
    have : i ∈ (List.range 9).filter fun i => c.testBit i := List.mem_filter.mpr ⟨List.mem_range.mpr i9, hi⟩
    rw [h2] at this
    exact h1 i i9 (List.mem_filter.mp this).2
  · exact fun h => ⟨fun i => c.testBit i, fun i _ => h i, rfl⟩
theorem range_filter (n : Nat) (h : n ≤ 9) : (List.range 9).filter (fun i => decide (i < n)) = List.range n := by
  have : ∀ n ≤ 9, (List.range 9).filter (fun i => decide (i < n)) = List.range n := by decide
  exact this n h
theorem subs_range {n : Nat} (h9 : n ≤ 9) (m : List Nat) : m ∈ subs (List.range n) ↔ ∃ c, c < 2 ^ n ∧ m = bl c := by
  rw [← range_filter n h9, subs_filter]
  constructor
  · rintro ⟨q, h1, rfl⟩
    obtain ⟨c, h2, h3⟩ := code_of q n
    refine ⟨c, h2, ?_⟩
    unfold bl
    refine List.filter_congr fun i hi => ?_
    rw [h3]
    have i9 := List.mem_range.mp hi
    cases hq : q i with
    | false => simp
    | true => rw [h1 i i9 hq]; rfl
  · rintro ⟨c, h2, rfl⟩
    refine ⟨fun i => c.testBit i, fun i _ hi => ?_, rfl⟩
    refine decide_eq_true (Classical.byContradiction fun h => ?_)
    have hi : c.testBit i = true := hi
    rw [bit_high (k := n) h2 (by omega)] at hi
    cases hi
theorem minus_all : ∀ x < 9, ∀ d < 512, d.testBit x = true → 2 ^ x ≤ d ∧ (d - 2 ^ x) ||| 2 ^ x = d ∧ (d - 2 ^ x) &&& 2 ^ x = 0 := by decide +kernel
theorem minus_bit {x d : Nat} (hx : x < 9) (hd : d < 512) (h : d.testBit x = true) (y : Nat) : (d - 2 ^ x).testBit y = (d.testBit y && decide (y ≠ x)) := by
  obtain ⟨_, h1, h2⟩ := minus_all x hx d hd h
  have e1 := congrArg (fun z => z.testBit y) h1
  have e2 := congrArg (fun z => z.testBit y) h2
  simp only [Nat.testBit_or, Nat.testBit_and, Nat.testBit_two_pow, Nat.zero_testBit] at e1 e2
  rw [← e1]
  by_cases q : x = y
  · subst q
    simp at e2 ⊢
    exact e2
  · have q2 : y ≠ x := fun z => q z.symm
    simp [q, q2]
theorem plus_all : ∀ x < 9, ∀ c < 512, c.testBit x = false → (c + 2 ^ x) = c ||| 2 ^ x := by decide +kernel
theorem bl_minus {x d : Nat} (hd : d < 512) (h : x ∈ bl d) : (bl d).filter (fun y => decide (y ≠ x)) = bl (d - 2 ^ x) := by
  obtain ⟨hx, hb⟩ := mem_bl.mp h
  unfold bl
  rw [List.filter_filter]
  refine List.filter_congr fun i _ => ?_
  rw [minus_bit hx hd hb, Bool.and_comm]
def frB (B : List Nat) (c : Nat) : Bool := B.any fun b => (c &&& b) == c
end PL
namespace PL
open PySem PySem.Spec L2 VS
open PyProof.Rows hiding St

theorem frB_iff {B : List Nat} {c : Nat} (hc : c < 512) : fr (sortLots (B.map bl)) (bl c) ↔ frB B c = true := by
  unfold fr frB
  rw [List.any_eq_true]
  constructor
  · rintro ⟨b, hb, h⟩
    obtain ⟨d, hd, rfl⟩ := List.mem_map.mp (mem_sortLots.mp hb)
    exact ⟨d, hd, beq_iff_eq.mpr ((subs_bl hc).mp h)⟩
  · rintro ⟨d, hd, h⟩
    exact ⟨bl d, mem_sortLots.mpr (List.mem_map.mpr ⟨d, hd, rfl⟩), (subs_bl hc).mpr (beq_iff_eq.mp h)⟩
def rdC (B : List Nat) (c : Nat) : Bool := !frB B c && (bl c).all fun x => frB B (c - 2 ^ x)
theorem isR_iff {B : List Nat} {c : Nat} (hc : c < 512) : isR (sortLots (B.map bl)) (bl c) ↔ rdC B c = true := by
  unfold isR rdC
  rw [frB_iff hc, Bool.and_eq_true, Bool.not_eq_true', List.all_eq_true]
  refine and_congr (by simp) ⟨fun h x hx => ?_, fun h x hx => ?_⟩
  · have := h x hx
    rw [bl_minus hc hx, frB_iff (Nat.lt_of_le_of_lt (Nat.sub_le _ _) hc)] at this
    exact this
  · rw [bl_minus hc hx, frB_iff (Nat.lt_of_le_of_lt (Nat.sub_le _ _) hc)]
    exact h x hx
def RC (n : Nat) (B : List Nat) : List Nat := (List.range (2 ^ n)).filter (rdC B)
theorem rd_of {n : Nat} {B : List Nat} (h9 : n ≤ 9) : RdOf n (sortLots (B.map bl)) ((RC n B).map bl) := by
  intro l
  rw [List.mem_map, subs_range h9]
  constructor
  · rintro ⟨c, hc, rfl⟩
    obtain ⟨h1, h2⟩ := List.mem_filter.mp hc
    have h1 := List.mem_range.mp h1
    exact ⟨⟨c, h1, rfl⟩, (isR_iff (lt512 h9 h1)).mpr h2⟩
  · rintro ⟨⟨c, h1, rfl⟩, h2⟩
    exact ⟨c, List.mem_filter.mpr ⟨List.mem_range.mpr h1, (isR_iff (lt512 h9 h1)).mp h2⟩, rfl⟩
theorem tab_ok {n : Nat} {B : List Nat} (h9 : n ≤ 9) (hB : B.length ≤ 512) : TabOk n (sortLots (B.map bl)) := ⟨h9, by rw [length_sortLots, List.length_map]; exact hB, fun l hl => by
  obtain ⟨c, _, rfl⟩ := List.mem_map.mp (mem_sortLots.mp hl)
  exact bl_len c⟩
/-! the world of lots -/
def bitsD : PyData := .list ((List.range 10).map fun i => intN (2 ^ i))
def sizesD : PyData := .list ((List.range 512).map fun c => intN (bl c).length)
def lotsD : PyData := .list ((List.range 512).map fun c => lotD (bl c))
def worldD : PyData := .list [bitsD, sizesD, lotsD]
theorem subs9 : subs (List.range 9) = (List.range 512).map bl := by decide +kernel
theorem atI_nat {α : Type} (xs : List α) (c : Nat) : L2.atI xs (c : Int) = xs[c]? := by
  unfold L2.atI L2.ixN
  by_cases h : c < xs.length
  · have h1 : (0 : Int) ≤ (c : Int) := by omega
    have h2 : (c : Int) < (xs.length : Int) := by omega
    simp [h1, h2]
  · have h1 : (0 : Int) ≤ (c : Int) := by omega
    have h2 : ¬ (c : Int) < (xs.length : Int) := by omega
    simp [h1, h2]
    omega
theorem at_map {α : Type} (f : Nat → α) {c N : Nat} (h : c < N) : L2.atI ((List.range N).map f) (c : Int) = some (f c) := by
  rw [atI_nat, List.getElem?_map, List.getElem?_range h]
  rfl
def sp_world : VSp := fun ds β P => ds = [] ∧ P worldD β
end PL
namespace PL
open PySem PySem.Spec L2 VS
open PyProof.Rows hiding St

structure CdOk (n : Nat) (B : List Nat) : Prop where
  n9 : n ≤ 9
  lt : ∀ b ∈ B, b < 2 ^ n
  few : B.length ≤ 512
theorem i63 {m : Nat} (h : m ≤ 512) : -(2 ^ 63) ≤ (m : Int) ∧ (m : Int) < 2 ^ 63 := by omega
theorem pow9 {n : Nat} (h : n ≤ 9) : 2 ^ n ≤ 512 := show 2 ^ n ≤ 2 ^ 9 from Nat.pow_le_pow_right (by decide) h
theorem ix_world0 : L2.atI [bitsD, sizesD, lotsD] 0 = some bitsD := rfl
theorem ix_world1 : L2.atI [bitsD, sizesD, lotsD] 1 = some sizesD := rfl
theorem ix_world2 : L2.atI [bitsD, sizesD, lotsD] 2 = some lotsD := rfl
/-! the law's table -/
def sp_table : VSp := fun ds β P => ∃ (n : Nat) (B : List Nat), ds = [worldD, intN n, .list (B.map intN)] ∧ CdOk n B ∧ P (tabD n (sortLots (B.map bl))) β
/-! flags -/
def flg (N : Nat) (f : Nat → Bool) : PyData := .list ((List.range N).map fun c => PyData.bool (f c))
theorem flg_set {N c : Nat} (f : Nat → Bool) (h : c < N) : ((List.range N).map fun c => PyData.bool (f c)).set c (.bool true) = (List.range N).map fun d => PyData.bool (f d || d == c) := by
  apply List.ext_getElem?
  intro j
  rw [List.getElem?_set, List.getElem?_map, List.getElem?_map, List.length_map, List.length_range]
  by_cases e : c = j
  · subst e
    rw [if_pos rfl, if_pos h, List.getElem?_range h]
    simp
  · rw [if_neg e]
    by_cases hj : j < N
    · rw [List.getElem?_range hj]
      have : (j == c) = false := by simpa using fun z => e z.symm
      simp [this]
    · rw [List.getElem?_eq_none (by simpa using hj)]
      rfl
theorem flg_rep (N : Nat) : (List.replicate N [PyData.bool false]).flatten = (List.range N).map fun _ => PyData.bool false := by
  apply List.ext_getElem
  · simp
  · intro i h1 h2
    simp
theorem ixN_nat {n c : Nat} (h : c < n) : L2.ixN n (c : Int) = some c := by
  unfold L2.ixN
  rw [if_pos (by omega), if_pos (by omega), Int.toNat_natCast]
theorem mem_bl_of {n c x : Nat} (hc : c < 2 ^ n) (h : x ∈ bl c) : x < n ∧ 2 ^ x ≤ c := by
  obtain ⟨h1, h2⟩ := mem_bl.mp h
  refine ⟨Classical.byContradiction fun z => ?_, Classical.byContradiction fun z => ?_⟩
  · rw [bit_high hc (by omega)] at h2; cases h2
  · rw [Nat.testBit_lt_two_pow (by omega)] at h2; cases h2
def sp_lfree : VSp := fun ds β P => ∃ (n : Nat) (B : List Nat), ds = [worldD, intN n, .list (B.map intN)] ∧ CdOk n B ∧ P (flg (2 ^ n) (frB B)) β
theorem free_done {n : Nat} {B : List Nat} (ok : CdOk n B) {f : Nat → Bool} (hB : ∀ b ∈ B, f b = true) (hs : ∀ c < 2 ^ n, f c = true → frB B c = true) (hd : ∀ d < 2 ^ n, f d = true → ∀ x ∈ bl d, f (d - 2 ^ x) = true) : ∀ c < 2 ^ n, f c = frB B c := by
  have comp : ∀ (k c b : Nat), b - c ≤ k → b ∈ B → c < 2 ^ n → sub c b → f c = true := by
    intro k
    induction k with
    | zero =>
      intro c b hk hb hc hs
      have : c = b := by
        have h1 : c ≤ b := by
          have : c &&& b ≤ b := Nat.and_le_right
          rw [show c &&& b = c from hs] at this
          exact this
        omega
      exact this ▸ hB b hb
    | succ k ih =>
      intro c b hk hb hc hs
      by_cases e : c = b
      · exact e ▸ hB b hb
      · have hb9 := lt512 ok.n9 (ok.lt b hb)
        have hc9 := lt512 ok.n9 hc
        obtain ⟨x, hx1, hx2⟩ : ∃ x, b.testBit x = true ∧ c.testBit x = false := by
          refine Classical.byContradiction fun z => e ?_
          apply Nat.eq_of_testBit_eq
          intro i
          cases hci : c.testBit i with
          | true => exact (sub_iff.mp hs i hci).symm
          | false =>
            cases hbi : b.testBit i with
            | false => rfl
            | true => exact absurd ⟨i, hbi, hci⟩ z
        have hxn : x < n := Classical.byContradiction fun z => by
          rw [bit_high (ok.lt b hb) (by omega)] at hx1
          cases hx1
        have hx9 : x < 9 := by have := ok.n9; omega
        have e1 := plus_all x hx9 c hc9 hx2
        have sb : sub (c + 2 ^ x) b := by
          rw [sub_iff]
          intro i hi
          rw [e1, Nat.testBit_or, Nat.testBit_two_pow] at hi
          rcases Bool.or_eq_true_iff.mp hi with h | h
          · exact sub_iff.mp hs i h
          · have := of_decide_eq_true h
            exact this ▸ hx1
        have le : c + 2 ^ x ≤ b := by
          have : (c + 2 ^ x) &&& b ≤ b := Nat.and_le_right
          rw [show (c + 2 ^ x) &&& b = c + 2 ^ x from sb] at this
          exact this
        have lt := ok.lt b hb
        have px : 0 < 2 ^ x := Nat.pow_pos (by decide)
        have fd := ih (c + 2 ^ x) b (by omega) hb (by omega) sb
        have := hd (c + 2 ^ x) (by omega) fd x (mem_bl.mpr ⟨hx9, by rw [e1, Nat.testBit_or, Nat.testBit_two_pow]; simp⟩)
        rwa [Nat.add_sub_cancel] at this
  intro c hc
  cases h : frB B c with
  | true =>
    unfold frB at h
    rw [List.any_eq_true] at h
    obtain ⟨b, hb, q⟩ := h
    exact comp _ c b (Nat.le_refl _) hb hc (beq_iff_eq.mp q)
  | false =>
    cases hf : f c with
    | false => rfl
    | true =>
      rw [hs c hc hf] at h
      cases h
theorem frB_minus {n : Nat} {B : List Nat} (ok : CdOk n B) {c x : Nat} (hc : c < 2 ^ n) (hx : x ∈ bl c) (h : frB B c = true) : frB B (c - 2 ^ x) = true := by
  unfold frB at h ⊢
  rw [List.any_eq_true] at h ⊢
  obtain ⟨b, hb, q⟩ := h
  have s : sub c b := beq_iff_eq.mp q
  obtain ⟨h1, h2⟩ := mem_bl.mp hx
  refine ⟨b, hb, beq_iff_eq.mpr (show sub (c - 2 ^ x) b from sub_iff.mpr fun i hi => ?_)⟩
  rw [minus_bit h1 (lt512 ok.n9 hc) h2, Bool.and_eq_true] at hi
  exact sub_iff.mp s i hi.1
end PL
namespace PL
open PySem PySem.Spec L2 VS
open PyProof.Rows hiding St

theorem enum_map (N : Nat) (g : Nat → PyData) : enumD 0 ((List.range N).map g) = (List.range N).map fun c => PyData.tuple [intN c, g c] := by
  apply List.ext_getElem?
  intro i
  by_cases h : i < N
  · have e1 : ((List.range N).map g)[i]? = some (g i) := by rw [List.getElem?_map, List.getElem?_range h]; rfl
    have e2 := enumD_at ((List.range N).map g) 0 i (g i) e1
    rw [Nat.zero_add] at e2
    rw [e2, List.getElem?_map, List.getElem?_range h]
    rfl
  · rw [List.getElem?_eq_none (by rw [enumD_length, List.length_map, List.length_range]; omega), List.getElem?_eq_none (by rw [List.length_map, List.length_range]; omega)]
def sp_lrounds : VSp := fun ds β P => ∃ (n : Nat) (B : List Nat), ds = [worldD, flg (2 ^ n) (frB B)] ∧ CdOk n B ∧ P (.list ((RC n B).map intN)) β
theorem bitNot2 (x : Int) : Builtin.bitNot (Builtin.bitNot x) = x := by
  unfold Builtin.bitNot
  omega
theorem bitAnd_nat (a b : Nat) : Builtin.bitAnd (a : Int) (b : Int) = ((a &&& b : Nat) : Int) := by
  unfold Builtin.bitAnd
  rw [decide_eq_true (by omega : (0 : Int) ≤ (a : Int)), decide_eq_true (by omega : (0 : Int) ≤ (b : Int))]
  rfl
theorem bitOr_nat (a b : Nat) : Builtin.bitOr (a : Int) (b : Int) = ((a ||| b : Nat) : Int) := by
  unfold Builtin.bitOr Builtin.bitAnd
  rw [decide_eq_false (by unfold Builtin.bitNot; omega : ¬ (0 : Int) ≤ Builtin.bitNot (a : Int)), decide_eq_false (by unfold Builtin.bitNot; omega : ¬ (0 : Int) ≤ Builtin.bitNot (b : Int))]
  show Builtin.bitNot (Builtin.bitNot (((Builtin.bitNot (Builtin.bitNot (a : Int))).toNat ||| (Builtin.bitNot (Builtin.bitNot (b : Int))).toNat : Nat) : Int)) = _
  rw [bitNot2, bitNot2, bitNot2]
  rfl
/-! tied things -/
def TT (L : List Nat) (x : Nat) : Nat := (L.filter fun c => c.testBit x).foldl (· ||| ·) (2 ^ x)
theorem TT_snoc (L : List Nat) (c x : Nat) : TT (L ++ [c]) x = if c.testBit x = true then TT L x ||| c else TT L x := by
  unfold TT
  rw [List.filter_append, List.foldl_append, List.filter_cons]
  by_cases h : c.testBit x = true
  · rw [if_pos h, if_pos h]
    rfl
  · rw [if_neg h, if_neg h]
    rfl
theorem TT_bit (x y : Nat) : ∀ (L : List Nat) (a : Nat), ((L.filter fun c => c.testBit x).foldl (· ||| ·) a).testBit y = (a.testBit y || L.any fun c => c.testBit x && c.testBit y)
  | [], a => by simp
  | c :: L, a => by
    rw [List.filter_cons]
    by_cases h : c.testBit x = true
    · rw [if_pos h, List.foldl_cons, TT_bit x y L, Nat.testBit_or, List.any_cons, h, Bool.true_and, Bool.or_assoc]
    · rw [if_neg h, TT_bit x y L, List.any_cons]
      have : c.testBit x = false := by simpa using h
      rw [this, Bool.false_and, Bool.false_or]
theorem TT_lt {n x : Nat} (hx : x < n) {L : List Nat} (hL : ∀ c ∈ L, c < 2 ^ n) : TT L x < 2 ^ n := by
  unfold TT
  suffices h : ∀ (L : List Nat) (a : Nat), a < 2 ^ n → (∀ c ∈ L, c < 2 ^ n) → L.foldl (· ||| ·) a < 2 ^ n from
    h _ _ (Nat.pow_lt_pow_right (by decide) hx) fun c hc => hL c (List.mem_filter.mp hc).1
  intro L
  induction L with
  | nil => intro a ha _; exact ha
  | cons c L ih =>
    intro a ha h
    exact ih _ (Nat.or_lt_two_pow ha (h c (List.mem_cons_self ..))) fun d hd => h d (List.mem_cons_of_mem _ hd)
theorem RC_lt {n : Nat} {B : List Nat} : ∀ c ∈ RC n B, c < 2 ^ n := fun c hc => List.mem_range.mp (List.mem_filter.mp hc).1
theorem part_TT {n : Nat} {B : List Nat} (h9 : n ≤ 9) {x : Nat} (hx : x < n) : partOf ((RC n B).map bl) x = bl (TT (RC n B) x) := by
  unfold partOf bl
  refine List.filter_congr fun y hy => ?_
  have y9 := List.mem_range.mp hy
  unfold TT
  rw [TT_bit, Nat.testBit_two_pow, List.any_map]
  have e1 : decide (y = x) = decide (x = y) := by by_cases h : x = y <;> simp [h, eq_comm]
  rw [e1]
  congr 1
  congr 1
  funext c
  show (decide (x ∈ bl c) && decide (y ∈ bl c)) = _
  have m : ∀ z, z < 9 → decide (z ∈ bl c) = c.testBit z := fun z hz => by
    rw [Bool.eq_iff_iff, decide_eq_true_eq, mem_bl]
    exact ⟨fun h => h.2, fun h => ⟨hz, h⟩⟩
  rw [m x (by omega), m y y9]
theorem fn_set {N x : Nat} (f : Nat → Nat) (v : Nat) (h : x < N) : ((List.range N).map fun c => intN (f c)).set x (intN v) = (List.range N).map fun d => intN (if d = x then v else f d) := by
  apply List.ext_getElem?
  intro j
  rw [List.getElem?_set, List.getElem?_map, List.getElem?_map, List.length_map, List.length_range]
  by_cases e : x = j
  · subst e
    rw [if_pos rfl, if_pos h, List.getElem?_range h]
    simp
  · rw [if_neg e]
    by_cases hj : j < N
    · rw [List.getElem?_range hj]
      have : ¬ j = x := fun z => e z.symm
      simp [this]
    · rw [List.getElem?_eq_none (by simpa using hj)]
      rfl
theorem take_bits {n : Nat} (h : n ≤ 10) : VS.cutD ((List.range 10).map fun i => intN (2 ^ i)) none (some (n : Int)) = (List.range n).map fun i => intN (2 ^ i) := by
  rw [cut_take, ← List.map_take, List.take_range, Nat.min_eq_left h]
def tiedD (n : Nat) (B : List Nat) : PyData := .list ((List.range n).map fun x => intN (TT (RC n B) x))
def sp_ltied : VSp := fun ds β P => ∃ (n : Nat) (B : List Nat), ds = [worldD, intN n, .list ((RC n B).map intN)] ∧ CdOk n B ∧ P (tiedD n B) β
theorem bl_nodup (c : Nat) : (bl c).Nodup := List.Pairwise.filter _ List.nodup_range
/-! parts -/
theorem dd_snoc {κ : Type} [DecidableEq κ] (l : List κ) (x : κ) : dd (l ++ [x]) = if x ∈ dd l then dd l else dd l ++ [x] := by
  unfold dd
  rw [List.foldl_append]
  rfl
def sp_lparts : VSp := fun ds β P => ∃ (T : List Nat), ds = [worldD, .list (T.map intN)] ∧ (∀ t ∈ T, t < 512) ∧ T.length ≤ 9 ∧ P (.tuple ((sortLots (dd (T.map bl))).map lotD)) β
theorem any_lots (L : List (List Nat)) (l : List Nat) : ((L.map lotD).any fun z => PyData.eqv z (lotD l)) = decide (l ∈ L) := by
  rw [Bool.eq_iff_iff, List.any_eq_true, decide_eq_true_eq]
  constructor
  · rintro ⟨d, hd, q⟩
    obtain ⟨m, hm, rfl⟩ := List.mem_map.mp hd
    rw [eqv_lot] at q
    exact of_decide_eq_true q ▸ hm
  · intro h
    exact ⟨lotD l, List.mem_map.mpr ⟨l, h, rfl⟩, by rw [eqv_lot]; simp⟩
end PL
/-! free lots on codes: sizes, and what lots that exchange are; n is at most 9 -/
open PySem L2
namespace PL

def sz (c : Nat) : Nat := (bl c).length
theorem sz_put_all : ∀ x < 9, ∀ c < 512, c.testBit x = false → sz (c ||| 2 ^ x) = sz c + 1 ∧ c ||| 2 ^ x < 512 := by decide +kernel
theorem sz_put {c x : Nat} (hx : x < 9) (hc : c < 512) (h : c.testBit x = false) : sz (c ||| 2 ^ x) = sz c + 1 := (sz_put_all x hx c hc h).1
theorem put_lt {n c x : Nat} (hx : x < n) (hc : c < 2 ^ n) : c ||| 2 ^ x < 2 ^ n := Nat.or_lt_two_pow hc (Nat.pow_lt_pow_right (by decide) hx)
theorem put_bit (c x y : Nat) : (c ||| 2 ^ x).testBit y = (c.testBit y || decide (x = y)) := by
  rw [Nat.testBit_or, Nat.testBit_two_pow]

theorem sub_rfl (c : Nat) : sub c c := Nat.and_self c
theorem sub_trans {a b c : Nat} (h : sub a b) (k : sub b c) : sub a c := sub_iff.mpr fun i hi => sub_iff.mp k i (sub_iff.mp h i hi)
theorem sub_put (c x : Nat) : sub c (c ||| 2 ^ x) := sub_iff.mpr fun i hi => by rw [put_bit, hi]; rfl
theorem put_sub {c d x : Nat} (h : sub c d) (hx : d.testBit x = true) : sub (c ||| 2 ^ x) d := sub_iff.mpr fun i hi => by
  rw [put_bit] at hi
  rcases Bool.or_eq_true_iff.mp hi with hi | hi
  · exact sub_iff.mp h i hi
  · rw [← of_decide_eq_true hi]; exact hx
theorem put_mono {c d : Nat} (x : Nat) (h : sub c d) : sub (c ||| 2 ^ x) (d ||| 2 ^ x) := sub_iff.mpr fun i hi => by
  rw [put_bit] at hi ⊢
  rcases Bool.or_eq_true_iff.mp hi with hi | hi
  · rw [sub_iff.mp h i hi]; rfl
  · rw [hi, Bool.or_true]
theorem put_comm (c x y : Nat) : (c ||| 2 ^ x) ||| 2 ^ y = (c ||| 2 ^ y) ||| 2 ^ x := by
  rw [Nat.or_assoc, Nat.or_comm (2 ^ x), Nat.or_assoc]

/-- the free lots among the lots of n things: lots within are free, and a lesser one grows by a thing of a greater one -/
structure Mat (n : Nat) (I : Nat → Prop) : Prop where
  lt : ∀ c, I c → c < 2 ^ n
  nil : I 0
  down : ∀ c d, I c → sub d c → I d
  aug : ∀ c d, I c → I d → sz c < sz d → ∃ x, x < n ∧ d.testBit x = true ∧ c.testBit x = false ∧ I (c ||| 2 ^ x)

theorem sz_zero : sz 0 = 0 := by decide +kernel
theorem sz_mono_all {c d : Nat} (h : sub c d) : sz c ≤ sz d := by
  have : (bl c).Sublist (bl d) := by
    have e : bl c = (bl d).filter fun i => c.testBit i := by
      unfold bl
      rw [List.filter_filter]
      refine List.filter_congr fun i hi => ?_
      cases hc : c.testBit i
      · rfl
      · rw [sub_iff.mp h i hc]; rfl
    rw [e]; exact List.filter_sublist
  exact this.length_le

/-- a thing put at a lot: free with it is what is free with some thing of the lot -/
def putI (z lot : Nat) (I : Nat → Prop) (c : Nat) : Prop :=
  I c ∨ ∃ d b, I d ∧ d.testBit b = false ∧ lot.testBit b = true ∧ b < z ∧ I (d ||| 2 ^ b) ∧ c = d ||| 2 ^ z

end PL
/-! a thing put at a lot -/
open PySem L2
namespace PL

theorem no_bit {n c : Nat} (h : c < 2 ^ n) : c.testBit n = false := Nat.testBit_lt_two_pow h
theorem lt_of_bit {n c i : Nat} (h : c < 2 ^ n) (hi : c.testBit i = true) : i < n := by
  by_cases hn : i < n
  · exact hn
  · rw [bit_high h (by omega)] at hi; cases hi
theorem or_false_l {a b : Bool} (h : (a || b) = false) : a = false := by cases a <;> simp_all
theorem or_false_r {a b : Bool} (h : (a || b) = false) : b = false := by cases a <;> simp_all

theorem putI_mat {n lot : Nat} (h9 : n < 9) {I : Nat → Prop} (m : Mat n I) : Mat (n + 1) (putI n lot I) := by
  have h512 : ∀ c, I c → c < 512 := fun c hc => lt512 (by omega) (m.lt c hc)
  have pn : 2 ^ n < 2 ^ (n + 1) := Nat.pow_lt_pow_right (by decide) (by omega)
  have szz : ∀ c, I c → sz (c ||| 2 ^ n) = sz c + 1 := fun c hc => sz_put h9 (h512 c hc) (no_bit (m.lt c hc))
  have szb : ∀ c b, I c → c.testBit b = false → b < n → sz (c ||| 2 ^ b) = sz c + 1 := fun c b hc hb hn => sz_put (by omega) (h512 c hc) hb
  refine ⟨?_, .inl m.nil, ?_, ?_⟩
  · rintro c (hc | ⟨d, b, hd, hb, hl, hz, hdb, rfl⟩)
    · exact Nat.lt_trans (m.lt c hc) pn
    · exact Nat.or_lt_two_pow (Nat.lt_trans (m.lt d hd) pn) pn
  · rintro c e (hc | ⟨d, b, hd, hb, hl, hz, hdb, rfl⟩) hs
    · exact .inl (m.down c e hc hs)
    · have key : ∀ i, e.testBit i = true → d.testBit i = true ∨ i = n := fun i hi => by
        have := sub_iff.mp hs i hi
        rw [put_bit] at this
        rcases Bool.or_eq_true_iff.mp this with h | h
        · exact .inl h
        · exact .inr (of_decide_eq_true h).symm
      cases he : e.testBit n
      · refine .inl (m.down d e hd (sub_iff.mpr fun i hi => ?_))
        rcases key i hi with h | h
        · exact h
        · rw [h, he] at hi; cases hi
      · refine .inr ⟨d &&& e, b, m.down d _ hd (sub_iff.mpr fun i hi => ?_), ?_, hl, hz, m.down _ _ hdb (put_mono b (sub_iff.mpr fun i hi => ?_)), ?_⟩
        · rw [Nat.testBit_and] at hi; exact (Bool.and_eq_true_iff.mp hi).1
        · rw [Nat.testBit_and, hb]; rfl
        · rw [Nat.testBit_and] at hi; exact (Bool.and_eq_true_iff.mp hi).1
        · refine Nat.eq_of_testBit_eq fun i => ?_
          rw [put_bit, Nat.testBit_and]
          by_cases hin : n = i
          · rw [← hin, he, decide_eq_true rfl, Bool.or_true]
          · rw [decide_eq_false hin, Bool.or_false]
            cases hi : e.testBit i
            · rw [Bool.and_false]
            · rcases key i hi with h | h
              · rw [h]; rfl
              · exact absurd h.symm hin
  · rintro c d (hc | ⟨c, a, hc, ha, hal, han, hca, rfl⟩) (hd | ⟨d, b, hd, hb, hbl, hbn, hdb, rfl⟩) hs
    · obtain ⟨x, hx, h1, h2, h3⟩ := m.aug c d hc hd hs
      exact ⟨x, by omega, h1, h2, .inl h3⟩
    · rw [szz d hd] at hs
      obtain ⟨x, hx, h1, h2, h3⟩ := m.aug c (d ||| 2 ^ b) hc hdb (by rw [szb d b hd hb hbn]; exact hs)
      rw [put_bit] at h1
      rcases Bool.or_eq_true_iff.mp h1 with h1 | h1
      · exact ⟨x, by omega, by rw [put_bit, h1]; rfl, h2, .inl h3⟩
      · have e := of_decide_eq_true h1
        subst e
        exact ⟨n, by omega, by rw [put_bit, decide_eq_true rfl, Bool.or_true], no_bit (m.lt c hc), .inr ⟨c, b, hc, h2, hbl, hbn, h3, rfl⟩⟩
    · rw [szz c hc] at hs
      obtain ⟨x, hx, h1, h2, h3⟩ := m.aug (c ||| 2 ^ a) d hca hd (by rw [szb c a hc ha han]; exact hs)
      rw [put_bit] at h2
      have hxc := or_false_l h2
      have hxa := of_decide_eq_false (or_false_r h2)
      refine ⟨x, by omega, h1, by rw [put_bit, hxc, decide_eq_false (by omega)]; rfl, .inr ⟨c ||| 2 ^ x, a, ?_, ?_, hal, han, ?_, put_comm _ _ _⟩⟩
      · exact m.down _ _ h3 (put_mono x (sub_put c a))
      · rw [put_bit, ha, decide_eq_false (by omega)]; rfl
      · rw [put_comm]; exact h3
    · rw [szz c hc, szz d hd] at hs
      obtain ⟨x, hx, h1, h2, h3⟩ := m.aug (c ||| 2 ^ a) (d ||| 2 ^ b) hca hdb (by rw [szb c a hc ha han, szb d b hd hb hbn]; omega)
      rw [put_bit] at h2
      have hxc := or_false_l h2
      have hxa := of_decide_eq_false (or_false_r h2)
      cases hxd : d.testBit x
      · rw [put_bit, hxd, Bool.false_or] at h1
        have e := of_decide_eq_true h1
        subst e
        obtain ⟨e, he, e1, e2, e3⟩ := m.aug c d hc hd (by omega)
        have s2 : sz ((c ||| 2 ^ a) ||| 2 ^ b) = sz c + 2 := by
          rw [szb (c ||| 2 ^ a) b hca (by rw [put_bit, hxc, decide_eq_false hxa]; rfl) hbn, szb c a hc ha han]
        obtain ⟨y, hy, y1, y2, y3⟩ := m.aug (c ||| 2 ^ e) ((c ||| 2 ^ a) ||| 2 ^ b) e3 h3 (by rw [s2, szb c e hc e2 he]; omega)
        have yc : c.testBit y = false := or_false_l (by rw [put_bit] at y2; exact y2)
        have yl : lot.testBit y = true := by
          rw [put_bit, put_bit, yc, Bool.false_or] at y1
          rcases Bool.or_eq_true_iff.mp y1 with h | h
          · rw [← of_decide_eq_true h]; exact hal
          · rw [← of_decide_eq_true h]; exact hbl
        exact ⟨e, by omega, by rw [put_bit, e1]; rfl, by rw [put_bit, e2, decide_eq_false (by omega)]; rfl, .inr ⟨c ||| 2 ^ e, y, e3, y2, yl, hy, y3, put_comm _ _ _⟩⟩
      · refine ⟨x, by omega, by rw [put_bit, hxd]; rfl, by rw [put_bit, hxc, decide_eq_false (by omega)]; rfl, .inr ⟨c ||| 2 ^ x, a, ?_, ?_, hal, han, ?_, put_comm _ _ _⟩⟩
        · exact m.down _ _ h3 (put_mono x (sub_put c a))
        · rw [put_bit, ha, decide_eq_false (by omega)]; rfl
        · rw [put_comm]; exact h3

end PL
/-! a thing put at a lot of the table of others; a loose thing, a sure one -/
open PySem L2
namespace PL

/-- a part of a lot with one thing more -/
theorem part_of_put {d e x : Nat} (hx : d.testBit x = false) (hs : sub e (d ||| 2 ^ x)) : sub e d ∨ (sub (d &&& e) d ∧ (d &&& e).testBit x = false ∧ e = (d &&& e) ||| 2 ^ x) := by
  have key : ∀ i, e.testBit i = true → d.testBit i = true ∨ i = x := fun i hi => by
    have := sub_iff.mp hs i hi
    rw [put_bit] at this
    rcases Bool.or_eq_true_iff.mp this with h | h
    · exact .inl h
    · exact .inr (of_decide_eq_true h).symm
  cases he : e.testBit x
  · refine .inl (sub_iff.mpr fun i hi => ?_)
    rcases key i hi with h | h
    · exact h
    · rw [h, he] at hi; cases hi
  · refine .inr ⟨sub_iff.mpr fun i hi => ?_, by rw [Nat.testBit_and, hx]; rfl, ?_⟩
    · rw [Nat.testBit_and] at hi; exact (Bool.and_eq_true_iff.mp hi).1
    · refine Nat.eq_of_testBit_eq fun i => ?_
      rw [put_bit, Nat.testBit_and]
      by_cases hin : x = i
      · rw [← hin, he, decide_eq_true rfl, Bool.or_true]
      · rw [decide_eq_false hin, Bool.or_false]
        cases hi : e.testBit i
        · rw [Bool.and_false]
        · rcases key i hi with h | h
          · rw [h]; rfl
          · exact absurd h.symm hin

def coI (z lot : Nat) (I : Nat → Prop) (c : Nat) : Prop :=
  I c ∨ ∃ d x, I d ∧ d.testBit x = false ∧ x ≤ z ∧ (x = z ∨ lot.testBit x = true) ∧ c = d ||| 2 ^ x

theorem coI_mat {n lot : Nat} (h9 : n < 9) {I : Nat → Prop} (m : Mat n I) : Mat (n + 1) (coI n lot I) := by
  have h512 : ∀ c, I c → c < 512 := fun c hc => lt512 (by omega) (m.lt c hc)
  have pn : 2 ^ n < 2 ^ (n + 1) := Nat.pow_lt_pow_right (by decide) (by omega)
  have szx : ∀ c b, I c → c.testBit b = false → b ≤ n → sz (c ||| 2 ^ b) = sz c + 1 := fun c b hc hb hn => sz_put (by omega) (h512 c hc) hb
  have step : ∀ c x e, I c → c.testBit x = false → x ≤ n → (x = n ∨ lot.testBit x = true) → c.testBit e = false → I (c ||| 2 ^ e) → e ≠ x → coI n lot I ((c ||| 2 ^ x) ||| 2 ^ e) := fun c x e hc hx hn hl he hce hne => .inr ⟨c ||| 2 ^ e, x, hce, by rw [put_bit, hx, decide_eq_false hne]; rfl, hn, hl, put_comm _ _ _⟩
  have plain : ∀ c D, I c → coI n lot I D → sz c < sz D → ∃ x, x < n + 1 ∧ D.testBit x = true ∧ c.testBit x = false ∧ coI n lot I (c ||| 2 ^ x) := by
    rintro c D hc (hd | ⟨d, y, hd, hy, hyn, hyl, rfl⟩) hs
    · obtain ⟨x, hx, h1, h2, h3⟩ := m.aug c D hc hd hs
      exact ⟨x, by omega, h1, h2, .inl h3⟩
    · rw [szx d y hd hy hyn] at hs
      cases hcy : c.testBit y
      · exact ⟨y, by omega, by rw [put_bit, decide_eq_true rfl, Bool.or_true], hcy, .inr ⟨c, y, hc, hcy, hyn, hyl, rfl⟩⟩
      · have hyn' := lt_of_bit (m.lt c hc) hcy
        have bit : ∀ i, (c - 2 ^ y).testBit i = (c.testBit i && decide (i ≠ y)) := minus_bit (by omega) (h512 c hc) hcy
        have e0 : (c - 2 ^ y) ||| 2 ^ y = c := (minus_all y (by omega) c (h512 c hc) hcy).2.1
        have hy0 : (c - 2 ^ y).testBit y = false := by rw [bit]; simp
        have hc0 : I (c - 2 ^ y) := m.down c _ hc (sub_iff.mpr fun i hi => by rw [bit] at hi; exact (Bool.and_eq_true_iff.mp hi).1)
        have s0 : sz c = sz (c - 2 ^ y) + 1 := by
          have := szx (c - 2 ^ y) y hc0 hy0 hyn
          rw [e0] at this; exact this
        obtain ⟨e, he, e1, e2, e3⟩ := m.aug (c - 2 ^ y) d hc0 hd (by omega)
        have hey : e ≠ y := fun h => by rw [h, hy] at e1; cases e1
        refine ⟨e, by omega, by rw [put_bit, e1]; rfl, ?_, ?_⟩
        · rw [bit] at e2
          cases h : c.testBit e
          · rfl
          · rw [h, decide_eq_true hey] at e2; cases e2
        · have := step (c - 2 ^ y) y e hc0 hy0 hyn hyl e2 e3 hey
          rw [e0] at this; exact this
  refine ⟨?_, .inl m.nil, ?_, ?_⟩
  · rintro c (hc | ⟨d, x, hd, hx, hxn, hl, rfl⟩)
    · exact Nat.lt_trans (m.lt c hc) pn
    · exact put_lt (by omega) (Nat.lt_trans (m.lt d hd) pn)
  · rintro c e (hc | ⟨d, x, hd, hx, hxn, hl, rfl⟩) hs
    · exact .inl (m.down c e hc hs)
    · rcases part_of_put hx hs with h | ⟨h1, h2, h3⟩
      · exact .inl (m.down d e hd h)
      · exact .inr ⟨d &&& e, x, m.down d _ hd h1, h2, hxn, hl, h3⟩
  · rintro C D (hc | ⟨c, x, hc, hx, hxn, hxl, rfl⟩) hD hs
    · exact plain C D hc hD hs
    · have : ∃ d, I d ∧ sub d D ∧ sz c < sz d := by
        rw [szx c x hc hx hxn] at hs
        rcases hD with hd | ⟨d, y, hd, hy, hyn, hyl, rfl⟩
        · exact ⟨D, hd, sub_rfl D, by omega⟩
        · exact ⟨d, hd, sub_put d y, by rw [szx d y hd hy hyn] at hs; omega⟩
      obtain ⟨d, hd, hdD, hsd⟩ := this
      obtain ⟨e, he, e1, e2, e3⟩ := m.aug c d hc hd hsd
      by_cases hex : e = x
      · subst hex; exact plain _ D e3 hD hs
      · exact ⟨e, by omega, sub_iff.mp hdD e e1, by rw [put_bit, e2, decide_eq_false (Ne.symm hex)]; rfl, step c x e hc hx hxn hxl e2 e3 hex⟩

/-- one more thing, loose -/
theorem loose_mat {n : Nat} {I : Nat → Prop} (m : Mat n I) : Mat (n + 1) I :=
  ⟨fun c hc => Nat.lt_trans (m.lt c hc) (Nat.pow_lt_pow_right (by decide) (by omega)), m.nil, m.down, fun c d hc hd hs => by
    obtain ⟨x, hx, h⟩ := m.aug c d hc hd hs
    exact ⟨x, by omega, h⟩⟩
/-- one more thing, sure: it is put at no thing of the table of others -/
theorem sure_mat {n : Nat} (h9 : n < 9) {I : Nat → Prop} (m : Mat n I) : Mat (n + 1) (coI n 0 I) := coI_mat h9 m

end PL
/-! lots of one size that lie in none of some blocks -/
open PySem L2
namespace PL

structure Blocks (n r : Nat) (Bs : List Nat) : Prop where
  rn : r ≤ n
  lt : ∀ b ∈ Bs, b < 2 ^ n
  big : ∀ b ∈ Bs, 0 < r ∧ sz b < n
  far : ∀ b ∈ Bs, ∀ e ∈ Bs, b ≠ e → sz (b &&& e) < r - 1

/-- within so few things as r, and of r things in no block -/
def pavI (n r : Nat) (Bs : List Nat) (c : Nat) : Prop := c < 2 ^ n ∧ sz c ≤ r ∧ (sz c = r → ∀ b ∈ Bs, ¬ sub c b)

theorem sz_lt_of_ex {c d : Nat} (hd : d < 512) (hs : sub c d) {x : Nat} (hx : d.testBit x = true) (hc : c.testBit x = false) : sz c < sz d := by
  have h9 : x < 9 := lt_of_bit (n := 9) hd hx
  have hc5 : c < 512 := by
    rw [← hs]; exact Nat.lt_of_le_of_lt Nat.and_le_right hd
  have := sz_mono_all (put_sub hs hx)
  rw [sz_put h9 hc5 hc] at this
  omega

theorem ex_of_sz {c d : Nat} (h : sz c < sz d) : ∃ x, d.testBit x = true ∧ c.testBit x = false := by
  by_cases k : ∀ i, d.testBit i = true → c.testBit i = true
  · have := sz_mono_all (sub_iff.mpr k); omega
  · simp only [Classical.not_forall] at k
    obtain ⟨x, hx, hc⟩ := k
    exact ⟨x, hx, by cases h : c.testBit x <;> simp_all⟩

theorem sz_all_pow : ∀ n ≤ 9, sz (2 ^ n - 1) = n := by decide +kernel

/-- two blocks round a lot of r - 1 things are one -/
theorem Blocks.one {n r : Nat} {Bs : List Nat} (B : Blocks n r Bs) {c b e : Nat} (hc : sz c = r - 1) (hb : b ∈ Bs) (he : e ∈ Bs) (sb : sub c b) (se : sub c e) : b = e := by
  by_cases h : b = e
  · exact h
  · have := B.far b hb e he h
    have := sz_mono_all (c := c) (d := b &&& e) (sub_iff.mpr fun i hi => by rw [Nat.testBit_and, sub_iff.mp sb i hi, sub_iff.mp se i hi]; rfl)
    omega

theorem pav_mat {n r : Nat} {Bs : List Nat} (h9 : n ≤ 9) (B : Blocks n r Bs) : Mat n (pavI n r Bs) := by
  refine ⟨fun c h => h.1, ⟨Nat.two_pow_pos n, by rw [sz_zero]; omega, fun h b hb => ?_⟩, ?_, ?_⟩
  · have := (B.big b hb).1
    rw [sz_zero] at h; omega
  · rintro c d ⟨h1, h2, h3⟩ hs
    have hd : d < 2 ^ n := by rw [← hs]; exact Nat.lt_of_le_of_lt Nat.and_le_right h1
    have hle := sz_mono_all hs
    refine ⟨hd, by omega, fun e b hb hdb => ?_⟩
    have ec : sz c = r := by omega
    by_cases hcd : ∀ i, c.testBit i = true → d.testBit i = true
    · exact h3 ec b hb (sub_trans (sub_iff.mpr hcd) hdb)
    · simp only [Classical.not_forall] at hcd
      obtain ⟨x, hx, hdx⟩ := hcd
      have := sz_lt_of_ex (lt512 h9 h1) hs hx (by cases h : d.testBit x <;> simp_all)
      omega
  · rintro c d ⟨c1, c2, c3⟩ ⟨d1, d2, d3⟩ hs
    have c5 := lt512 h9 c1
    have put : ∀ x, d.testBit x = true → c.testBit x = false → x < n ∧ sz (c ||| 2 ^ x) = sz c + 1 ∧ c ||| 2 ^ x < 2 ^ n := fun x hx hc =>
      have hn := lt_of_bit d1 hx
      ⟨hn, sz_put (by omega) c5 hc, put_lt hn c1⟩
    by_cases hr : sz c + 1 = r
    · have hd : sz d = r := by omega
      by_cases k : ∃ x, d.testBit x = true ∧ c.testBit x = false ∧ ∀ b ∈ Bs, ¬ sub (c ||| 2 ^ x) b
      · obtain ⟨x, hx, hc, hb⟩ := k
        obtain ⟨p1, p2, p3⟩ := put x hx hc
        exact ⟨x, p1, hx, hc, p3, by omega, fun _ => hb⟩
      · exfalso
        have key : ∀ x, d.testBit x = true → c.testBit x = false → ∃ b ∈ Bs, sub (c ||| 2 ^ x) b := fun x hx hc => by
          apply Classical.byContradiction
          intro no
          exact k ⟨x, hx, hc, fun b hb hs => no ⟨b, hb, hs⟩⟩
        obtain ⟨x, hx, hc⟩ := ex_of_sz hs
        obtain ⟨b, hb, sb⟩ := key x hx hc
        refine d3 hd b hb (sub_iff.mpr fun i hi => ?_)
        cases hci : c.testBit i
        · obtain ⟨e, he, se⟩ := key i hi hci
          rw [B.one (by omega) hb he (sub_trans (sub_put c x) sb) (sub_trans (sub_put c i) se)]
          exact sub_iff.mp se i (by rw [put_bit, decide_eq_true rfl, Bool.or_true])
        · exact sub_iff.mp (sub_trans (sub_put c x) sb) i hci
    · obtain ⟨x, hx, hc⟩ := ex_of_sz hs
      obtain ⟨p1, p2, p3⟩ := put x hx hc
      exact ⟨x, p1, hx, hc, p3, by omega, fun h => absurd h (by omega)⟩

end PL
/-! greatest free lots -/
open PySem L2
namespace PL

theorem grow {n : Nat} {I : Nat → Prop} (h9 : n ≤ 9) (m : Mat n I) : ∀ (k c d : Nat), I c → I d → sz c + k = sz d → ∃ e, I e ∧ sub c e ∧ sz e = sz d ∧ sub e (c ||| d)
  | 0, c, d, hc, hd, h => ⟨c, hc, sub_rfl c, by omega, sub_iff.mpr fun i hi => by rw [Nat.testBit_or, hi]; rfl⟩
  | k + 1, c, d, hc, hd, h => by
    obtain ⟨x, hx, h1, h2, h3⟩ := m.aug c d hc hd (by omega)
    have s := sz_put (by omega) (lt512 h9 (m.lt c hc)) h2
    obtain ⟨e, he, e1, e2, e3⟩ := grow h9 m k (c ||| 2 ^ x) d h3 hd (by omega)
    refine ⟨e, he, sub_trans (sub_put c x) e1, e2, sub_iff.mpr fun i hi => ?_⟩
    have := sub_iff.mp e3 i hi
    rw [Nat.testBit_or, put_bit] at this
    rw [Nat.testBit_or]
    by_cases hxi : x = i
    · rw [← hxi, h1, Bool.or_true]
    · rw [decide_eq_false hxi, Bool.or_false] at this; exact this

/-- B tells just the greatest free lots -/
structure IsB (n : Nat) (I : Nat → Prop) (B : List Nat) : Prop where
  mat : Mat n I
  ne : B ≠ []
  fr : ∀ c, frB B c = true ↔ I c
  eq : ∀ b ∈ B, ∀ e ∈ B, sz b = sz e

theorem frB_ex {B : List Nat} {c : Nat} : frB B c = true ↔ ∃ b ∈ B, sub c b := by
  unfold frB sub
  rw [List.any_eq_true]
  constructor
  · rintro ⟨b, hb, h⟩; exact ⟨b, hb, by simpa using h⟩
  · rintro ⟨b, hb, h⟩; exact ⟨b, hb, by simpa using h⟩

theorem isB_of {n r : Nat} {I : Nat → Prop} {B : List Nat} (h9 : n ≤ 9) (m : Mat n I) (hB : ∀ c, c ∈ B ↔ I c ∧ sz c = r) (hne : B ≠ []) (hr : ∀ c, I c → sz c ≤ r) : IsB n I B := by
  refine ⟨m, hne, fun c => ?_, fun b hb e he => by rw [((hB b).mp hb).2, ((hB e).mp he).2]⟩
  rw [frB_ex]
  constructor
  · rintro ⟨b, hb, h⟩; exact m.down b c ((hB b).mp hb).1 h
  · intro hc
    obtain ⟨b, hb⟩ := List.exists_mem_of_ne_nil B hne
    obtain ⟨b1, b2⟩ := (hB b).mp hb
    have := hr c hc
    obtain ⟨e, he, e1, e2, _⟩ := grow h9 m (sz b - sz c) c b hc b1 (by omega)
    exact ⟨e, (hB e).mpr ⟨he, by omega⟩, e1⟩

theorem pav_some {n r : Nat} {Bs : List Nat} (h9 : n ≤ 9) (B : Blocks n r Bs) : ∃ c, pavI n r Bs c ∧ sz c = r := by
  have hp : 2 ^ r ≤ 2 ^ n := Nat.pow_le_pow_right (by decide) B.rn
  have hpr := Nat.two_pow_pos r
  have h9r : r ≤ 9 := Nat.le_trans B.rn h9
  have s0 := sz_all_pow r h9r
  by_cases k : ∃ b ∈ Bs, sub (2 ^ r - 1) b
  · obtain ⟨b, hb, hs⟩ := k
    have hr := (B.big b hb).1
    obtain ⟨x, hx, hbx⟩ := ex_of_sz (c := b) (d := 2 ^ n - 1) (by rw [sz_all_pow n h9]; exact (B.big b hb).2)
    have hpn := Nat.two_pow_pos n
    have hxn := lt_of_bit (n := n) (c := 2 ^ n - 1) (by omega) hx
    have s1 := sz_all_pow (r - 1) (by omega)
    have pp : 2 ^ (r - 1) ≤ 2 ^ n := Nat.pow_le_pow_right (by decide) (Nat.le_trans (Nat.sub_le _ _) B.rn)
    have pq := Nat.two_pow_pos (r - 1)
    have sb : sub (2 ^ (r - 1) - 1) b := sub_trans (sub_iff.mpr fun i hi => by
      rw [Nat.testBit_two_pow_sub_one] at hi ⊢
      have := of_decide_eq_true hi
      exact decide_eq_true (by omega)) hs
    have cx : (2 ^ (r - 1) - 1).testBit x = false := by
      cases h : (2 ^ (r - 1) - 1).testBit x
      · rfl
      · rw [sub_iff.mp sb x h] at hbx; cases hbx
    have s2 : sz ((2 ^ (r - 1) - 1) ||| 2 ^ x) = r := by
      rw [sz_put (by omega) (lt512 h9 (by omega)) cx, s1]; omega
    refine ⟨(2 ^ (r - 1) - 1) ||| 2 ^ x, ⟨put_lt hxn (Nat.lt_of_lt_of_le (Nat.sub_lt pq Nat.one_pos) pp), Nat.le_of_eq s2, fun _ e he se => ?_⟩, s2⟩
    have := B.one s1 hb he sb (sub_trans (sub_put _ x) se)
    subst this
    rw [sub_iff.mp se x (by rw [put_bit, decide_eq_true rfl, Bool.or_true])] at hbx
    cases hbx
  · exact ⟨2 ^ r - 1, ⟨by omega, by omega, fun _ b hb hs => k ⟨b, hb, hs⟩⟩, s0⟩

end PL
/-! one round, the others loose or sure -/
open PySem L2
namespace PL

theorem sub_of_sz {c d : Nat} (hd : d < 512) (hs : sub c d) (h : sz d ≤ sz c) : sub d c := sub_iff.mpr fun i hi => by
  cases hc : c.testBit i
  · have := sz_lt_of_ex hd hs hi hc; omega
  · rfl

def ringI (n R S c : Nat) : Prop := c < 2 ^ n ∧ sub c (R ||| S) ∧ ¬ sub R c

theorem ring_mat {n R S : Nat} (h9 : n ≤ 9) (hR : R ≠ 0) : Mat n (ringI n R S) := by
  refine ⟨fun c h => h.1, ⟨Nat.two_pow_pos n, sub_iff.mpr fun i hi => by simp at hi, fun h => hR ?_⟩, ?_, ?_⟩
  · rw [← h]; exact Nat.and_zero R
  · rintro c d ⟨h1, h2, h3⟩ hs
    refine ⟨?_, sub_trans hs h2, fun h => h3 (sub_trans h hs)⟩
    rw [← hs]; exact Nat.lt_of_le_of_lt Nat.and_le_right h1
  · rintro c d ⟨c1, c2, c3⟩ ⟨d1, d2, d3⟩ hs
    by_cases k : ∃ x, d.testBit x = true ∧ c.testBit x = false ∧ ¬ sub R (c ||| 2 ^ x)
    · obtain ⟨x, hx, hc, hr⟩ := k
      have hxn := lt_of_bit d1 hx
      exact ⟨x, hxn, hx, hc, put_lt hxn c1, put_sub c2 (sub_iff.mp d2 x hx), hr⟩
    · exfalso
      have key : ∀ x, d.testBit x = true → c.testBit x = false → sub R (c ||| 2 ^ x) := fun x hx hc => by
        apply Classical.byContradiction
        intro h
        exact k ⟨x, hx, hc, h⟩
      obtain ⟨x, hx, hc⟩ := ex_of_sz hs
      have hRx := key x hx hc
      have hxn := lt_of_bit d1 hx
      have hsub : sub d (c ||| 2 ^ x) := sub_iff.mpr fun y hy => by
        cases hcy : c.testBit y
        · have hRy := key y hy hcy
          by_cases e : x = y
          · rw [put_bit, decide_eq_true e, Bool.or_true]
          · exfalso
            refine c3 (sub_iff.mpr fun i hi => ?_)
            have a := sub_iff.mp hRx i hi
            have b := sub_iff.mp hRy i hi
            rw [put_bit] at a b
            cases hci : c.testBit i
            · rw [hci, Bool.false_or] at a b
              exact absurd ((of_decide_eq_true a).trans (of_decide_eq_true b).symm) e
            · rfl
        · rw [put_bit, hcy]; rfl
      have s := sz_put (by omega) (lt512 h9 c1) hc
      exact d3 (sub_trans hRx (sub_of_sz (lt512 h9 (put_lt hxn c1)) hsub (by omega)))

end PL
/-! two pieces beside one another -/
open PySem L2
namespace PL

def dsI (a : Nat) (I J : Nat → Prop) (c : Nat) : Prop := I (c % 2 ^ a) ∧ J (c / 2 ^ a)

theorem sz_split_all : ∀ a ≤ 9, ∀ c < 512, sz c = sz (c % 2 ^ a) + sz (c / 2 ^ a) := by decide +kernel
theorem low_bit (c a i : Nat) : (c % 2 ^ a).testBit i = (decide (i < a) && c.testBit i) := Nat.testBit_mod_two_pow c a i
theorem high_bit (c a i : Nat) : (c / 2 ^ a).testBit i = c.testBit (a + i) := by rw [Nat.testBit_div_two_pow, Nat.add_comm]
theorem low_put {c a x : Nat} (h : x < a) : (c ||| 2 ^ x) % 2 ^ a = (c % 2 ^ a) ||| 2 ^ x ∧ (c ||| 2 ^ x) / 2 ^ a = c / 2 ^ a := by
  constructor
  · refine Nat.eq_of_testBit_eq fun i => ?_
    rw [low_bit, put_bit, put_bit, low_bit]
    by_cases e : x = i
    · subst e; rw [decide_eq_true h, decide_eq_true rfl]; simp
    · rw [decide_eq_false e]; simp
  · refine Nat.eq_of_testBit_eq fun i => ?_
    rw [high_bit, put_bit, high_bit, decide_eq_false (by omega), Bool.or_false]
theorem high_put {c a y : Nat} : (c ||| 2 ^ (a + y)) % 2 ^ a = c % 2 ^ a ∧ (c ||| 2 ^ (a + y)) / 2 ^ a = (c / 2 ^ a) ||| 2 ^ y := by
  constructor
  · refine Nat.eq_of_testBit_eq fun i => ?_
    rw [low_bit, put_bit, low_bit]
    by_cases e : i < a
    · rw [decide_eq_false (show ¬ a + y = i by omega), Bool.or_false]
    · rw [decide_eq_false e]; rfl
  · refine Nat.eq_of_testBit_eq fun i => ?_
    rw [high_bit, put_bit, put_bit, high_bit]
    by_cases e : y = i
    · rw [decide_eq_true e, decide_eq_true (show a + y = a + i by omega)]
    · rw [decide_eq_false e, decide_eq_false (show ¬ a + y = a + i by omega)]

theorem ds_mat {a b : Nat} (h9 : a + b ≤ 9) {I J : Nat → Prop} (m : Mat a I) (k : Mat b J) : Mat (a + b) (dsI a I J) := by
  have lt : ∀ c, dsI a I J c → c < 2 ^ (a + b) := fun c h => by
    have h2 := k.lt _ h.2
    rw [Nat.pow_add, Nat.mul_comm]
    exact (Nat.div_lt_iff_lt_mul (Nat.two_pow_pos a)).mp h2
  refine ⟨lt, ?_, ?_, ?_⟩
  · unfold dsI
    rw [Nat.zero_mod, Nat.zero_div]; exact ⟨m.nil, k.nil⟩
  · rintro c d ⟨h1, h2⟩ hs
    refine ⟨m.down _ _ h1 (sub_iff.mpr fun i hi => ?_), k.down _ _ h2 (sub_iff.mpr fun i hi => ?_)⟩
    · rw [low_bit] at hi ⊢
      obtain ⟨x, y⟩ := Bool.and_eq_true_iff.mp hi
      rw [x, sub_iff.mp hs i y]; rfl
    · rw [high_bit] at hi ⊢
      exact sub_iff.mp hs _ hi
  · intro c d hc hd hs
    have sc := sz_split_all a (by omega) c (lt512 h9 (lt c hc))
    have sd := sz_split_all a (by omega) d (lt512 h9 (lt d hd))
    by_cases hl : sz (c % 2 ^ a) < sz (d % 2 ^ a)
    · obtain ⟨x, hx, h1, h2, h3⟩ := m.aug _ _ hc.1 hd.1 hl
      rw [low_bit, decide_eq_true hx, Bool.true_and] at h1 h2
      refine ⟨x, by omega, h1, h2, ?_⟩
      obtain ⟨e1, e2⟩ := low_put (c := c) hx
      unfold dsI
      rw [e1, e2]; exact ⟨h3, hc.2⟩
    · obtain ⟨y, hy, h1, h2, h3⟩ := k.aug _ _ hc.2 hd.2 (by omega)
      rw [high_bit] at h1 h2
      refine ⟨a + y, by omega, h1, h2, ?_⟩
      obtain ⟨e1, e2⟩ := high_put (c := c) (a := a) (y := y)
      unfold dsI
      rw [e1, e2]; exact ⟨hc.1, h3⟩

end PL
/-! things by other names -/
open PySem L2
namespace PL

theorem nodup_le : ∀ (xs ys : List Nat), xs.Nodup → (∀ x ∈ xs, x ∈ ys) → xs.length ≤ ys.length
  | [], ys, _, _ => Nat.zero_le _
  | x :: xs, ys, hn, hs => by
    obtain ⟨h1, h2⟩ := List.nodup_cons.mp hn
    have hx := hs x (List.mem_cons_self ..)
    have := nodup_le xs (ys.erase x) h2 fun y hy => by
      have hne : y ≠ x := fun e => h1 (e ▸ hy)
      exact (List.mem_erase_of_ne hne).mpr (hs y (List.mem_cons_of_mem _ hy))
    rw [List.length_erase_of_mem hx] at this
    have := List.length_pos_of_mem hx
    simp only [List.length_cons]
    omega

/-- p and q lead there and back among n things -/
structure Ren (n : Nat) (p q : Nat → Nat) : Prop where
  pl : ∀ i < n, p i < n
  ql : ∀ i < n, q i < n
  pq : ∀ i < n, p (q i) = i
  qp : ∀ i < n, q (p i) = i

theorem bl_nodup' (c : Nat) : (bl c).Nodup := List.Pairwise.filter _ List.nodup_range
theorem sz_ren_le {n c e : Nat} {p : Nat → Nat} (h9 : n ≤ 9) (he : e < 2 ^ n) (hp : ∀ i < n, p i < n) (inj : ∀ i < n, ∀ j < n, p i = p j → i = j) (h : ∀ i < n, e.testBit i = true → c.testBit (p i) = true) : sz e ≤ sz c := by
  have := nodup_le ((bl e).map p) (bl c) ?_ ?_
  · rw [List.length_map] at this; exact this
  · rw [List.Nodup, List.pairwise_map]
    refine List.Pairwise.imp_of_mem ?_ (bl_nodup' e)
    intro a b ha hb hab h
    exact hab (inj a (lt_of_bit he (mem_bl.mp ha).2) b (lt_of_bit he (mem_bl.mp hb).2) h)
  · intro y hy
    obtain ⟨i, hi, rfl⟩ := List.mem_map.mp hy
    have hin := lt_of_bit he (mem_bl.mp hi).2
    have := hp i hin
    exact mem_bl.mpr ⟨by omega, h i hin (mem_bl.mp hi).2⟩

/-- c is e by the names p -/
def named (n : Nat) (p : Nat → Nat) (e c : Nat) : Prop := e < 2 ^ n ∧ c < 2 ^ n ∧ ∀ i < n, e.testBit i = c.testBit (p i)
def renI (n : Nat) (p : Nat → Nat) (I : Nat → Prop) (c : Nat) : Prop := ∃ e, I e ∧ named n p e c

theorem named_sz {n e c : Nat} {p q : Nat → Nat} (h9 : n ≤ 9) (r : Ren n p q) (h : named n p e c) : sz e = sz c := by
  obtain ⟨h1, h2, h3⟩ := h
  refine Nat.le_antisymm (sz_ren_le h9 h1 r.pl (fun i hi j hj e => by rw [← r.qp i hi, e, r.qp j hj]) fun i hi he => by rw [← h3 i hi]; exact he) (sz_ren_le h9 h2 r.ql (fun i hi j hj e => by rw [← r.pq i hi, e, r.pq j hj]) fun i hi he => ?_)
  rw [h3 _ (r.ql i hi), r.pq i hi]; exact he

theorem ren_mat {n : Nat} {p q : Nat → Nat} (h9 : n ≤ 9) (r : Ren n p q) {I : Nat → Prop} (m : Mat n I) : Mat n (renI n p I) := by
  refine ⟨fun c ⟨e, _, h⟩ => h.2.1, ⟨0, m.nil, Nat.two_pow_pos n, Nat.two_pow_pos n, fun i _ => by rw [Nat.zero_testBit, Nat.zero_testBit]⟩, ?_, ?_⟩
  · rintro c d ⟨e, he, h1, h2, h3⟩ hs
    obtain ⟨f, f1, f2⟩ := code_of (fun i => d.testBit (p i)) n
    have f3 : ∀ i < n, f.testBit i = d.testBit (p i) := fun i hi => by rw [f2, decide_eq_true hi, Bool.true_and]
    refine ⟨f, m.down e f he (sub_iff.mpr fun i hi => ?_), f1, ?_, f3⟩
    · have hin := lt_of_bit f1 hi
      rw [f3 i hin] at hi
      rw [h3 i hin]; exact sub_iff.mp hs _ hi
    · rw [← hs]; exact Nat.lt_of_le_of_lt Nat.and_le_right h2
  · rintro c d ⟨e, he, hec⟩ ⟨f, hf, hfd⟩ hs
    obtain ⟨x, hx, x1, x2, x3⟩ := m.aug e f he hf (by rw [named_sz h9 r hec, named_sz h9 r hfd]; exact hs)
    refine ⟨p x, r.pl x hx, by rw [← hfd.2.2 x hx]; exact x1, by rw [← hec.2.2 x hx]; exact x2, e ||| 2 ^ x, x3, put_lt hx hec.1, put_lt (r.pl x hx) hec.2.1, fun i hi => ?_⟩
    rw [put_bit, put_bit, hec.2.2 i hi]
    by_cases h : x = i
    · rw [decide_eq_true h, decide_eq_true (congrArg p h)]
    · rw [decide_eq_false h, decide_eq_false fun k => h (by rw [← r.qp x hx, k, r.qp i hi])]

end PL
/-! the bases of a table with one thing put to it -/
open PySem L2
namespace PL

theorem bits_minus {z b i : Nat} (h9 : z ≤ 9) (hb : b < 2 ^ z) (hi : b.testBit i = true) : (∀ y, (b - 2 ^ i).testBit y = (b.testBit y && decide (y ≠ i))) ∧ (b - 2 ^ i) ||| 2 ^ i = b ∧ b - 2 ^ i < 2 ^ z ∧ (b - 2 ^ i).testBit i = false ∧ sub (b - 2 ^ i) b := by
  have hz := lt_of_bit hb hi
  have b5 := lt512 h9 hb
  have h := minus_bit (by omega) b5 hi
  refine ⟨h, (minus_all i (by omega) b b5 hi).2.1, Nat.lt_of_le_of_lt (Nat.sub_le _ _) hb, by rw [h]; simp, sub_iff.mpr fun y hy => ?_⟩
  rw [h] at hy; exact (Bool.and_eq_true_iff.mp hy).1

theorem putB {z lot : Nat} {I : Nat → Prop} {B B' : List Nat} (h9 : z < 9) (k : IsB z I B) (hB : ∀ c, c ∈ B' ↔ c ∈ B ∨ ∃ b ∈ B, ∃ i, i < z ∧ lot.testBit i = true ∧ b.testBit i = true ∧ c = (b - 2 ^ i) ||| 2 ^ z) : IsB (z + 1) (putI z lot I) B' := by
  have inI : ∀ b ∈ B, I b := fun b hb => (k.fr b).mp (frB_ex.mpr ⟨b, hb, sub_rfl b⟩)
  have szB : ∀ b ∈ B, ∀ i, b.testBit i = true → sz ((b - 2 ^ i) ||| 2 ^ z) = sz b := fun b hb i hi => by
    have lt := k.mat.lt b (inI b hb)
    obtain ⟨_, h2, h3, h4, _⟩ := bits_minus (by omega) lt hi
    have hz := lt_of_bit lt hi
    have s := sz_put (by omega) (lt512 (by omega) h3) h4
    rw [h2] at s
    rw [sz_put h9 (lt512 (by omega) h3) (no_bit h3), s]
  refine ⟨putI_mat h9 k.mat, ?_, ?_, ?_⟩
  · obtain ⟨b, hb⟩ := List.exists_mem_of_ne_nil B k.ne
    exact List.ne_nil_of_mem ((hB b).mpr (.inl hb))
  · intro c
    rw [frB_ex]
    constructor
    · rintro ⟨e, he, hs⟩
      rcases (hB e).mp he with h | ⟨b, hb, i, hi, hl, hbi, rfl⟩
      · exact .inl (k.mat.down e c (inI e h) hs)
      · have lt := k.mat.lt b (inI b hb)
        obtain ⟨_, h2, h3, h4, h5⟩ := bits_minus (by omega) lt hbi
        have hI := k.mat.down b _ (inI b hb) h5
        rcases part_of_put (no_bit h3) hs with h | ⟨q1, q2, q3⟩
        · exact .inl (k.mat.down _ c hI h)
        · refine .inr ⟨(b - 2 ^ i) &&& c, i, k.mat.down _ _ hI q1, by rw [Nat.testBit_and, h4]; rfl, hl, hi, k.mat.down b _ (inI b hb) ?_, q3⟩
          have := put_mono i q1
          rw [h2] at this; exact this
    · rintro (h | ⟨d, i, hd, hi, hl, hz, hdi, rfl⟩)
      · obtain ⟨b, hb, hs⟩ := frB_ex.mp ((k.fr c).mpr h)
        exact ⟨b, (hB b).mpr (.inl hb), hs⟩
      · obtain ⟨b, hb, hs⟩ := frB_ex.mp ((k.fr _).mpr hdi)
        have hbi : b.testBit i = true := sub_iff.mp hs i (by rw [put_bit, decide_eq_true rfl, Bool.or_true])
        obtain ⟨h1, _⟩ := bits_minus (by omega) (k.mat.lt b (inI b hb)) hbi
        refine ⟨_, (hB _).mpr (.inr ⟨b, hb, i, hz, hl, hbi, rfl⟩), put_mono z (sub_iff.mpr fun y hy => ?_)⟩
        have hne : y ≠ i := fun e => by rw [e, hi] at hy; cases hy
        rw [h1, sub_iff.mp (sub_trans (sub_put d i) hs) y hy, decide_eq_true hne]; rfl
  · have all : ∀ c ∈ B', ∃ b ∈ B, sz c = sz b := fun c hc => by
      rcases (hB c).mp hc with h | ⟨b, hb, i, _, _, hbi, rfl⟩
      · exact ⟨c, h, rfl⟩
      · exact ⟨b, hb, szB b hb i hbi⟩
    intro c hc e he
    obtain ⟨b, hb, h1⟩ := all c hc
    obtain ⟨f, hf, h2⟩ := all e he
    rw [h1, h2]; exact k.eq b hb f hf

end PL
/-! the bases of a table with one thing put at a lot of the others -/
open PySem L2
namespace PL

theorem coB {z lot : Nat} {I : Nat → Prop} {B B' : List Nat} (h9 : z < 9) (k : IsB z I B) (hB : ∀ c, c ∈ B' ↔ ∃ b ∈ B, ∃ i, i ≤ z ∧ (i = z ∨ lot.testBit i = true) ∧ b.testBit i = false ∧ c = b ||| 2 ^ i) : IsB (z + 1) (coI z lot I) B' := by
  have inI : ∀ b ∈ B, I b := fun b hb => (k.fr b).mp (frB_ex.mpr ⟨b, hb, sub_rfl b⟩)
  have at_z : ∀ b ∈ B, b ||| 2 ^ z ∈ B' := fun b hb => (hB _).mpr ⟨b, hb, z, Nat.le_refl z, .inl rfl, no_bit (k.mat.lt b (inI b hb)), rfl⟩
  refine ⟨coI_mat h9 k.mat, ?_, ?_, ?_⟩
  · obtain ⟨b, hb⟩ := List.exists_mem_of_ne_nil B k.ne
    exact List.ne_nil_of_mem (at_z b hb)
  · intro c
    rw [frB_ex]
    constructor
    · rintro ⟨e, he, hs⟩
      obtain ⟨b, hb, i, hi, hl, hbi, rfl⟩ := (hB e).mp he
      rcases part_of_put hbi hs with h | ⟨q1, q2, q3⟩
      · exact .inl (k.mat.down b c (inI b hb) h)
      · exact .inr ⟨b &&& c, i, k.mat.down b _ (inI b hb) q1, q2, hi, hl, q3⟩
    · rintro (h | ⟨d, i, hd, hi, hz, hl, rfl⟩)
      · obtain ⟨b, hb, hs⟩ := frB_ex.mp ((k.fr c).mpr h)
        exact ⟨_, at_z b hb, sub_trans hs (sub_put b z)⟩
      · obtain ⟨b, hb, hs⟩ := frB_ex.mp ((k.fr d).mpr hd)
        cases hbi : b.testBit i
        · exact ⟨_, (hB _).mpr ⟨b, hb, i, hz, hl, hbi, rfl⟩, put_mono i hs⟩
        · exact ⟨_, at_z b hb, sub_trans (put_sub hs hbi) (sub_put b z)⟩
  · have all : ∀ c ∈ B', ∃ b ∈ B, sz c = sz b + 1 := fun c hc => by
      obtain ⟨b, hb, i, hi, _, hbi, rfl⟩ := (hB c).mp hc
      exact ⟨b, hb, sz_put (by omega) (lt512 (by omega) (k.mat.lt b (inI b hb))) hbi⟩
    intro c hc e he
    obtain ⟨b, hb, h1⟩ := all c hc
    obtain ⟨f, hf, h2⟩ := all e he
    rw [h1, h2, k.eq b hb f hf]

end PL
/-! the bases of pieces beside one another, of other names, of a core, of one round -/
open PySem L2
namespace PL

theorem two_parts {a b c : Nat} (h : b < 2 ^ a) : (c * 2 ^ a + b) % 2 ^ a = b ∧ (c * 2 ^ a + b) / 2 ^ a = c := by
  have p := Nat.two_pow_pos a
  rw [Nat.mul_comm c]
  exact ⟨by rw [Nat.mul_add_mod, Nat.mod_eq_of_lt h], by rw [Nat.mul_add_div p, Nat.div_eq_of_lt h, Nat.add_zero]⟩
theorem sub_parts {a c d : Nat} : sub c d ↔ sub (c % 2 ^ a) (d % 2 ^ a) ∧ sub (c / 2 ^ a) (d / 2 ^ a) := by
  constructor
  · intro hs
    refine ⟨sub_iff.mpr fun i hi => ?_, sub_iff.mpr fun i hi => ?_⟩
    · rw [low_bit] at hi ⊢
      obtain ⟨x, y⟩ := Bool.and_eq_true_iff.mp hi
      rw [x, sub_iff.mp hs i y]; rfl
    · rw [high_bit] at hi ⊢
      exact sub_iff.mp hs _ hi
  · rintro ⟨h1, h2⟩
    refine sub_iff.mpr fun i hi => ?_
    by_cases h : i < a
    · have := sub_iff.mp h1 i (by rw [low_bit, decide_eq_true h, hi]; rfl)
      rw [low_bit] at this; exact (Bool.and_eq_true_iff.mp this).2
    · have e : i = a + (i - a) := by omega
      have := sub_iff.mp h2 (i - a) (by rw [high_bit, ← e]; exact hi)
      rw [high_bit, ← e] at this; exact this

theorem dsB {a b : Nat} (h9 : a + b ≤ 9) {I J : Nat → Prop} {B C B' : List Nat} (k : IsB a I B) (l : IsB b J C) (hB : ∀ c, c ∈ B' ↔ ∃ e ∈ C, ∃ d ∈ B, c = e * 2 ^ a + d) : IsB (a + b) (dsI a I J) B' := by
  have inI : ∀ d ∈ B, I d := fun d hd => (k.fr d).mp (frB_ex.mpr ⟨d, hd, sub_rfl d⟩)
  have inJ : ∀ d ∈ C, J d := fun d hd => (l.fr d).mp (frB_ex.mpr ⟨d, hd, sub_rfl d⟩)
  have parts : ∀ e ∈ C, ∀ d ∈ B, (e * 2 ^ a + d) % 2 ^ a = d ∧ (e * 2 ^ a + d) / 2 ^ a = e := fun e he d hd => two_parts (k.mat.lt d (inI d hd))
  have m := ds_mat h9 k.mat l.mat
  refine ⟨m, ?_, ?_, ?_⟩
  · obtain ⟨d, hd⟩ := List.exists_mem_of_ne_nil B k.ne
    obtain ⟨e, he⟩ := List.exists_mem_of_ne_nil C l.ne
    exact List.ne_nil_of_mem ((hB _).mpr ⟨e, he, d, hd, rfl⟩)
  · intro c
    rw [frB_ex]
    constructor
    · rintro ⟨x, hx, hs⟩
      obtain ⟨e, he, d, hd, rfl⟩ := (hB x).mp hx
      obtain ⟨p1, p2⟩ := parts e he d hd
      refine m.down _ c ?_ hs
      unfold dsI
      rw [p1, p2]; exact ⟨inI d hd, inJ e he⟩
    · rintro ⟨h1, h2⟩
      obtain ⟨d, hd, s1⟩ := frB_ex.mp ((k.fr _).mpr h1)
      obtain ⟨e, he, s2⟩ := frB_ex.mp ((l.fr _).mpr h2)
      obtain ⟨p1, p2⟩ := parts e he d hd
      exact ⟨_, (hB _).mpr ⟨e, he, d, hd, rfl⟩, sub_parts.mpr (by rw [p1, p2]; exact ⟨s1, s2⟩)⟩
  · have all : ∀ c ∈ B', ∃ e ∈ C, ∃ d ∈ B, sz c = sz d + sz e := fun c hc => by
      obtain ⟨e, he, d, hd, rfl⟩ := (hB c).mp hc
      obtain ⟨p1, p2⟩ := parts e he d hd
      have lt : e * 2 ^ a + d < 512 := lt512 h9 (m.lt _ (by unfold dsI; rw [p1, p2]; exact ⟨inI d hd, inJ e he⟩))
      have := sz_split_all a (by omega) _ lt
      rw [p1, p2] at this
      exact ⟨e, he, d, hd, this⟩
    intro c hc x hx
    obtain ⟨e, he, d, hd, h1⟩ := all c hc
    obtain ⟨f, hf, g, hg, h2⟩ := all x hx
    rw [h1, h2, k.eq d hd g hg, l.eq e he f hf]

theorem pavB {n r : Nat} {Bs B' : List Nat} (h9 : n ≤ 9) (B : Blocks n r Bs) (hB : ∀ c, c ∈ B' ↔ c < 2 ^ n ∧ sz c = r ∧ ∀ b ∈ Bs, ¬ sub c b) : IsB n (pavI n r Bs) B' := by
  refine isB_of (r := r) h9 (pav_mat h9 B) (fun c => ?_) ?_ fun c h => h.2.1
  · rw [hB]
    exact ⟨fun ⟨h1, h2, h3⟩ => ⟨⟨h1, Nat.le_of_eq h2, fun _ => h3⟩, h2⟩, fun ⟨⟨h1, _, h3⟩, h2⟩ => ⟨h1, h2, h3 h2⟩⟩
  · obtain ⟨c, hc, hs⟩ := pav_some h9 B
    exact List.ne_nil_of_mem ((hB c).mpr ⟨hc.1, hs, hc.2.2 hs⟩)

end PL
/-! the bases by other names, of one round -/
open PySem L2
namespace PL

theorem named_sub {n : Nat} {p q : Nat → Nat} (r : Ren n p q) {e c f d : Nat} (h : named n p e c) (k : named n p f d) : sub e f ↔ sub c d := by
  constructor
  · intro hs
    refine sub_iff.mpr fun i hi => ?_
    have hn := lt_of_bit h.2.1 hi
    have := sub_iff.mp hs (q i) (by rw [h.2.2 _ (r.ql i hn), r.pq i hn]; exact hi)
    rw [k.2.2 _ (r.ql i hn), r.pq i hn] at this; exact this
  · intro hs
    refine sub_iff.mpr fun i hi => ?_
    have hn := lt_of_bit h.1 hi
    rw [k.2.2 i hn]
    exact sub_iff.mp hs _ (by rw [← h.2.2 i hn]; exact hi)

theorem named_ex {n : Nat} (p : Nat → Nat) {c : Nat} (hc : c < 2 ^ n) : ∃ e, named n p e c := by
  obtain ⟨f, f1, f2⟩ := code_of (fun i => c.testBit (p i)) n
  exact ⟨f, f1, hc, fun i hi => by rw [f2, decide_eq_true hi, Bool.true_and]⟩

theorem renB {n : Nat} {p q : Nat → Nat} (h9 : n ≤ 9) (r : Ren n p q) {I : Nat → Prop} {B B' : List Nat} (k : IsB n I B) (hB : ∀ c, c ∈ B' ↔ ∃ b ∈ B, named n p b c) (hall : ∀ b ∈ B, ∃ c, named n p b c) : IsB n (renI n p I) B' := by
  have inI : ∀ d ∈ B, I d := fun d hd => (k.fr d).mp (frB_ex.mpr ⟨d, hd, sub_rfl d⟩)
  have m := ren_mat h9 r k.mat
  refine ⟨m, ?_, ?_, ?_⟩
  · obtain ⟨b, hb⟩ := List.exists_mem_of_ne_nil B k.ne
    obtain ⟨c, hc⟩ := hall b hb
    exact List.ne_nil_of_mem ((hB c).mpr ⟨b, hb, hc⟩)
  · intro c
    rw [frB_ex]
    constructor
    · rintro ⟨d, hd, hs⟩
      obtain ⟨b, hb, hn⟩ := (hB d).mp hd
      exact m.down d c ⟨b, inI b hb, hn⟩ hs
    · rintro ⟨e, he, hn⟩
      obtain ⟨b, hb, hs⟩ := frB_ex.mp ((k.fr e).mpr he)
      obtain ⟨d, hd⟩ := hall b hb
      exact ⟨d, (hB d).mpr ⟨b, hb, hd⟩, (named_sub r hn hd).mp hs⟩
  · intro c hc d hd
    obtain ⟨b, hb, h1⟩ := (hB c).mp hc
    obtain ⟨e, he, h2⟩ := (hB d).mp hd
    rw [← named_sz h9 r h1, ← named_sz h9 r h2, k.eq b hb e he]

end PL
/-! the bases of one round, the others loose or sure -/
open PySem L2
namespace PL

theorem or_sub {a b c : Nat} (h1 : sub a c) (h2 : sub b c) : sub (a ||| b) c := sub_iff.mpr fun i hi => by
  rw [Nat.testBit_or] at hi
  rcases Bool.or_eq_true_iff.mp hi with h | h
  · exact sub_iff.mp h1 i h
  · exact sub_iff.mp h2 i h

theorem ringB {n R S : Nat} {B' : List Nat} (h9 : n ≤ 9) (hR : R < 2 ^ n) (hS : S < 2 ^ n) (h0 : R ≠ 0) (hRS : R &&& S = 0) (hB : ∀ c, c ∈ B' ↔ ∃ i, R.testBit i = true ∧ c = (R - 2 ^ i) ||| S) : IsB n (ringI n R S) B' := by
  have dis : ∀ i, R.testBit i = true → S.testBit i = false := fun i hi => by
    have : (R &&& S).testBit i = false := by rw [hRS, Nat.zero_testBit]
    rw [Nat.testBit_and, hi, Bool.true_and] at this; exact this
  have m := ring_mat (S := S) h9 h0
  have some : ∃ i, R.testBit i = true := by
    apply Classical.byContradiction
    intro h
    refine h0 (Nat.eq_of_testBit_eq fun i => ?_)
    cases hi : R.testBit i
    · rw [Nat.zero_testBit]
    · exact absurd ⟨i, hi⟩ h
  have whole : ∀ i, R.testBit i = true → ((R - 2 ^ i) ||| S) ||| 2 ^ i = R ||| S ∧ ((R - 2 ^ i) ||| S).testBit i = false ∧ (R - 2 ^ i) ||| S < 2 ^ n := fun i hi => by
    obtain ⟨h1, h2, h3, h4, _⟩ := bits_minus h9 hR hi
    refine ⟨?_, by rw [Nat.testBit_or, h4, dis i hi]; rfl, Nat.or_lt_two_pow h3 hS⟩
    rw [Nat.or_assoc, Nat.or_comm S, ← Nat.or_assoc, h2]
  have good : ∀ i, R.testBit i = true → ringI n R S ((R - 2 ^ i) ||| S) := fun i hi => by
    obtain ⟨h1, h2, h3⟩ := whole i hi
    exact ⟨h3, by rw [← h1]; exact sub_put _ _, fun h => by rw [sub_iff.mp h i hi] at h2; cases h2⟩
  refine ⟨m, ?_, ?_, ?_⟩
  · obtain ⟨i, hi⟩ := some
    exact List.ne_nil_of_mem ((hB _).mpr ⟨i, hi, rfl⟩)
  · intro c
    rw [frB_ex]
    constructor
    · rintro ⟨b, hb, hs⟩
      obtain ⟨i, hi, rfl⟩ := (hB b).mp hb
      exact m.down _ c (good i hi) hs
    · rintro ⟨c1, c2, c3⟩
      have : ∃ i, R.testBit i = true ∧ c.testBit i = false := by
        apply Classical.byContradiction
        intro h
        refine c3 (sub_iff.mpr fun i hi => ?_)
        cases hc : c.testBit i
        · exact absurd ⟨i, hi, hc⟩ h
        · rfl
      obtain ⟨i, hi, hc⟩ := this
      refine ⟨_, (hB _).mpr ⟨i, hi, rfl⟩, sub_iff.mpr fun y hy => ?_⟩
      have := sub_iff.mp c2 y hy
      rw [← (whole i hi).1, put_bit] at this
      rcases Bool.or_eq_true_iff.mp this with h | h
      · exact h
      · rw [← of_decide_eq_true h, hc] at hy; cases hy
  · have all : ∀ c ∈ B', sz c + 1 = sz (R ||| S) := fun c hc => by
      obtain ⟨i, hi, rfl⟩ := (hB c).mp hc
      obtain ⟨h1, h2, h3⟩ := whole i hi
      rw [← h1]
      exact (sz_put (by have := lt_of_bit hR hi; omega) (lt512 h9 h3) h2).symm
    intro c hc d hd
    have := all c hc
    have := all d hd
    omega

end PL
/-! ranks of lots -/
open PySem L2
namespace PL

/-- r is how many things of c a base has at most -/
def Rk (B : List Nat) (c r : Nat) : Prop := (∃ b ∈ B, sz (b &&& c) = r) ∧ ∀ b ∈ B, sz (b &&& c) ≤ r

theorem and_sub_l (b c : Nat) : sub (b &&& c) b := sub_iff.mpr fun i hi => by
  rw [Nat.testBit_and] at hi; exact (Bool.and_eq_true_iff.mp hi).1
theorem and_sub_r (b c : Nat) : sub (b &&& c) c := sub_iff.mpr fun i hi => by
  rw [Nat.testBit_and] at hi; exact (Bool.and_eq_true_iff.mp hi).2
theorem sub_and {a b c : Nat} (h1 : sub a b) (h2 : sub a c) : sub a (b &&& c) := sub_iff.mpr fun i hi => by
  rw [Nat.testBit_and, sub_iff.mp h1 i hi, sub_iff.mp h2 i hi]; rfl
theorem Rk.one {B : List Nat} {c r s : Nat} (h : Rk B c r) (k : Rk B c s) : r = s := by
  obtain ⟨⟨b, hb, h1⟩, h2⟩ := h
  obtain ⟨⟨e, he, k1⟩, k2⟩ := k
  exact Nat.le_antisymm (by rw [← h1]; exact k2 b hb) (by rw [← k1]; exact h2 e he)

/-- a free lot within c that no thing of c makes greater has as many things as the rank -/
theorem rk_of {n : Nat} {I : Nat → Prop} {B : List Nat} (h9 : n ≤ 9) (k : IsB n I B) {c g : Nat} (hg : I g) (hs : sub g c) (hm : ∀ x < n, c.testBit x = true → g.testBit x = false → ¬ I (g ||| 2 ^ x)) : Rk B c (sz g) := by
  have up : ∀ d, I d → sub d c → sz d ≤ sz g := fun d hd hdc => by
    apply Classical.byContradiction
    intro h
    obtain ⟨x, hx, h1, h2, h3⟩ := k.mat.aug g d hg hd (by omega)
    exact hm x hx (sub_iff.mp hdc x h1) h2 h3
  have low : ∀ b ∈ B, I (b &&& c) := fun b hb => (k.fr _).mp (frB_ex.mpr ⟨b, hb, and_sub_l b c⟩)
  have all : ∀ b ∈ B, sz (b &&& c) ≤ sz g := fun b hb => up _ (low b hb) (and_sub_r b c)
  obtain ⟨b, hb, hgb⟩ := frB_ex.mp ((k.fr g).mpr hg)
  exact ⟨⟨b, hb, Nat.le_antisymm (all b hb) (sz_mono_all (sub_and hgb hs))⟩, all⟩

end PL
/-! rounds: one of two that meet can be led past what they have in common -/
open PySem L2
namespace PL

/-- g is free within X, and no thing of X makes it greater -/
structure Full (n : Nat) (I : Nat → Prop) (X g : Nat) : Prop where
  free : I g
  inn : sub g X
  top : ∀ x, X.testBit x = true → g.testBit x = false → ¬ I (g ||| 2 ^ x)

theorem Full.up {n : Nat} {I : Nat → Prop} (m : Mat n I) {X g d : Nat} (h : Full n I X g) (hd : I d) (hs : sub d X) : sz d ≤ sz g := by
  apply Classical.byContradiction
  intro hn
  obtain ⟨x, hx, h1, h2, h3⟩ := m.aug g d h.free hd (by omega)
  exact h.top x (sub_iff.mp hs x h1) h2 h3

theorem sz_le9 (c : Nat) : sz c ≤ 9 := bl_len c
theorem full_ex {n : Nat} {I : Nat → Prop} (h9 : n ≤ 9) (m : Mat n I) {X : Nat} (hX : X < 2 ^ n) : ∀ (k g : Nat), I g → sub g X → 9 - sz g = k → ∃ h, Full n I X h ∧ sub g h
  | k, g, hg, hs, hk => by
    by_cases hm : ∀ x, X.testBit x = true → g.testBit x = false → ¬ I (g ||| 2 ^ x)
    · exact ⟨g, ⟨hg, hs, hm⟩, sub_rfl g⟩
    · have : ∃ x, X.testBit x = true ∧ g.testBit x = false ∧ I (g ||| 2 ^ x) := by
        apply Classical.byContradiction
        intro no
        exact hm fun x h1 h2 h3 => no ⟨x, h1, h2, h3⟩
      obtain ⟨x, h1, h2, h3⟩ := this
      have hx := lt_of_bit hX h1
      have s := sz_put (by omega) (lt512 h9 (m.lt g hg)) h2
      have := sz_le9 (g ||| 2 ^ x)
      match k, hk with
      | 0, hk => omega
      | k + 1, hk =>
        obtain ⟨h, a, b⟩ := full_ex h9 m hX k (g ||| 2 ^ x) h3 (put_sub hs h1) (by omega)
        exact ⟨h, a, sub_trans (sub_put g x) b⟩

/-- a round: not free, and free without any one of its things -/
structure Cir (n : Nat) (I : Nat → Prop) (c : Nat) : Prop where
  lt : c < 2 ^ n
  no : ¬ I c
  less : ∀ x, c.testBit x = true → I (c - 2 ^ x)

/-- what is not free has a round within -/
theorem cir_in {n : Nat} {I : Nat → Prop} (h9 : n ≤ 9) : ∀ (k c : Nat), c < 2 ^ n → ¬ I c → sz c = k → ∃ d, Cir n I d ∧ sub d c
  | k, c, hc, hI, hk => by
    by_cases hm : ∀ x, c.testBit x = true → I (c - 2 ^ x)
    · exact ⟨c, ⟨hc, hI, hm⟩, sub_rfl c⟩
    · have : ∃ x, c.testBit x = true ∧ ¬ I (c - 2 ^ x) := by
        apply Classical.byContradiction
        intro no
        exact hm fun x h1 => Classical.byContradiction fun h2 => no ⟨x, h1, h2⟩
      obtain ⟨x, h1, h2⟩ := this
      obtain ⟨_, b2, b3, b4, b5⟩ := bits_minus h9 hc h1
      have := sz_lt_of_ex (lt512 h9 hc) b5 h1 b4
      match k, hk with
      | 0, hk => omega
      | k + 1, hk =>
        obtain ⟨d, d1, d2⟩ := cir_in h9 (sz (c - 2 ^ x)) (c - 2 ^ x) b3 h2 rfl
        exact ⟨d, d1, sub_trans d2 b5⟩
  termination_by k => k

/-- a free lot and a thing that makes it not free: a round through the thing -/
theorem cir_at {n : Nat} {I : Nat → Prop} (h9 : n ≤ 9) (m : Mat n I) {g f : Nat} (hf : f < n) (hg : I g) (hn : ¬ I (g ||| 2 ^ f)) : ∃ c, Cir n I c ∧ sub c (g ||| 2 ^ f) ∧ c.testBit f = true := by
  obtain ⟨c, hc, hs⟩ := cir_in h9 _ _ (put_lt hf (m.lt g hg)) hn rfl
  refine ⟨c, hc, hs, ?_⟩
  cases h : c.testBit f
  · refine absurd (m.down g c hg (sub_iff.mpr fun i hi => ?_)) hc.no
    have := sub_iff.mp hs i hi
    rw [put_bit] at this
    rcases Bool.or_eq_true_iff.mp this with k | k
    · exact k
    · rw [← of_decide_eq_true k, h] at hi; cases hi
  · rfl

end PL
/-! a round through a thing of the one alone, without a thing of both -/
open PySem L2
namespace PL

theorem strong {n : Nat} {I : Nat → Prop} (h9 : n ≤ 9) (m : Mat n I) {C D e f : Nat} (hC : Cir n I C) (hD : Cir n I D) (eC : C.testBit e = true) (eD : D.testBit e = true) (fC : C.testBit f = true) (fD : D.testBit f = false) : ∃ E, Cir n I E ∧ E.testBit f = true ∧ E.testBit e = false ∧ sub E (C ||| D) := by
  have hen := lt_of_bit hC.lt eC
  have hfn := lt_of_bit hC.lt fC
  have hef : e ≠ f := fun h => by rw [h, fD] at eD; cases eD
  obtain ⟨X, X1, X2⟩ := code_of (fun i => (C.testBit i || D.testBit i) && (decide (i ≠ e) && decide (i ≠ f))) n
  have inX : ∀ i, i < n → (C.testBit i || D.testBit i) = true → i ≠ e → i ≠ f → X.testBit i = true := fun i hi h a b => by
    rw [X2, decide_eq_true hi, h, decide_eq_true a, decide_eq_true b]; rfl
  have ofX : ∀ i, X.testBit i = true → (C.testBit i || D.testBit i) = true ∧ i ≠ e ∧ i ≠ f := fun i h => by
    rw [X2] at h
    simp only [Bool.and_eq_true, decide_eq_true_eq] at h
    exact ⟨h.2.1, h.2.2.1, h.2.2.2⟩
  have Y1 := put_lt hen X1
  obtain ⟨cb, c2, _, c4, c5⟩ := bits_minus h9 hC.lt fC
  obtain ⟨db, d2, _, d4, d5⟩ := bits_minus h9 hD.lt eD
  have dX : sub (D - 2 ^ e) X := sub_iff.mpr fun i hi => by
    rw [db] at hi
    obtain ⟨h1, h2⟩ := Bool.and_eq_true_iff.mp hi
    exact inX i (lt_of_bit hD.lt h1) (by rw [h1, Bool.or_true]) (of_decide_eq_true h2) fun h => by rw [h, fD] at h1; cases h1
  have cY : sub (C - 2 ^ f) (X ||| 2 ^ e) := sub_iff.mpr fun i hi => by
    rw [cb] at hi
    obtain ⟨h1, h2⟩ := Bool.and_eq_true_iff.mp hi
    rw [put_bit]
    by_cases h : e = i
    · rw [decide_eq_true h, Bool.or_true]
    · rw [inX i (lt_of_bit hC.lt h1) (by rw [h1]; rfl) (Ne.symm h) (of_decide_eq_true h2)]; rfl
  obtain ⟨g, gF, gs⟩ := full_ex h9 m X1 _ _ (hD.less e eD) dX rfl
  have gY : Full n I (X ||| 2 ^ e) g := ⟨gF.free, sub_trans gF.inn (sub_put X e), fun x hx hg hI => by
    rw [put_bit] at hx
    rcases Bool.or_eq_true_iff.mp hx with h | h
    · exact gF.top x h hg hI
    · rw [← of_decide_eq_true h] at hI
      refine hD.no (m.down _ D hI ?_)
      have := put_mono e gs
      rw [d2] at this; exact this⟩
  obtain ⟨h, hF, hs⟩ := full_ex h9 m Y1 _ _ (hC.less f fC) cY rfl
  have le := gY.up m hF.free hF.inn
  have gf : g.testBit f = false := by
    cases k : g.testBit f
    · rfl
    · exact absurd rfl (ofX f (sub_iff.mp gF.inn f k)).2.2
  have ge : g.testBit e = false := by
    cases k : g.testBit e
    · rfl
    · exact absurd rfl (ofX e (sub_iff.mp gF.inn e k)).2.1
  have no : ¬ I (g ||| 2 ^ f) := fun hI => by
    have s := sz_put (by omega) (lt512 h9 (m.lt g gF.free)) gf
    obtain ⟨x, hx, x1, x2, x3⟩ := m.aug h _ hF.free hI (by omega)
    rw [put_bit] at x1
    rcases Bool.or_eq_true_iff.mp x1 with k | k
    · exact hF.top x (sub_iff.mp gY.inn x k) x2 x3
    · rw [← of_decide_eq_true k] at x3
      refine hC.no (m.down _ C x3 ?_)
      have := put_mono f hs
      rw [c2] at this; exact this
  obtain ⟨E, hE, Es, Ef⟩ := cir_at h9 m hfn gF.free no
  refine ⟨E, hE, Ef, ?_, sub_trans Es (put_sub (sub_iff.mpr fun i hi => ?_) ?_)⟩
  · cases k : E.testBit e
    · rfl
    · have := sub_iff.mp Es e k
      rw [put_bit, ge, decide_eq_false (Ne.symm hef)] at this; cases this
  · rw [Nat.testBit_or]; exact (ofX i (sub_iff.mp gF.inn i hi)).1
  · rw [Nat.testBit_or, fC]; rfl

end PL
/-! being tied goes on from thing to thing -/
open PySem L2
namespace PL

theorem cir_out {n : Nat} {I : Nat → Prop} (h9 : n ≤ 9) (m : Mat n I) {C E D : Nat} (hC : Cir n I C) (hE : Cir n I E) {e : Nat} (eC : C.testBit e = true) (eE : E.testBit e = false) (hs : sub E (C ||| D)) : ∃ y, E.testBit y = true ∧ C.testBit y = false ∧ D.testBit y = true := by
  apply Classical.byContradiction
  intro no
  obtain ⟨b, _⟩ := bits_minus h9 hC.lt eC
  refine hE.no (m.down _ E (hC.less e eC) (sub_iff.mpr fun i hi => ?_))
  rw [b]
  have hie : i ≠ e := fun h => by rw [h, eE] at hi; cases hi
  rw [decide_eq_true hie, Bool.and_true]
  cases hc : C.testBit i
  · have := sub_iff.mp hs i hi
    rw [Nat.testBit_or, hc, Bool.false_or] at this
    exact absurd ⟨i, hi, hc, this⟩ no
  · rfl

theorem tied {n : Nat} {I : Nat → Prop} (h9 : n ≤ 9) (m : Mat n I) {x w : Nat} : ∀ (k C D z : Nat), Cir n I C → Cir n I D → C.testBit x = true → D.testBit w = true → C.testBit z = true → D.testBit z = true → sz (C ||| D) = k → ∃ E, Cir n I E ∧ E.testBit x = true ∧ E.testBit w = true
  | k, C, D, z, hC, hD, xC, wD, zC, zD, hk => by
    cases xD : D.testBit x
    · cases wC : C.testBit w
      · obtain ⟨E1, c1, x1, e1, s1⟩ := strong h9 m hC hD zC zD xC xD
        obtain ⟨E2, c2, w2, e2, s2⟩ := strong h9 m hD hC zD zC wD wC
        rw [Nat.or_comm] at s2
        have u5 : C ||| D < 512 := lt512 h9 (Nat.or_lt_two_pow hC.lt hD.lt)
        obtain ⟨y, y1, y2, y3⟩ := cir_out h9 m hC c1 zC e1 s1
        obtain ⟨v, v1, v2, v3⟩ := cir_out h9 m hD c2 zD e2 (by rw [Nat.or_comm]; exact s2)
        have s3 : sub (C ||| E2) (C ||| D) := or_sub (sub_iff.mpr fun i hi => by rw [Nat.testBit_or, hi]; rfl) s2
        have s4 : sub (E1 ||| E2) (C ||| D) := or_sub s1 s2
        by_cases hl : sz (C ||| E2) < k
        · exact tied h9 m (sz (C ||| E2)) C E2 v hC c2 xC w2 v3 v1 rfl
        · have back := sub_of_sz u5 s3 (by omega)
          have yE : E2.testBit y = true := by
            have := sub_iff.mp back y (by rw [Nat.testBit_or, y3, Bool.or_true])
            rw [Nat.testBit_or, y2, Bool.false_or] at this; exact this
          have hl2 : sz (E1 ||| E2) < k := by
            rw [← hk]
            exact sz_lt_of_ex u5 s4 (x := z) (by rw [Nat.testBit_or, zC]; rfl) (by rw [Nat.testBit_or, e1, e2]; rfl)
          exact tied h9 m (sz (E1 ||| E2)) E1 E2 y c1 c2 x1 w2 y1 yE rfl
      · exact ⟨C, hC, xC, wC⟩
    · exact ⟨D, hD, xD, wD⟩
  termination_by k => k

end PL
/-! a lot that no round crosses -/
open PySem L2
namespace PL

theorem IsB.inI {n : Nat} {I : Nat → Prop} {B : List Nat} (k : IsB n I B) {b : Nat} (hb : b ∈ B) : I b := (k.fr b).mp (frB_ex.mpr ⟨b, hb, sub_rfl b⟩)

theorem IsB.top {n : Nat} {I : Nat → Prop} {B : List Nat} (h9 : n ≤ 9) (k : IsB n I B) {b x : Nat} (hb : b ∈ B) (hx : x < n) (hbx : b.testBit x = false) : ¬ I (b ||| 2 ^ x) := fun hI => by
  obtain ⟨e, he, hs⟩ := frB_ex.mp ((k.fr _).mpr hI)
  have := sz_mono_all hs
  rw [sz_put (by omega) (lt512 h9 (k.mat.lt b (k.inI hb))) hbx, k.eq b hb e he] at this
  omega

/-- no round has a thing in T and one outside: each base has in T as many things as its rank -/
theorem rk_part {n : Nat} {I : Nat → Prop} {B : List Nat} (h9 : n ≤ 9) (k : IsB n I B) {T b : Nat} (hb : b ∈ B) (hT : ∀ C x, Cir n I C → C.testBit x = true → T.testBit x = true → sub C T) : Rk B T (sz (b &&& T)) := by
  refine rk_of h9 k (k.mat.down b _ (k.inI hb) (and_sub_l b T)) (and_sub_r b T) fun x hx xT hbT hI => ?_
  rw [Nat.testBit_and, xT, Bool.and_true] at hbT
  obtain ⟨C, hC, Cs, Cx⟩ := cir_at h9 k.mat hx (k.inI hb) (k.top h9 hb hx hbT)
  have CT := hT C x hC Cx xT
  refine hC.no (k.mat.down _ C hI (sub_iff.mpr fun i hi => ?_))
  have := sub_iff.mp Cs i hi
  rw [put_bit] at this ⊢
  rw [Nat.testBit_and, sub_iff.mp CT i hi, Bool.and_true]; exact this

end PL
/-! the ranks of a part and of the others -/
open PySem L2
namespace PL

theorem not_bit : ∀ n ≤ 9, ∀ c < 2 ^ n, ∀ i < 9, (2 ^ n - 1 - c).testBit i = (decide (i < n) && !c.testBit i) := by decide +kernel

theorem sz_parts (b T U : Nat) (h : ∀ i < 9, b.testBit i = true → U.testBit i = !T.testBit i) : sz b = sz (b &&& T) + sz (b &&& U) := by
  unfold sz bl
  have key : ∀ xs : List Nat, (∀ i ∈ xs, i < 9) → (xs.filter fun i => b.testBit i).length = (xs.filter fun i => (b &&& T).testBit i).length + (xs.filter fun i => (b &&& U).testBit i).length := by
    intro xs
    induction xs with
    | nil => intro _; rfl
    | cons x xs ih =>
      intro hx
      have i := ih fun i hi => hx i (List.mem_cons_of_mem _ hi)
      have h9 := hx x (List.mem_cons_self ..)
      simp only [List.filter_cons, Nat.testBit_and] at i ⊢
      cases hb : b.testBit x
      · simpa using i
      · rw [h x h9 hb]
        cases T.testBit x <;> simp <;> omega
  exact key _ fun i hi => List.mem_range.mp hi

/-- the ranks of a lot that no round crosses, and of the others, make that of all things -/
theorem rk_sum {n : Nat} {I : Nat → Prop} {B : List Nat} (h9 : n ≤ 9) (k : IsB n I B) {T : Nat} (hTn : T < 2 ^ n) (hT : ∀ C x, Cir n I C → C.testBit x = true → T.testBit x = true → sub C T) : ∃ r s, Rk B T r ∧ Rk B (2 ^ n - 1 - T) s ∧ Rk B (2 ^ n - 1) (r + s) := by
  obtain ⟨b, hb⟩ := List.exists_mem_of_ne_nil B k.ne
  have nb := not_bit n h9 T hTn
  have lt := k.mat.lt b (k.inI hb)
  have all : ∀ e ∈ B, e &&& (2 ^ n - 1) = e := fun e he => by
    rw [Nat.and_two_pow_sub_one_eq_mod, Nat.mod_eq_of_lt (k.mat.lt e (k.inI he))]
  have split := sz_parts b T (2 ^ n - 1 - T) fun i hi h => by
    rw [nb i hi, decide_eq_true (lt_of_bit lt h), Bool.true_and]
  refine ⟨_, _, rk_part h9 k hb hT, rk_part h9 k (T := 2 ^ n - 1 - T) hb fun C x hC hx xU => sub_iff.mpr fun i hi => ?_, ⟨b, hb, by rw [all b hb]; exact split⟩, fun e he => by rw [all e he, k.eq e he b hb]; exact Nat.le_of_eq split⟩
  have hin := lt_of_bit hC.lt hi
  have hxn := lt_of_bit hC.lt hx
  rw [nb i (by omega), decide_eq_true hin, Bool.true_and]
  rw [nb x (by omega), decide_eq_true hxn, Bool.true_and] at xU
  cases h : T.testBit i
  · rfl
  · rw [sub_iff.mp (hT C i hC hi h) x hx] at xU; cases xU

end PL
namespace PL
open PySem PySem.Spec L2 VS
open PyProof.Rows hiding St

theorem hd_drawN {n : Nat} {β : Bag} {P : PyData → Bag → Prop} (hn : 0 < n) (h2 : n ≤ 1048576) (hb : GoodB β) (k : ∀ (r : Nat) (β' : Bag), r < n → GoodB β' → P (intN r) β') : sp_draw [bagD, intN n] β P :=
  ⟨(n : Int), rfl, by omega, by omega, hb, fun r β' h0 h1 hb' => by
    have : r = ((r.toNat : Nat) : Int) := by omega
    rw [this]
    exact k r.toNat β' (by omega) hb'⟩
def sp_pick : VSp := fun ds β P => ∃ xs : List PyData, ds = [bagD, .list xs] ∧ 0 < xs.length ∧ xs.length ≤ 1048576 ∧ GoodB β ∧ ∀ x ∈ xs, ∀ β', GoodB β' → P x β'
theorem hd_pick (ds : List PyData) (β : Bag) (Q : PyData → Bag → Prop) (hl : ds.length = 2) (h : sp_pick ds β Q) : Wk.D__law_pick sp_draw { nx := fun s => Q .none s.β, rt := Q } (initS 2 ds β) := by
  obtain ⟨xs, rfl, h1, h2, hb, k⟩ := h
  unfold Wk.D__law_pick
  refine ⟨rfl, hd_drawN h1 h2 hb fun r β' hr hb' => ⟨xs[r], ?_, k _ (List.getElem_mem hr) β' hb'⟩⟩
  rw [atI_nat, List.getElem?_eq_getElem hr]
theorem chain_any {t u w x : DE} {s : S} {i j k l : Int} {P : Bool → S → Prop} (ht : ∀ P : PyData → S → Prop, P (.int i) s → t s P) (hu : ∀ P : PyData → S → Prop, P (.int j) s → u s P) (hw : ∀ P : PyData → S → Prop, P (.int k) s → w s P) (hx : ∀ P : PyData → S → Prop, P (.int l) s → x s P)
    (h : ∀ b, P b s) : dChain3 dLt dLe dLt t u w x s P := by
  refine ht _ (hu _ ?_)
  show if decide (i < j) = true then _ else _
  split
  · refine hw _ ?_
    show if decide (j ≤ k) = true then _ else _
    split
    · exact hx _ (h _)
    · exact h _
  · exact h _
theorem chain_ex {t u w x : DE} {s : S} {i j k l : Int} {P : Bool → S → Prop} (ht : ∀ P : PyData → S → Prop, P (.int i) s → t s P) (hu : ∀ P : PyData → S → Prop, P (.int j) s → u s P) (hw : ∀ P : PyData → S → Prop, P (.int k) s → w s P) (hx : ∀ P : PyData → S → Prop, P (.int l) s → x s P)
    (h : ∀ b, (b = true → i < j ∧ j ≤ k ∧ k < l) → P b s) : dChain3 dLt dLe dLt t u w x s P := by
  refine ht _ (hu _ ?_)
  show if decide (i < j) = true then _ else _
  split
  · rename_i h1
    refine hw _ ?_
    show if decide (j ≤ k) = true then _ else _
    split
    · rename_i h2
      exact hx _ (h _ fun h3 => ⟨of_decide_eq_true h1, of_decide_eq_true h2, of_decide_eq_true h3⟩)
    · exact h _ fun z => nomatch z
  · exact h _ fun z => nomatch z
theorem ixb {n : Nat} (h : n < 10) : L2.atI ((List.range 10).map fun i => intN (2 ^ i)) (n : Int) = some (intN (2 ^ n)) := at_map _ h
theorem i62 {m : Nat} (h : m ≤ 1024) : -(2 ^ 62) ≤ (m : Int) ∧ (m : Int) < 2 ^ 62 := by omega
structure Some_ (n : Nat) (B : List Nat) : Prop where
  lt : ∀ b ∈ B, b < 2 ^ n
  few : B.length ≤ 2 ^ n
/-- well formed, and the bases of some free lots -/
structure Good (n : Nat) (B : List Nat) : Prop extends Some_ n B where
  ib : ∃ I, IsB n I B
def sp_core : VSp := fun ds β P => ∃ n : Nat, ds = [bagD, worldD, intN n] ∧ n ≤ 9 ∧ GoodB β ∧ ∀ (B : List Nat) (β' : Bag), Good n B → GoodB β' → P (.list (B.map intN)) β'
theorem filt_some {n : Nat} {B : List Nat} (p : Nat → Bool) (h : Some_ n B) : Some_ n (B.filter p) := ⟨fun b hb => h.lt b (List.mem_filter.mp hb).1, Nat.le_trans (List.length_filter_le _ _) h.few⟩
theorem range_some (n : Nat) : Some_ n (List.range (2 ^ n)) := ⟨fun b hb => List.mem_range.mp hb, by rw [List.length_range]; exact Nat.le_refl _⟩
theorem filterMap_if (B : List Nat) (p : Nat → Bool) : B.filterMap (fun c => if p c = true then some (intN c) else none) = (B.filter p).map intN := by
  induction B with
  | nil => rfl
  | cons c B ih =>
    rw [List.filterMap_cons, List.filter_cons]
    by_cases h : p c = true
    · simp [h, ih]
    · simp [h, ih]
end PL
namespace PL
open PySem PySem.Spec L2 VS
open PyProof.Rows hiding St

/-- the flags of the codes in L -/
abbrev mk (L : List Nat) : Nat → Bool := fun c => decide (c ∈ L)
theorem mk_nil : mk [] = fun _ => false := funext fun c => by simp [mk]
theorem item_ok {N c : Nat} {L : List Nat} {i : Int} (hi : i = (c : Int)) (hc : c < N) : ∃ n, L2.ixN (((List.range N).map fun c => PyData.bool (mk L c))).length i = some n ∧ (((List.range N).map fun c => PyData.bool (mk L c)).set n (.bool true)) = (List.range N).map fun d => PyData.bool (mk (L ++ [c]) d) := by
  refine ⟨c, by rw [hi]; exact ixN_nat (by rw [List.length_map, List.length_range]; exact hc), ?_⟩
  rw [flg_set _ hc]
  refine List.map_congr_left fun d _ => ?_
  congr 1
  unfold mk
  by_cases e : d = c
  · subst e; simp
  · simp [e]
theorem pow_and (i x : Nat) : ((((2 ^ i &&& x : Nat) : Int)) != 0) = x.testBit i := by
  have e : (2 ^ i &&& x = 0) ↔ x.testBit i = false := by
    constructor
    · intro h
      have := congrArg (fun n : Nat => n.testBit i) h
      simpa [Nat.testBit_and, Nat.testBit_two_pow_self] using this
    · intro h
      apply Nat.eq_of_testBit_eq
      intro j
      rw [Nat.testBit_and, Nat.testBit_two_pow, Nat.zero_testBit]
      by_cases q : i = j
      · subst q
        rw [h, Bool.and_false]
      · simp [q]
  cases h : x.testBit i
  · rw [e.mpr h]; rfl
  · have : ¬ (2 ^ i &&& x = 0) := fun q => by rw [e.mp q] at h; cases h
    have : ¬ (((2 ^ i &&& x : Nat) : Int) = 0) := by omega
    simpa using this
theorem bit_and3 (i lot b : Nat) : (Builtin.bitAnd (Builtin.bitAnd ((2 ^ i : Nat) : Int) (lot : Int)) (b : Int) != 0) = (lot.testBit i && b.testBit i) := by
  rw [bitAnd_nat, bitAnd_nat, Nat.and_assoc, pow_and, Nat.testBit_and]
theorem bit_and2 (i b : Nat) : (Builtin.bitAnd ((2 ^ i : Nat) : Int) (b : Int) != 0) = b.testBit i := by
  rw [bitAnd_nat, pow_and]
/-- the codes that a base is turned into -/
def wr (z way lot b : Nat) : List Nat :=
  if way = 0 then [b] else if way = 1 then [b + 2 ^ z] else
  if way < 6 then b :: ((List.range z).filter fun i => lot.testBit i && b.testBit i).map fun i => b + 2 ^ z - 2 ^ i
  else (b + 2 ^ z) :: ((List.range z).filter fun i => lot.testBit i && !b.testBit i).map fun i => b + 2 ^ i
theorem add_or {z b : Nat} (h : b < 2 ^ z) : b + 2 ^ z = b ||| 2 ^ z := by
  have := Nat.two_pow_add_eq_or_of_lt h 1
  rw [Nat.mul_one] at this
  rw [Nat.or_comm, Nat.add_comm, this]
theorem add_bit {z b i : Nat} (hz : z ≤ 9) (hb : b < 2 ^ z) (hi : i < z) (h : b.testBit i = false) : b + 2 ^ i = b ||| 2 ^ i := plus_all i (by omega) b (lt512 hz hb) h
theorem sub_or {z b i : Nat} (h9 : z ≤ 9) (hb : b < 2 ^ z) (h : b.testBit i = true) : b + 2 ^ z - 2 ^ i = (b - 2 ^ i) ||| 2 ^ z := by
  obtain ⟨_, _, h3, _⟩ := bits_minus h9 hb h
  rw [← add_or h3]
  have : 2 ^ i ≤ b := Nat.ge_two_pow_of_testBit h
  omega
theorem good_put {z way lot : Nat} {B B' : List Nat} (z8 : z ≤ 8) (k : Good z B) (hs : Some_ (z + 1) B') (hB : ∀ c, c ∈ B' ↔ c < 2 * 2 ^ z ∧ c ∈ B.flatMap (wr z way lot)) : Good (z + 1) B' := by
  refine ⟨hs, ?_⟩
  obtain ⟨I, k2⟩ := k.ib
  have pz := Nat.two_pow_pos z
  have lt : ∀ b ∈ B, b < 2 ^ z := k.lt
  have mem : ∀ c, c ∈ B' ↔ ∃ b ∈ B, c < 2 * 2 ^ z ∧ c ∈ wr z way lot b := fun c => by
    rw [hB, List.mem_flatMap]
    exact ⟨fun ⟨h1, b, h2, h3⟩ => ⟨b, h2, h1, h3⟩, fun ⟨b, h2, h1, h3⟩ => ⟨h1, b, h2, h3⟩⟩
  by_cases w0 : way = 0
  · have m0 : ∀ c, c ∈ B' ↔ c ∈ B := fun c => by
      rw [mem]
      simp only [show ∀ b, wr z way lot b = [b] from fun b => by unfold wr; rw [if_pos w0]]
      refine ⟨fun ⟨b, h1, _, h3⟩ => ?_, fun h => ⟨c, h, ?_, by simp⟩⟩
      · rw [List.mem_singleton] at h3
        exact h3 ▸ h1
      · have := lt c h; omega
    refine ⟨I, loose_mat k2.mat, ?_, fun c => ?_, fun b hb e he => k2.eq b ((m0 b).mp hb) e ((m0 e).mp he)⟩
    · obtain ⟨b, hb⟩ := List.exists_mem_of_ne_nil B k2.ne
      exact List.ne_nil_of_mem ((m0 b).mpr hb)
    · rw [← k2.fr, frB_ex, frB_ex]
      exact ⟨fun ⟨b, h1, h2⟩ => ⟨b, (m0 b).mp h1, h2⟩, fun ⟨b, h1, h2⟩ => ⟨b, (m0 b).mpr h1, h2⟩⟩
  by_cases w1 : way = 1
  · refine ⟨_, coB (lot := 0) (by omega) k2 fun c => ?_⟩
    rw [mem]
    simp only [show ∀ b, wr z way lot b = [b + 2 ^ z] from fun b => by unfold wr; rw [if_neg w0, if_pos w1]]
    constructor
    · rintro ⟨b, h1, _, h3⟩
      rw [List.mem_singleton] at h3
      exact ⟨b, h1, z, Nat.le_refl z, .inl rfl, no_bit (lt b h1), by rw [h3, add_or (lt b h1)]⟩
    · rintro ⟨b, h1, i, h2, h3, h4, h5⟩
      have : i = z := h3.resolve_right fun q => by simp at q
      subst this
      have hb := lt b h1
      exact ⟨b, h1, by rw [h5, ← add_or hb]; omega, by rw [h5, ← add_or hb]; simp⟩
  by_cases w6 : way < 6
  · refine ⟨_, putB (lot := lot) (by omega) k2 fun c => ?_⟩
    rw [mem]
    simp only [show ∀ b, wr z way lot b = b :: ((List.range z).filter fun i => lot.testBit i && b.testBit i).map fun i => b + 2 ^ z - 2 ^ i from fun b => by unfold wr; rw [if_neg w0, if_neg w1, if_pos w6]]
    constructor
    · rintro ⟨b, h1, _, h3⟩
      rcases List.mem_cons.mp h3 with h3 | h3
      · exact .inl (h3 ▸ h1)
      · obtain ⟨i, h4, h5⟩ := List.mem_map.mp h3
        rw [List.mem_filter, Bool.and_eq_true] at h4
        exact .inr ⟨b, h1, i, List.mem_range.mp h4.1, h4.2.1, h4.2.2, by rw [← h5, sub_or (by omega) (lt b h1) h4.2.2]⟩
    · rintro (h | ⟨b, h1, i, h2, h3, h4, h5⟩)
      · have := lt c h
        exact ⟨c, h, by omega, List.mem_cons_self ..⟩
      · have hb := lt b h1
        refine ⟨b, h1, ?_, List.mem_cons_of_mem _ (List.mem_map.mpr ⟨i, ?_, ?_⟩)⟩
        · rw [h5, ← sub_or (by omega) hb h4]
          exact Nat.lt_of_le_of_lt (Nat.sub_le _ _) (by omega)
        · rw [List.mem_filter, Bool.and_eq_true]
          exact ⟨List.mem_range.mpr h2, h3, h4⟩
        · rw [h5, sub_or (by omega) hb h4]
  · refine ⟨_, coB (lot := lot) (by omega) k2 fun c => ?_⟩
    rw [mem]
    simp only [show ∀ b, wr z way lot b = (b + 2 ^ z) :: ((List.range z).filter fun i => lot.testBit i && !b.testBit i).map fun i => b + 2 ^ i from fun b => by unfold wr; rw [if_neg w0, if_neg w1, if_neg w6]]
    constructor
    · rintro ⟨b, h1, _, h3⟩
      rcases List.mem_cons.mp h3 with h3 | h3
      · exact ⟨b, h1, z, Nat.le_refl z, .inl rfl, no_bit (lt b h1), by rw [h3, add_or (lt b h1)]⟩
      · obtain ⟨i, h4, h5⟩ := List.mem_map.mp h3
        rw [List.mem_filter, Bool.and_eq_true, Bool.not_eq_true'] at h4
        have hi := List.mem_range.mp h4.1
        exact ⟨b, h1, i, by omega, .inr h4.2.1, h4.2.2, by rw [← h5, add_bit (by omega) (lt b h1) hi h4.2.2]⟩
    · rintro ⟨b, h1, i, h2, h3, h4, h5⟩
      have hb := lt b h1
      by_cases e : i = z
      · subst e
        exact ⟨b, h1, by rw [h5, ← add_or hb]; omega, by rw [h5, ← add_or hb]; exact List.mem_cons_self ..⟩
      · have hi : i < z := by omega
        have hp := Nat.pow_lt_pow_right (a := 2) (by decide) hi
        refine ⟨b, h1, by rw [h5, ← add_bit (by omega) hb hi h4]; omega, List.mem_cons_of_mem _ (List.mem_map.mpr ⟨i, ?_, by rw [h5, add_bit (by omega) hb hi h4]⟩)⟩
        rw [List.mem_filter, Bool.and_eq_true, Bool.not_eq_true']
        exact ⟨List.mem_range.mpr hi, h3.resolve_left e, h4⟩
theorem filterMap_bits (z : Nat) (p : Nat → Bool) : (List.range z).filterMap (fun i => if p i = true then some (intN (2 ^ i)) else none) = ((List.range z).filter p).map fun i => intN (2 ^ i) := by
  generalize List.range z = l
  induction l with
  | nil => rfl
  | cons c B ih =>
    rw [List.filterMap_cons, List.filter_cons]
    by_cases h : p c = true
    · simp [h, ih]
    · simp [h, ih]
theorem two_pow_lt {i z : Nat} (h : i < z) : 2 ^ i < 2 ^ z := Nat.pow_lt_pow_right (by decide) h
def sp_put : VSp := fun ds β P => ∃ (z way lot : Nat) (B : List Nat), ds = [bitsD, .list (B.map intN), intN z, intN way, intN lot] ∧ z ≤ 8 ∧ Good z B ∧ ∀ B', Good (z + 1) B' → P (.list (B'.map intN)) β
end PL
namespace PL
open PySem PySem.Spec L2 VS
open PyProof.Rows hiding St

theorem range_at {k : Nat} {done rest : List Nat} {i : Nat} (e : List.range k = done ++ i :: rest) : i = done.length ∧ done.length < k := by
  have h1 : done.length < k := by
    have := congrArg List.length e
    rw [List.length_range, List.length_append, List.length_cons] at this
    omega
  have h2 := congrArg (fun l => l[done.length]?) e
  simp only [List.getElem?_range h1] at h2
  rw [List.getElem?_append_right (Nat.le_refl _), Nat.sub_self] at h2
  simp at h2
  exact ⟨h2.symm, h1⟩
def sp_piece : VSp := sp_core
/-! rings -/
theorem and_pow {i c : Nat} (h : ¬ ((2 ^ i &&& c : Nat) : Int) = 0) : 2 ^ i ≤ c := by
  refine Classical.byContradiction fun q => h ?_
  have : 2 ^ i &&& c = 0 := by
    apply Nat.eq_of_testBit_eq
    intro j
    rw [Nat.testBit_and, Nat.testBit_two_pow, Nat.zero_testBit]
    by_cases e : i = j
    · subst e
      rw [Nat.testBit_lt_two_pow (by omega)]
      simp
    · simp [e]
  rw [this]
  rfl
def sp_ring : VSp := fun ds β P => ∃ n : Nat, ds = [bagD, bitsD, intN n] ∧ 0 < n ∧ n ≤ 9 ∧ GoodB β ∧ ∀ (B : List Nat) (β' : Bag), Good n B → GoodB β' → P (.list (B.map intN)) β'
theorem filterMap_ring (z : Nat) (p : Nat → Bool) (f : Nat → Nat) : (List.range z).filterMap (fun i => if p i = true then some (intN (f i)) else none) = (((List.range z).filter p).map f).map intN := by
  generalize List.range z = l
  induction l with
  | nil => rfl
  | cons c B ih =>
    rw [List.filterMap_cons, List.filter_cons]
    by_cases h : p c = true
    · simp [h, ih]
    · simp [h, ih]
theorem all_out {n : Nat} (h9 : n ≤ 9) {c S : Nat} (hc : c < 2 ^ n) : c &&& (S &&& (2 ^ n - 1 - c)) = 0 := by
  apply Nat.eq_of_testBit_eq
  intro i
  rw [Nat.testBit_and, Nat.testBit_and, Nat.zero_testBit]
  by_cases hi : i < 9
  · rw [not_bit n h9 c hc i hi]
    cases c.testBit i <;> simp
  · rw [bit_high (k := 9) (lt512 h9 hc) (by omega)]
    simp
theorem good_ring {n c su : Nat} (n9 : n ≤ 9) (hc : c < 2 ^ n) (c0 : c ≠ 0) (hsu : su < 2 ^ n) : Good n (((List.range n).filter fun i => (Builtin.bitAnd ((2 ^ i : Nat) : Int) (c : Int) != 0)).map fun i => (c - 2 ^ i) ||| (su &&& (2 ^ n - 1 - c))) := by
  refine ⟨⟨fun b hb => ?_, ?_⟩, _, ringB (R := c) (S := su &&& (2 ^ n - 1 - c)) n9 hc (Nat.lt_of_le_of_lt Nat.and_le_left hsu) c0 (all_out n9 hc) fun x => ?_⟩
  · obtain ⟨i, _, rfl⟩ := List.mem_map.mp hb
    exact Nat.or_lt_two_pow (Nat.lt_of_le_of_lt (Nat.sub_le _ _) hc) (Nat.lt_of_le_of_lt Nat.and_le_left hsu)
  · rw [List.length_map]
    refine Nat.le_trans (List.length_filter_le _ _) ?_
    rw [List.length_range]
    exact Nat.le_of_lt Nat.lt_two_pow_self
  · rw [List.mem_map]
    constructor
    · rintro ⟨i, h1, h2⟩
      rw [List.mem_filter, bit_and2] at h1
      exact ⟨i, h1.2, h2.symm⟩
    · rintro ⟨i, h1, h2⟩
      exact ⟨i, by rw [List.mem_filter, bit_and2]; exact ⟨List.mem_range.mpr (lt_of_bit hc h1), h1⟩, h2.symm⟩
theorem ring_less {n c i : Nat} (n9 : n ≤ 9) (hc : c < 2 ^ n) (h : 1 < ((List.range n).filter fun i => (Builtin.bitAnd ((2 ^ i : Nat) : Int) (c : Int) != 0)).length) (hi : c.testBit i = true) : c - 2 ^ i ≠ 0 := by
  intro h0
  obtain ⟨hb, _⟩ := bits_minus n9 hc hi
  have := nodup_le ((List.range n).filter fun i => (Builtin.bitAnd ((2 ^ i : Nat) : Int) (c : Int) != 0)) [i] (List.Pairwise.filter _ List.nodup_range) fun j hj => by
    rw [List.mem_filter, bit_and2] at hj
    have := hb j
    rw [h0, Nat.zero_testBit, hj.2, Bool.true_and] at this
    have : ¬ j ≠ i := of_decide_eq_false this.symm
    rw [List.mem_singleton]
    omega
  rw [List.length_singleton] at this
  omega
end PL
namespace PL
open PySem PySem.Spec L2 VS
open PyProof.Rows hiding St

def sp_bases : VSp := sp_core
theorem mul_lt {c b m a : Nat} (hc : c < 2 ^ m) (hb : b < 2 ^ a) : c * 2 ^ a + b < 2 ^ (a + m) := by
  rw [Nat.add_comm a m, Nat.pow_add]
  calc c * 2 ^ a + b < c * 2 ^ a + 2 ^ a := by omega
    _ = (c + 1) * 2 ^ a := by rw [Nat.add_mul, Nat.one_mul]
    _ ≤ 2 ^ m * 2 ^ a := Nat.mul_le_mul_right _ hc
theorem sum_erase : ∀ (R : List Nat) (i : Nat) (h : i < R.length), R.sum = R[i] + (R.eraseIdx i).sum
  | x :: R, 0, _ => by simp
  | x :: R, i + 1, h => by
    have := sum_erase R i (by simpa using h)
    simp only [List.sum_cons, List.eraseIdx_cons_succ, List.getElem_cons_succ]
    omega
theorem erase_map {β : Type} (f : Nat → β) : ∀ (R : List Nat) (i : Nat), (R.eraseIdx i).map f = (R.map f).eraseIdx i
  | [], _ => rfl
  | _ :: _, 0 => rfl
  | x :: R, i + 1 => by simp [erase_map f R i]
theorem sum_bits : ∀ n : Nat, ((List.range n).map fun i => 2 ^ i).sum = 2 ^ n - 1
  | 0 => rfl
  | n + 1 => by
    have pp : 0 < 2 ^ n := Nat.pow_pos (by decide)
    rw [List.range_succ, List.map_append, List.sum_append, sum_bits n, Nat.pow_succ]
    simp only [List.map_cons, List.map_nil, List.sum_cons, List.sum_nil]
    omega
theorem eqv_emptyN (R : List Nat) : (!PyData.eqv (.list (R.map intN)) (.list [])) = !R.isEmpty := by
  cases R <;> simp [PyData.eqv, PyData.eqvAll]
theorem shaped_nats (R : List Nat) : SeqAt.shaped (.list (R.map intN)) = true := by
  have := shaped_ints (castN R)
  unfold castN at this
  rw [List.map_map] at this
  exact this
/-- x taken out of R at i and put behind L -/
theorem perm_pop {L R : List Nat} {i : Nat} (hi : i < R.length) : ((L ++ [R[i]]) ++ R.eraseIdx i).Perm (L ++ R) := by
  rw [List.append_assoc]
  refine List.Perm.append_left L ?_
  rw [List.singleton_append]
  have : R = R.take i ++ R[i] :: R.drop (i + 1) := by
    rw [← List.drop_eq_getElem_cons hi, List.take_append_drop]
  rw [List.eraseIdx_eq_take_drop_succ]
  exact List.perm_middle.symm.trans (by rw [← this])
/-- what the names of the bits of e put together -/
def NameOf (L : List Nat) (e v : Nat) : Prop := ∀ y, v.testBit y = true ↔ ∃ j, e.testBit j = true ∧ L[j]? = some y
theorem name_old {L : List Nat} {e v x : Nat} (h : NameOf L e v) (he : e < 2 ^ L.length) : NameOf (L ++ [x]) e v := fun y => by
  rw [h]
  refine exists_congr fun j => and_congr_right fun hj => ?_
  rw [List.getElem?_append_left (lt_of_bit he hj)]
theorem name_new {n : Nat} {L : List Nat} {e v x : Nat} (n9 : n ≤ 9) (h : NameOf L e v) (he : e < 2 ^ L.length) (hv : v < 2 ^ n) (hx : x < n) (nx : x ∉ L) : NameOf (L ++ [x]) (e + 2 ^ L.length) (v + 2 ^ x) ∧ v + 2 ^ x < 2 ^ n := by
  have vx : v.testBit x = false := by
    cases q : v.testBit x with
    | false => rfl
    | true =>
      obtain ⟨j, _, h2⟩ := (h x).mp q
      exact absurd (List.mem_of_getElem? h2) nx
  rw [add_bit (z := n) n9 hv hx vx, add_or he]
  refine ⟨fun y => ?_, put_lt hx hv⟩
  rw [put_bit, Bool.or_eq_true, h, decide_eq_true_eq]
  constructor
  · rintro (⟨j, h1, h2⟩ | rfl)
    · exact ⟨j, by rw [put_bit, h1]; rfl, by rw [List.getElem?_append_left (lt_of_bit he h1)]; exact h2⟩
    · exact ⟨L.length, by rw [put_bit]; simp, by rw [List.getElem?_append_right (Nat.le_refl _), Nat.sub_self]; rfl⟩
  · rintro ⟨j, h1, h2⟩
    rw [put_bit, Bool.or_eq_true, decide_eq_true_eq] at h1
    rcases h1 with h1 | rfl
    · rw [List.getElem?_append_left (lt_of_bit he h1)] at h2
      exact .inl ⟨j, h1, h2⟩
    · rw [List.getElem?_append_right (Nat.le_refl _), Nat.sub_self] at h2
      exact .inr (by simpa using h2)
structure Names (n : Nat) (L : List Nat) : Prop where
  len : L.length = n
  nodup : L.Nodup
  lt : ∀ x ∈ L, x < n
theorem names_of {n : Nat} {L : List Nat} (h : L.Perm (List.range n)) : Names n L :=
  ⟨by rw [h.length_eq, List.length_range], h.nodup_iff.mpr List.nodup_range, fun x hx => List.mem_range.mp (h.mem_iff.mp hx)⟩
theorem Names.mem {n : Nat} {L : List Nat} (h : Names n L) {y : Nat} (hy : y < n) : y ∈ L := by
  apply Classical.byContradiction
  intro q
  have := nodup_le (y :: L) (List.range n) (List.nodup_cons.mpr ⟨q, h.nodup⟩) fun x hx => by
    rcases List.mem_cons.mp hx with rfl | hx
    · exact List.mem_range.mpr hy
    · exact List.mem_range.mpr (h.lt x hx)
  rw [List.length_cons, h.len, List.length_range] at this
  omega
theorem Names.ren {n : Nat} {L : List Nat} (h : Names n L) : Ren n (fun i => L.getD i 0) (fun y => L.idxOf y) := by
  have at_ : ∀ i (hi : i < n), L.getD i 0 = L[i]'(by rw [h.len]; exact hi) := fun i hi => by
    rw [List.getD_eq_getElem?_getD, List.getElem?_eq_getElem (by rw [h.len]; exact hi)]
    rfl
  refine ⟨fun i hi => ?_, fun y hy => ?_, fun y hy => ?_, fun i hi => ?_⟩
  · show L.getD i 0 < n
    rw [at_ i hi]
    exact h.lt _ (List.getElem_mem _)
  · show L.idxOf y < n
    have := List.idxOf_lt_length_of_mem (h.mem hy)
    rw [h.len] at this
    exact this
  · have hl := List.idxOf_lt_length_of_mem (h.mem hy)
    show L.getD (L.idxOf y) 0 = y
    rw [at_ _ (by rw [← h.len]; exact hl)]
    exact List.getElem_idxOf hl
  · show L.idxOf (L.getD i 0) = i
    rw [at_ i hi]
    exact h.nodup.idxOf_getElem i _
theorem named_of {n : Nat} {L : List Nat} {e v : Nat} (h : Names n L) (he : e < 2 ^ n) (hv : v < 2 ^ n) (k : NameOf L e v) : named n (fun i => L.getD i 0) e v := by
  refine ⟨he, hv, fun i hi => ?_⟩
  have hl : i < L.length := by rw [h.len]; exact hi
  have ei : L[i]? = some (L.getD i 0) := by
    rw [List.getD_eq_getElem?_getD, List.getElem?_eq_getElem hl]
    rfl
  rw [Bool.eq_iff_iff, k]
  constructor
  · intro q
    exact ⟨i, q, ei⟩
  · rintro ⟨j, h1, h2⟩
    have hj := lt_of_bit he h1
    have e2 : L.getD j 0 = L.getD i 0 := by
      rw [List.getD_eq_getElem?_getD, h2]
      rfl
    have q : L.idxOf (L.getD j 0) = j := h.ren.qp j hj
    have q2 : L.idxOf (L.getD i 0) = i := h.ren.qp i hi
    rw [e2, q2] at q
    rw [q]
    exact h1
theorem named_uniq {n : Nat} {p q : Nat → Nat} (n9 : n ≤ 9) (r : Ren n p q) {e c d : Nat} (h : named n p e c) (k : named n p e d) : c = d := by
  refine bl_inj (lt512 n9 h.2.1) (lt512 n9 k.2.1) fun y _ => ?_
  by_cases hy : y < n
  · rw [← r.pq y hy, ← h.2.2 _ (r.ql y hy), ← k.2.2 _ (r.ql y hy)]
  · rw [bit_high h.2.1 (by omega), bit_high k.2.1 (by omega)]
theorem good_ren {n : Nat} {L B V : List Nat} (n9 : n ≤ 9) (h : Names n L) (hB : Good n B) (hV : ∀ e < 2 ^ n, V.getD e 0 < 2 ^ n ∧ NameOf L e (V.getD e 0)) : Good n (B.map fun b => V.getD b 0) := by
  refine ⟨⟨fun x hx => ?_, by rw [List.length_map]; exact hB.few⟩, ?_⟩
  · obtain ⟨b, hb, rfl⟩ := List.mem_map.mp hx
    exact (hV b (hB.lt b hb)).1
  · obtain ⟨I, k⟩ := hB.ib
    have nm : ∀ b ∈ B, named n (fun i => L.getD i 0) b (V.getD b 0) := fun b hb => named_of h (hB.lt b hb) (hV b (hB.lt b hb)).1 (hV b (hB.lt b hb)).2
    refine ⟨_, renB n9 h.ren k (fun c => ?_) fun b hb => ⟨_, nm b hb⟩⟩
    rw [List.mem_map]
    constructor
    · rintro ⟨b, hb, rfl⟩
      exact ⟨b, hb, nm b hb⟩
    · rintro ⟨b, hb, q⟩
      exact ⟨b, hb, named_uniq n9 h.ren (nm b hb) q⟩
theorem good_zero : Good 0 [0] := by
  refine ⟨⟨by simp, by simp⟩, _, pavB (n := 0) (r := 0) (Bs := []) (by omega) ⟨Nat.le_refl _, by simp, by simp, by simp⟩ fun c => ?_⟩
  rw [List.mem_singleton]
  constructor
  · rintro rfl
    exact ⟨by decide, sz_zero, by simp⟩
  · rintro ⟨h, _⟩
    have h : c < 1 := h
    omega
end PL
namespace PL
open PySem PySem.Spec L2 VS
open PyProof.Rows hiding St

/-! ### how long a text of data is -/
def total (ts : List Str) : Nat := (ts.map fun t => t.length + 2).sum
theorem textFrom_up : ∀ (ts : List Str) (k : Nat) (acc : Str), (textFrom k acc ts).length ≤ acc.length + total ts
  | [], k, acc => by show acc.length ≤ _; simp [total]
  | t :: r, k, acc => by
    have h := textFrom_up r (k + 1) (acc ++ (if k > 0 then ", " else "" : String) ++ t)
    have e : (acc ++ (if k > 0 then ", " else "" : String) ++ t).length ≤ acc.length + 2 + t.length := by
      rw [strLen_append, strLen_append]
      split
      · exact Nat.le_refl _
      · show acc.length + 0 + t.length ≤ _; omega
    have e2 : total (t :: r) = t.length + 2 + total r := by simp [total]
    have e3 : textFrom k acc (t :: r) = textFrom (k + 1) (acc ++ (if k > 0 then ", " else "" : String) ++ t) r := rfl
    rw [e3, e2]
    omega
theorem join_up : ∀ ts : List Str, (Str.join ", " ts).length ≤ total ts
  | [] => Nat.zero_le _
  | [x] => by show x.length ≤ _; simp [total]
  | x :: y :: r => by
    have ih := join_up (y :: r)
    show (x ++ ", " ++ Str.join ", " (y :: r)).length ≤ _
    rw [strLen_append, strLen_append]
    have e2 : ((", " : String) : Str).length = 2 := rfl
    have e : total (x :: y :: r) = x.length + 2 + total (y :: r) := by simp [total]
    omega
theorem eqv_str (x : Str) : PyData.eqv (.str x) (.str x) = true := by
  simp [PyData.eqv]
theorem ok_app {x y : Str} (hx : PyData.strOk x = true) (hy : PyData.strOk y = true) : PyData.strOk (x ++ y) = true := by
  unfold PyData.strOk at *
  show (x.cps ++ y.cps).all _ = true
  rw [Array.all_append, hx, hy]
  rfl
theorem textFrom_ok : ∀ (ts : List Str) (k : Nat) (acc : Str), PyData.strOk acc = true → (∀ t ∈ ts, PyData.strOk t = true) → PyData.strOk (textFrom k acc ts) = true
  | [], k, acc, h, _ => h
  | t :: r, k, acc, h, ht => textFrom_ok r (k + 1) _ (ok_app (ok_app h (by split <;> decide +kernel)) (ht t (List.mem_cons_self ..))) fun u hu => ht u (List.mem_cons_of_mem _ hu)
theorem join_ok : ∀ ts : List Str, (∀ t ∈ ts, PyData.strOk t = true) → PyData.strOk (Str.join ", " ts) = true
  | [], _ => by decide +kernel
  | [x], h => h x (List.mem_cons_self ..)
  | x :: y :: r, h => by
    show PyData.strOk (x ++ ", " ++ Str.join ", " (y :: r)) = true
    exact ok_app (ok_app (h x (List.mem_cons_self ..)) (by decide +kernel)) (join_ok (y :: r) fun t ht => h t (List.mem_cons_of_mem _ ht))
theorem bl_ok (c : Nat) : (bl c).length ≤ 9 ∧ ∀ y ∈ bl c, y < 10 := ⟨bl_len c, fun y hy => by have := (mem_bl.mp hy).1; omega⟩
def LotsOk (L : List (List Nat)) : Prop := ∀ l ∈ L, l.length ≤ 9 ∧ ∀ y ∈ l, y < 10

def okI (i : Int) : Bool := decide (i.natAbs < 10 ^ 410)
def wI (i : Int) : Nat := if i.natAbs < 600 then 30 else 420
/-- a sign that a text shows as it is -/
def safeC (c : Nat) : Bool := decide (32 ≤ c) && decide (c < 127) && c != 39 && c != 34 && c != 92
def okS (x : Str) : Bool := x.cps.all safeC && decide (x.length ≤ 598)
theorem safe_char : (List.range 128).all (fun c => !safeC c || (Builtin.Str.reprChar 39 c == [c] && Builtin.Str.reprChar 34 c == [c])) = true := by decide +kernel
theorem safe_repr {q c : Nat} (hq : q = 39 ∨ q = 34) (h : safeC c = true) : Builtin.Str.reprChar q c = [c] := by
  have hc : c < 127 := by
    unfold safeC at h
    simp only [Bool.and_eq_true, decide_eq_true_eq] at h
    omega
  have := List.all_eq_true.mp safe_char c (List.mem_range.mpr (by omega))
  rw [h, Bool.not_true, Bool.false_or, Bool.and_eq_true, beq_iff_eq, beq_iff_eq] at this
  rcases hq with rfl | rfl
  · exact this.1
  · exact this.2
theorem foldl_safe {q : Nat} (hq : q = 39 ∨ q = 34) : ∀ (l : List Nat) (acc : Array Nat), (∀ c ∈ l, safeC c = true) → l.foldl (fun out c => out ++ (Builtin.Str.reprChar q c).toArray) acc = acc ++ l.toArray
  | [], acc, _ => by simp
  | c :: l, acc, h => by
    rw [List.foldl_cons, foldl_safe hq l _ fun d hd => h d (List.mem_cons_of_mem _ hd), safe_repr hq (h c (List.mem_cons_self ..))]
    simp
theorem repr_safe {x : Str} (h : x.cps.all safeC = true) : reprText x = ⟨(#[reprQuote x] ++ x.cps).push (reprQuote x)⟩ := by
  have hq : reprQuote x = 39 ∨ reprQuote x = 34 := by
    unfold reprQuote
    split
    · exact .inr rfl
    · exact .inl rfl
  have h2 : ∀ c ∈ x.cps.toList, safeC c = true := by
    rw [← Array.all_toList, List.all_eq_true] at h
    exact h
  unfold reprText
  rw [← Array.foldl_toList, foldl_safe hq _ _ h2]
theorem okS_up {x : Str} (h : okS x = true) : (reprText x).length ≤ 600 ∧ PyData.strOk (reprText x) = true ∧ PyData.strOk x = true := by
  unfold okS at h
  rw [Bool.and_eq_true, decide_eq_true_eq] at h
  have hq : reprQuote x < 128 := by
    unfold reprQuote
    split <;> decide
  have ok : x.cps.all (· < 0x110000) = true := by
    have h1 := h.1
    rw [← Array.all_toList, List.all_eq_true] at h1 ⊢
    intro c hc
    have := h1 c hc
    unfold safeC at this
    simp only [Bool.and_eq_true, decide_eq_true_eq] at this
    simp
    omega
  rw [repr_safe h.1]
  refine ⟨?_, ?_, ok⟩
  · show ((#[reprQuote x] ++ x.cps).push (reprQuote x)).size ≤ 600
    have : x.cps.size ≤ 598 := h.2
    rw [Array.size_push, Array.size_append]
    show 1 + x.cps.size + 1 ≤ 600
    omega
  · show ((#[reprQuote x] ++ x.cps).push (reprQuote x)).all (· < 0x110000) = true
    rw [Array.all_push, Array.all_append, ok]
    simp
    omega
theorem rep_all {p : Nat → Bool} {a : Array Nat} (h : a.all p = true) : ∀ (k : Nat) (acc : Array Nat), acc.all p = true → ((List.replicate k a).foldl (· ++ ·) acc).all p = true ∧ ((List.replicate k a).foldl (· ++ ·) acc).size = acc.size + k * a.size
  | 0, acc, ha => ⟨ha, by simp⟩
  | k + 1, acc, ha => by
    obtain ⟨h1, h2⟩ := rep_all h k (acc ++ a) (by rw [Array.all_append, ha, h]; rfl)
    rw [List.replicate_succ, List.foldl_cons]
    refine ⟨h1, ?_⟩
    rw [h2, Array.size_append, Nat.succ_mul]
    omega
theorem okS_mul {x : Str} {n : Int} (h : okS x = true) (hn : n.toNat * x.length ≤ 598) : okS (Txt.mul x n) = true := by
  have h0 := h
  unfold okS at h
  rw [Bool.and_eq_true, decide_eq_true_eq] at h
  unfold Txt.mul
  split
  · decide +kernel
  · split
    · exact h0
    · obtain ⟨h1, h2⟩ := rep_all h.1 n.toNat #[] (by simp)
      unfold okS
      rw [Bool.and_eq_true, decide_eq_true_eq]
      refine ⟨h1, ?_⟩
      show ((List.replicate n.toNat x.cps).foldl (· ++ ·) #[]).size ≤ 598
      rw [h2]
      show 0 + n.toNat * x.length ≤ 598
      omega
mutual
/-- an upper bound of a datum's text, and what such data are -/
def wt : PyData → Nat
  | .none => 4
  | .bool _ => 5
  | .int i => wI i
  | .str _ => 600
  | .list xs => 2 + wtAll xs
  | .tuple xs => 3 + wtAll xs
  | .dict kvs => 2 + wtKv kvs
def wtAll : List PyData → Nat
  | [] => 0
  | x :: xs => wt x + 2 + wtAll xs
def wtKv : List (PyData × PyData) → Nat
  | [] => 0
  | (k, v) :: r => wt k + wt v + 4 + wtKv r
end
mutual
def sm : PyData → Bool
  | .none => true
  | .bool _ => true
  | .int i => okI i
  | .str x => okS x
  | .list xs => smAll xs
  | .tuple xs => smAll xs
  | .dict kvs => smKv kvs
def smAll : List PyData → Bool
  | [] => true
  | x :: xs => sm x && smAll xs
def smKv : List (PyData × PyData) → Bool
  | [] => true
  | (k, v) :: r => (sm k && sm v) && smKv r
end
theorem cps_int (i : Int) : ∃ pre : List Nat, (pre = [] ∨ pre = [45]) ∧ (PyData.shown (.int i)).cps.toList = pre ++ (Nat.toDigits 10 i.natAbs).map Char.toNat := by
  cases i with
  | ofNat m => exact ⟨[], .inl rfl, PySem.W.KIN.signs_num m⟩
  | negSucc m =>
    refine ⟨[45], .inr rfl, ?_⟩
    show (PySem.Str.ofString ("-" ++ Nat.repr (m + 1))).cps.toList = _
    rw [signs_ofString, String.toList_append, Nat.toList_repr, List.map_append]
    rfl
theorem int_text {i : Int} {k : Nat} (hk : 0 < k) (h : i.natAbs < 10 ^ k) : (PyData.shown (.int i)).length ≤ k + 1 ∧ PyData.strOk (PyData.shown (.int i)) = true := by
  obtain ⟨pre, hp, e⟩ := cps_int i
  have hl := (Nat.length_toDigits_le_iff (n := i.natAbs) (b := 10) (by decide) hk).mpr h
  constructor
  · show (PyData.shown (.int i)).cps.size ≤ _
    rw [← Array.length_toList, e, List.length_append, List.length_map]
    rcases hp with rfl | rfl
    · simp only [List.length_nil]; omega
    · simp only [List.length_cons, List.length_nil]; omega
  · unfold PyData.strOk
    rw [← Array.all_toList, e, List.all_append, Bool.and_eq_true]
    refine ⟨?_, ?_⟩
    · rcases hp with rfl | rfl <;> decide +kernel
    · rw [List.all_eq_true]
      intro c hc
      obtain ⟨ch, hch, rfl⟩ := List.mem_map.mp hc
      have hd := Nat.isDigit_of_mem_toDigits (by decide) (by decide) hch
      unfold Char.isDigit at hd
      rw [Bool.and_eq_true, decide_eq_true_eq, decide_eq_true_eq] at hd
      have h1 : ch.toNat ≤ 57 := hd.2
      simp
      omega
theorem big_bits : (10 : Nat) ^ 410 ≤ 2 ^ 1919 := by decide +kernel
theorem int_up {i : Int} (h : okI i = true) : ((PyData.shown (.int i)).length ≤ wI i ∧ PyData.strOk (PyData.shown (.int i)) = true) ∧ i.natAbs.log2 < 1920 := by
  have h := of_decide_eq_true h
  have b := int_text (by decide) h
  refine ⟨⟨?_, b.2⟩, ?_⟩
  · unfold wI
    split
    · have := (int_text (k := 3) (by decide) (show i.natAbs < 10 ^ 3 by omega)).1
      omega
    · omega
  · rcases Nat.eq_zero_or_pos i.natAbs with z | z
    · rw [z]; decide
    · exact (Nat.log2_lt (by omega)).mpr (Nat.lt_of_lt_of_le h (Nat.le_trans big_bits (Nat.pow_le_pow_right (by decide) (by decide))))
theorem ok_sm {i : Int} (h : i.natAbs < 600) : okI i = true := decide_eq_true (Nat.lt_of_lt_of_le h (by decide +kernel))
theorem wI_small {i : Int} (h : i.natAbs < 600) : wI i = 30 := if_pos h
theorem wI_le (i : Int) : wI i ≤ 420 := by unfold wI; split <;> omega
theorem txt_up {x : Str} (h : okS x = true) : (PyData.shown (.str x)).length ≤ 600 ∧ PyData.strOk (PyData.shown (.str x)) = true ∧ PyData.strOk x = true := okS_up h
mutual
theorem shown_up : ∀ d : PyData, sm d = true → d.shown.length ≤ wt d ∧ PyData.strOk d.shown = true ∧ d.showable = true
  | .none, _ => by refine ⟨?_, ?_, rfl⟩ <;> (simp only [PyData.shown, wt]; decide +kernel)
  | .bool b, _ => by cases b <;> (refine ⟨?_, ?_, rfl⟩ <;> (simp only [PyData.shown, wt]; decide +kernel))
  | .int i, h => by
    have h : okI i = true := h
    obtain ⟨⟨h1, h2⟩, h3⟩ := int_up h
    exact ⟨h1, h2, decide_eq_true h3⟩
  | .str x, h => by
    have h : okS x = true := h
    obtain ⟨h1, h2, _⟩ := txt_up h
    exact ⟨h1, h2, rfl⟩
  | .list xs, h => by
    have h : smAll xs = true := h
    obtain ⟨i, i2, i3⟩ := shownAll_up xs h
    refine ⟨?_, ?_, by simpa [PyData.showable] using i3⟩
    · simp only [PyData.shown, wt]
      have hX : (listText (PyData.shownAll xs)).length = (textFrom 0 "[" (PyData.shownAll xs)).length + 1 := by
        unfold listText
        rw [strLen_append]
        rfl
      have := textFrom_up (PyData.shownAll xs) 0 "["
      have e : ((("[" : String)) : Str).length = 1 := rfl
      omega
    · simp only [PyData.shown]
      unfold listText
      exact ok_app (textFrom_ok _ _ _ (by decide +kernel) i2) (by decide +kernel)
  | .tuple xs, h => by
    have h : smAll xs = true := h
    obtain ⟨i, i2, i3⟩ := shownAll_up xs h
    refine ⟨?_, ?_, by simpa [PyData.showable] using i3⟩
    · simp only [PyData.shown, wt]
      have := join_up (PyData.shownAll xs)
      unfold tupleText
      rw [strLen_append, strLen_append]
      have e : ((("(" : String)) : Str).length = 1 := rfl
      have e2 : (((if ((PyData.shownAll xs).length == 1) = true then ",)" else ")" : String)) : Str).length ≤ 2 := by split <;> decide
      omega
    · simp only [PyData.shown]
      unfold tupleText
      exact ok_app (ok_app (by decide +kernel) (join_ok _ i2)) (by split <;> decide +kernel)
  | .dict kvs, h => by
    have h : smKv kvs = true := h
    obtain ⟨i, i2, i3⟩ := shownKv_up kvs h
    refine ⟨?_, ?_, by simpa [PyData.showable] using i3⟩
    · simp only [PyData.shown, wt]
      have := join_up (PyData.shownKv kvs)
      unfold dictText
      rw [strLen_append, strLen_append]
      have e : ((("{" : String)) : Str).length = 1 := rfl
      have e2 : ((("}" : String)) : Str).length = 1 := rfl
      omega
    · simp only [PyData.shown]
      unfold dictText
      exact ok_app (ok_app (by decide +kernel) (join_ok _ i2)) (by decide +kernel)
theorem shownAll_up : ∀ xs : List PyData, smAll xs = true → total (PyData.shownAll xs) ≤ wtAll xs ∧ (∀ t ∈ PyData.shownAll xs, PyData.strOk t = true) ∧ PyData.showableAll xs = true
  | [], _ => ⟨by simp [PyData.shownAll, total, wtAll], by simp [PyData.shownAll], rfl⟩
  | x :: xs, h => by
    have h : (sm x && smAll xs) = true := h
    obtain ⟨ha, hb⟩ := Bool.and_eq_true_iff.mp h
    obtain ⟨h1, h2, h3⟩ := shown_up x ha
    obtain ⟨k1, k2, k3⟩ := shownAll_up xs hb
    have e : total (PyData.shownAll (x :: xs)) = (PyData.shown x).length + 2 + total (PyData.shownAll xs) := by simp [total, PyData.shownAll]
    refine ⟨?_, fun t ht => ?_, by simp [PyData.showableAll, h3, k3]⟩
    · rw [e]
      simp only [wtAll]
      omega
    · simp only [PyData.shownAll, List.mem_cons] at ht
      rcases ht with rfl | ht
      · exact h2
      · exact k2 t ht
theorem shownKv_up : ∀ xs : List (PyData × PyData), smKv xs = true → total (PyData.shownKv xs) ≤ wtKv xs ∧ (∀ t ∈ PyData.shownKv xs, PyData.strOk t = true) ∧ PyData.showableKv xs = true
  | [], _ => ⟨by simp [PyData.shownKv, total, wtKv], by simp [PyData.shownKv], rfl⟩
  | (k, v) :: xs, h => by
    have h : ((sm k && sm v) && smKv xs) = true := h
    obtain ⟨hab, hc⟩ := Bool.and_eq_true_iff.mp h
    obtain ⟨ha, hb⟩ := Bool.and_eq_true_iff.mp hab
    obtain ⟨h1, h2, h3⟩ := shown_up k ha
    obtain ⟨h4, h5, h6⟩ := shown_up v hb
    obtain ⟨k1, k2, k3⟩ := shownKv_up xs hc
    have e : total (PyData.shownKv ((k, v) :: xs)) = (PyData.shown k ++ ": " ++ PyData.shown v).length + 2 + total (PyData.shownKv xs) := by simp [total, PyData.shownKv]
    have e2 : (((": " : String)) : Str).length = 2 := rfl
    refine ⟨?_, fun t ht => ?_, by simp [PyData.showableKv, h3, h6, k3]⟩
    · rw [e, strLen_append, strLen_append]
      simp only [wtKv]
      omega
    · simp only [PyData.shownKv, List.mem_cons] at ht
      rcases ht with rfl | ht
      · exact ok_app (ok_app h2 (by decide +kernel)) h5
      · exact k2 t ht
end
/-- a datum whose text can be told: rd -/
structure Rd_ (d : PyData) : Prop where
  pl : plainD d = true
  sm : PL.sm (VS.strip d) = true
  dp : (VS.strip d).depth ≤ 30
  wt : PL.wt (VS.strip d) ≤ 12000000
def txD (d : PyData) : Str := (VS.strip d).shown
theorem repr_rd {d : PyData} {P : PyData → Prop} (h : Rd_ d) (p : P (.str (txD d))) : dReprX [d] P := by
  obtain ⟨h1, _, h3⟩ := shown_up _ h.sm
  have := h.wt
  have := h.dp
  exact ⟨d, rfl, h.pl, h3, by omega, by rw [sizeL]; omega, p⟩
theorem sh_tx {d : PyData} (h : Rd_ d) : SeqAt.shaped (.str (txD d)) = true := by
  obtain ⟨_, h2, _⟩ := shown_up _ h.sm
  unfold SeqAt.shaped txD
  simp [PyData.canLay0, PyData.depth, h2]
theorem sm_nats : ∀ l : List Nat, (∀ y ∈ l, y < 600) → smAll (l.map intN) = true ∧ wtAll (l.map intN) = 32 * l.length
  | [], _ => ⟨rfl, rfl⟩
  | x :: l, h => by
    have h1 := h x (List.mem_cons_self ..)
    have h2 := sm_nats l fun y hy => h y (List.mem_cons_of_mem _ hy)
    have e : okI (x : Int) = true := ok_sm (by omega)
    refine ⟨by simp [smAll, sm, h2.1, e], ?_⟩
    simp only [List.map_cons, wtAll, wt, h2.2, List.length_cons, wI_small (show ((x : Int)).natAbs < 600 by omega)]
    omega
theorem strip_ints : ∀ l : List Int, stripAll (l.map .int) = l.map .int
  | [] => rfl
  | x :: l => by simp [stripAll, VS.strip, strip_ints l]
theorem plain_ints : ∀ l : List Int, plainAll (l.map .int) = true
  | [] => rfl
  | x :: l => by simp [plainAll, plainD, plain_ints l]
theorem strip_lot (l : List Nat) : VS.strip (lotD l) = lotD l := by
  have := strip_ints (castN l)
  rw [lotD_cast]
  simp only [VS.strip, this]
theorem plain_lot (l : List Nat) : plainD (lotD l) = true := by
  have := plain_ints (castN l)
  rw [lotD_cast]
  simp only [plainD, this]
theorem strip_lots : ∀ L : List (List Nat), stripAll (L.map lotD) = L.map lotD
  | [] => rfl
  | l :: L => by simp [stripAll, strip_lot l, strip_lots L]
theorem plain_lots : ∀ L : List (List Nat), plainAll (L.map lotD) = true
  | [] => rfl
  | l :: L => by simp [plainAll, plain_lot l, plain_lots L]
theorem sm_lot {l : List Nat} (h : l.length ≤ 20 ∧ ∀ y ∈ l, y < 600) : sm (lotD l) = true ∧ wt (lotD l) ≤ 650 := by
  obtain ⟨a, b⟩ := sm_nats l h.2
  refine ⟨by simp only [lotD, sm]; exact a, ?_⟩
  simp only [lotD, wt]
  rw [show (l.map fun (x : Nat) => PyData.int (x : Int)) = l.map intN from rfl, b]
  omega
theorem sm_lots : ∀ L : List (List Nat), LotsOk L → smAll (L.map lotD) = true ∧ wtAll (L.map lotD) ≤ 652 * L.length
  | [], _ => ⟨rfl, Nat.zero_le _⟩
  | l :: L, h => by
    obtain ⟨h0, h1⟩ := h l (List.mem_cons_self ..)
    have h2 := sm_lots L fun m hm => h m (List.mem_cons_of_mem _ hm)
    obtain ⟨a, b⟩ := sm_lot (l := l) ⟨by omega, fun y hy => by have := h1 y hy; omega⟩
    refine ⟨by simp only [List.map_cons, smAll, a, h2.1, Bool.and_true], ?_⟩
    simp only [List.map_cons, wtAll, List.length_cons]
    have := h2.2
    omega
def tabT (n : Nat) (B : List Nat) : PyData := tabD n (sortLots (B.map bl))
theorem tab_small {n : Nat} {B : List Nat} (ok : CdOk n B) : plainD (tabT n B) = true ∧ VS.strip (tabT n B) = tabT n B ∧ sm (tabT n B) = true ∧ (tabT n B).depth ≤ 5 ∧ wt (tabT n B) ≤ 400000 := by
  have lo : LotsOk (sortLots (B.map bl)) := fun l hl => by
    obtain ⟨c, _, rfl⟩ := List.mem_map.mp (mem_sortLots.mp hl)
    exact bl_ok _
  have hlen : (sortLots (B.map bl)).length ≤ 512 := by
    rw [length_sortLots, List.length_map]
    exact ok.few
  obtain ⟨h1, h2⟩ := sm_lots _ lo
  have hd := lots_depth (sortLots (B.map bl))
  have n9 := ok.n9
  have e : okI (n : Int) = true := ok_sm (by omega)
  refine ⟨?_, ?_, ?_, ?_, ?_⟩
  · simp [tabT, tabD, plainD, plainAll, plain_lots]
  · simp [tabT, tabD, VS.strip, stripAll, strip_lots]
  · simp [tabT, tabD, sm, smAll, e, h1]
  · simp only [tabT, tabD, PyData.depth, PyData.depthAll, intN]
    omega
  · simp only [tabT, tabD, wt, wtAll, intN, wI_small (show ((n : Int)).natAbs < 600 by omega)]
    omega
/-- a value that may be asked about -/
structure GV (d : PyData) : Prop where
  pl : plainD d = true
  sm : PL.sm (VS.strip d) = true
  dp : (VS.strip d).depth ≤ 20
  wt : PL.wt (VS.strip d) ≤ 300000
theorem GV.rd {d : PyData} (h : GV d) : Rd_ d := ⟨h.pl, h.sm, by have := h.dp; omega, by have := h.wt; omega⟩
theorem pair_rd {n : Nat} {B : List Nat} {v : PyData} (ok : CdOk n B) (h : GV v) : Rd_ (.list [tabT n B, v]) := by
  obtain ⟨t1, t2, t3, t4, t5⟩ := tab_small ok
  have := h.dp
  have := h.wt
  refine ⟨by simp [plainD, plainAll, t1, h.pl], by simp [VS.strip, stripAll, sm, smAll, t2, t3, h.sm], ?_, ?_⟩
  · simp only [VS.strip, stripAll, t2, PyData.depth, PyData.depthAll]
    omega
  · simp only [VS.strip, stripAll, t2, wt, wtAll]
    omega
end PL
namespace PL
open PySem PySem.Spec L2 VS
open PyProof.Rows hiding St

/-! ### kinds of values -/
def tyI : PyData → Bool
  | .int _ => true
  | .bool _ => true
  | _ => false
def tyB : PyData → Bool
  | .bool _ => true
  | _ => false
def tyT : PyData → Bool
  | .tuple _ => true
  | _ => false
def tyS : PyData → Bool
  | .str _ => true
  | _ => false
theorem kit_int (d : PyData) : kitB (tyD d) "int" = some (tyI d) := by cases d <;> (simp only [tyD, tyI]; decide +kernel)
theorem kit_bool (d : PyData) : kitB (tyD d) "bool" = some (tyB d) := by cases d <;> (simp only [tyD, tyB]; decide +kernel)
theorem kit_tup (d : PyData) : kitB (tyD d) "tuple" = some (tyT d) := by cases d <;> (simp only [tyD, tyT]; decide +kernel)
theorem kit_str (d : PyData) : kitB (tyD d) "str" = some (tyS d) := by cases d <;> (simp only [tyD, tyS]; decide +kernel)
theorem typed_of {d : PyData} (h : plainD d = true) : typed d := by
  cases d with
  | dict kvs =>
    cases kvs with
    | nil => cases h
    | cons p kvs =>
      have h : ((markK p || (markT p && kvs.isEmpty)) && plainKv kvs) = true := h
      obtain ⟨a, b⟩ := p
      cases a <;> try (simp [markK, markT] at h; done)
      cases b <;> try (simp [markK, markT] at h; done)
      trivial
  | _ => trivial
theorem plain_mem : ∀ {zs : List PyData} {z : PyData}, plainAll zs = true → z ∈ zs → plainD z = true
  | x :: xs, z, h, hz => by
    have h : (plainD x && plainAll xs) = true := h
    obtain ⟨h1, h2⟩ := Bool.and_eq_true_iff.mp h
    rcases List.mem_cons.mp hz with rfl | hz
    · exact h1
    · exact plain_mem h2 hz
def isNum : PyData → Bool
  | .int _ => true
  | _ => false
def sp_isnum : VSp := fun ds β P => ∃ v : PyData, ds = [v] ∧ typed v ∧ P (.bool (isNum v)) β
def inR (v : PyData) (a b : Int) : Bool := match v with
  | .int i => decide (a ≤ i) && decide (i ≤ b)
  | _ => false
def sp_within : VSp := fun ds β P => ∃ (v : PyData) (a b : Int), ds = [v, .int a, .int b] ∧ typed v ∧ P (.bool (inR v a b)) β
/-! ### lots -/
/-- ascending ints under n, all above last -/
def ascF (n : Nat) : Int → List PyData → Bool
  | _, [] => true
  | last, .int i :: zs => decide (last < i) && (decide (i < (n : Int)) && ascF n i zs)
  | _, _ :: _ => false
def lotB (n : Nat) : PyData → Bool
  | .tuple zs => ascF n (-1) zs
  | _ => false
theorem asc_pair : ∀ (l : List Nat) (last : Int), -1 ≤ last → ∀ n : Nat, ascF n last (l.map intN) = true ↔ ((∀ x ∈ l, last < (x : Int) ∧ x < n) ∧ l.Pairwise (· < ·))
  | [], last, _, n => by simp [ascF]
  | x :: l, last, h0, n => by
    have ih := asc_pair l (x : Int) (by omega) n
    show (decide (last < (x : Int)) && (decide ((x : Int) < (n : Int)) && ascF n (x : Int) (l.map intN))) = true ↔ _
    rw [Bool.and_eq_true, Bool.and_eq_true, decide_eq_true_eq, decide_eq_true_eq, ih, List.pairwise_cons]
    constructor
    · rintro ⟨h1, h2, h3, h4⟩
      refine ⟨fun y hy => ?_, fun y hy => ?_, h4⟩
      · rcases List.mem_cons.mp hy with rfl | hy
        · exact ⟨h1, by omega⟩
        · have := h3 y hy; exact ⟨by omega, this.2⟩
      · have := h3 y hy; omega
    · rintro ⟨h1, h2, h3⟩
      obtain ⟨ha, hb⟩ := h1 x (List.mem_cons_self ..)
      refine ⟨ha, by omega, fun y hy => ?_, h3⟩
      have := h2 y hy
      exact ⟨by omega, (h1 y (List.mem_cons_of_mem _ hy)).2⟩
theorem asc_nats : ∀ (zs : List PyData) (last : Int) (n : Nat), -1 ≤ last → ascF n last zs = true → ∃ l : List Nat, zs = l.map intN
  | [], _, _, _, _ => ⟨[], rfl⟩
  | .int i :: zs, last, n, h0, h => by
    have h : (decide (last < i) && (decide (i < (n : Int)) && ascF n i zs)) = true := h
    rw [Bool.and_eq_true, Bool.and_eq_true, decide_eq_true_eq, decide_eq_true_eq] at h
    obtain ⟨l, rfl⟩ := asc_nats zs i n (by omega) h.2.2
    refine ⟨i.toNat :: l, ?_⟩
    rw [List.map_cons]
    congr 2
    omega
  | .none :: _, _, _, _, h => by cases h
  | .bool _ :: _, _, _, _, h => by cases h
  | .str _ :: _, _, _, _, h => by cases h
  | .list _ :: _, _, _, _, h => by cases h
  | .tuple _ :: _, _, _, _, h => by cases h
  | .dict _ :: _, _, _, _, h => by cases h
theorem asc_ext : ∀ (l m : List Nat), l.Pairwise (· < ·) → m.Pairwise (· < ·) → (∀ x, x ∈ l ↔ x ∈ m) → l = m
  | [], [], _, _, _ => rfl
  | [], y :: m, _, _, h => by have := (h y).mpr (List.mem_cons_self ..); simp at this
  | x :: l, [], _, _, h => by have := (h x).mp (List.mem_cons_self ..); simp at this
  | x :: l, y :: m, hl, hm, h => by
    rw [List.pairwise_cons] at hl hm
    have e : x = y := by
      rcases List.mem_cons.mp ((h x).mp (List.mem_cons_self ..)) with e | hx
      · exact e
      · rcases List.mem_cons.mp ((h y).mpr (List.mem_cons_self ..)) with e | hy
        · exact e.symm
        · have := hl.1 y hy
          have := hm.1 x hx
          omega
    subst e
    congr 1
    refine asc_ext l m hl.2 hm.2 fun z => ⟨fun hz => ?_, fun hz => ?_⟩
    · rcases List.mem_cons.mp ((h z).mp (List.mem_cons_of_mem _ hz)) with rfl | q
      · exact absurd (hl.1 z hz) (Nat.lt_irrefl _)
      · exact q
    · rcases List.mem_cons.mp ((h z).mpr (List.mem_cons_of_mem _ hz)) with rfl | q
      · exact absurd (hm.1 z hz) (Nat.lt_irrefl _)
      · exact q
theorem bl_asc (c : Nat) : (bl c).Pairwise (· < ·) := List.Pairwise.filter _ List.pairwise_lt_range
theorem asc_code {n : Nat} (h9 : n ≤ 9) {l : List Nat} (hp : l.Pairwise (· < ·)) (hl : ∀ x ∈ l, x < n) : ∃ c, c < 2 ^ n ∧ l = bl c := by
  obtain ⟨c, h1, h2⟩ := code_of (fun i => decide (i ∈ l)) n
  refine ⟨c, h1, asc_ext _ _ hp (bl_asc c) fun x => ?_⟩
  rw [mem_bl, h2, Bool.and_eq_true, decide_eq_true_eq, decide_eq_true_eq]
  exact ⟨fun h => by have := hl x h; exact ⟨by omega, this, h⟩, fun h => h.2.2⟩
theorem lotB_iff {n : Nat} (h9 : n ≤ 9) {v : PyData} : lotB n v = true ↔ ∃ c, c < 2 ^ n ∧ v = lotD (bl c) := by
  constructor
  · intro h
    cases v with
    | tuple zs =>
      have h : ascF n (-1) zs = true := h
      obtain ⟨l, rfl⟩ := asc_nats zs _ n (by omega) h
      obtain ⟨h1, h2⟩ := (asc_pair l (-1) (by omega) n).mp h
      obtain ⟨c, hc, rfl⟩ := asc_code h9 h2 fun x hx => (h1 x hx).2
      exact ⟨c, hc, rfl⟩
    | _ => cases h
  · rintro ⟨c, hc, rfl⟩
    show ascF n (-1) ((bl c).map intN) = true
    exact (asc_pair _ _ (by omega) n).mpr ⟨fun x hx => ⟨by omega, lt_of_bit hc (mem_bl.mp hx).2⟩, bl_asc c⟩
theorem cut_drop (xs : List PyData) : VS.cutD xs (some 1) none = xs.drop 1 := by
  unfold VS.cutD
  rw [HT.sIx_none, show (1 : Int) = ((1 : Nat) : Int) from rfl, HT.sIx_nat]
  cases xs with
  | nil => rfl
  | cons x xs =>
    rw [List.length_cons, show min 1 (xs.length + 1) = 1 by omega, List.drop_one, List.tail_cons]
    exact List.take_of_length_le (by omega)
theorem zip_tail : ∀ l : List Nat, zipD (l.map intN) ((l.map intN).drop 1) = (l.zip (l.drop 1)).map fun p => PyData.tuple [intN p.1, intN p.2]
  | [] => rfl
  | [x] => rfl
  | x :: y :: l => by
    have := zip_tail (y :: l)
    unfold zipD at this ⊢
    simp only [List.map_cons, List.drop_one, List.tail_cons, List.zipWith_cons_cons, List.zip_cons_cons] at this ⊢
    rw [this]
theorem zip_asc : ∀ l : List Nat, ((l.zip (l.drop 1)).all fun p => decide (p.1 < p.2)) = true ↔ l.Pairwise (· < ·)
  | [] => by simp
  | [x] => by simp
  | x :: y :: l => by
    have ih := zip_asc (y :: l)
    simp only [List.drop_one, List.tail_cons, List.zip_cons_cons, List.all_cons, Bool.and_eq_true, decide_eq_true_eq] at ih ⊢
    rw [ih, List.pairwise_cons (a := x)]
    constructor
    · rintro ⟨h1, h2⟩
      refine ⟨fun z hz => ?_, h2⟩
      rcases List.mem_cons.mp hz with rfl | hz
      · exact h1
      · have := (List.pairwise_cons.mp h2).1 z hz; omega
    · rintro ⟨h1, h2⟩
      exact ⟨h1 y (List.mem_cons_self ..), h2⟩
theorem lot_split {n : Nat} {zs : List PyData} : (zs.map fun z => inR z 0 ((n : Int) - 1)).all id = true → ∃ l : List Nat, zs = l.map intN ∧ ∀ x ∈ l, x < n := by
  induction zs with
  | nil => exact fun _ => ⟨[], rfl, by simp⟩
  | cons z zs ih =>
    intro h
    rw [List.map_cons, List.all_cons, Bool.and_eq_true] at h
    obtain ⟨l, rfl, hl⟩ := ih h.2
    cases z with
    | int i =>
      have h1 : (decide (0 ≤ i) && decide (i ≤ (n : Int) - 1)) = true := h.1
      rw [Bool.and_eq_true, decide_eq_true_eq, decide_eq_true_eq] at h1
      refine ⟨i.toNat :: l, ?_, fun x hx => ?_⟩
      · rw [List.map_cons]
        congr 2
        omega
      · rcases List.mem_cons.mp hx with rfl | hx
        · omega
        · exact hl x hx
    | _ =>
      have h1 : false = true := h.1
      cases h1
theorem lot_no {n : Nat} {zs : List PyData} (h : (zs.map fun z => inR z 0 ((n : Int) - 1)).all id = false) : ascF n (-1) zs = false := by
  cases q : ascF n (-1) zs with
  | false => rfl
  | true =>
    obtain ⟨l, rfl⟩ := asc_nats zs _ n (by omega) q
    obtain ⟨h1, _⟩ := (asc_pair l (-1) (by omega) n).mp q
    have : ((l.map intN).map fun z => inR z 0 ((n : Int) - 1)).all id = true := by
      rw [List.all_eq_true]
      intro b hb
      obtain ⟨z, hz, rfl⟩ := List.mem_map.mp hb
      obtain ⟨x, hx, rfl⟩ := List.mem_map.mp hz
      have := (h1 x hx).2
      show (decide ((0 : Int) ≤ (x : Int)) && decide ((x : Int) ≤ (n : Int) - 1)) = true
      rw [Bool.and_eq_true, decide_eq_true_eq, decide_eq_true_eq]
      omega
    rw [this] at h
    cases h
def sp_islot : VSp := fun ds β P => ∃ (n : Nat) (v : PyData), ds = [intN n, v] ∧ n ≤ 9 ∧ plainD v = true ∧ (∀ zs, v = .tuple zs → zs.length ≤ 1000000) ∧ P (.bool (lotB n v)) β
def sp_lislot : VSp := sp_islot
end PL
namespace PL
open PySem PySem.Spec L2 VS
open PyProof.Rows hiding St

theorem Good.cd {n : Nat} {B : List Nat} (h : Good n B) (n9 : n ≤ 9) : CdOk n B := ⟨n9, h.lt, Nat.le_trans h.few (pow9 n9)⟩
theorem Good.ne {n : Nat} {B : List Nat} (h : Good n B) : B ≠ [] := let ⟨_, k⟩ := h.ib; k.ne
/-! ### lots by codes -/
def hasL (m l : List Nat) : Bool := l.all fun x => decide (x ∈ m)
theorem hasL_bl {b c : Nat} (hc : c < 512) : hasL (bl b) (bl c) = ((c &&& b) == c) := by
  rw [Bool.eq_iff_iff, beq_iff_eq]
  unfold hasL
  rw [List.all_eq_true]
  show _ ↔ sub c b
  rw [sub_iff]
  constructor
  · intro h i hi
    have h9 : i < 9 := lt_of_bit (n := 9) hc hi
    exact (mem_bl.mp (of_decide_eq_true (h i (mem_bl.mpr ⟨h9, hi⟩)))).2
  · intro h x hx
    exact decide_eq_true (mem_bl.mpr ⟨(mem_bl.mp hx).1, h x (mem_bl.mp hx).2⟩)
theorem and_bl (c b : Nat) : (bl c).filter (fun x => decide (x ∈ bl b)) = bl (b &&& c) := by
  refine asc_ext _ _ ((bl_asc c).filter _) (bl_asc _) fun x => ?_
  rw [List.mem_filter, decide_eq_true_eq, mem_bl, mem_bl, mem_bl, Nat.testBit_and, Bool.and_eq_true]
  exact ⟨fun h => ⟨h.1.1, h.2.2, h.1.2⟩, fun h => ⟨⟨h.1, h.2.2⟩, h.1, h.2.1⟩⟩
theorem rest_bl {n c : Nat} (h9 : n ≤ 9) (hc : c < 2 ^ n) : (List.range n).filter (fun x : Nat => !decide ((x : Int) ∈ castN (bl c))) = bl (2 ^ n - 1 - c) := by
  refine asc_ext _ _ (List.Pairwise.filter _ List.pairwise_lt_range) (bl_asc _) fun x => ?_
  rw [List.mem_filter, List.mem_range, Bool.not_eq_true', decide_eq_false_iff_not, mem_cast, mem_bl, mem_bl]
  constructor
  · rintro ⟨h1, h2⟩
    have hx : x < 9 := by omega
    rw [not_bit n h9 c hc x hx, decide_eq_true h1, Bool.true_and]
    refine ⟨hx, ?_⟩
    cases q : c.testBit x with
    | false => rfl
    | true => exact absurd ⟨hx, q⟩ h2
  · rintro ⟨h1, h2⟩
    rw [not_bit n h9 c hc x h1, Bool.and_eq_true, decide_eq_true_eq] at h2
    refine ⟨h2.1, fun q => ?_⟩
    rw [q.2] at h2
    exact absurd h2.2 (by decide)
theorem lots_at {B : List Nat} {l : List Nat} (h : l ∈ sortLots (B.map bl)) : ∃ b ∈ B, l = bl b := by
  obtain ⟨b, hb, rfl⟩ := List.mem_map.mp (mem_sortLots.mp h)
  exact ⟨b, hb, rfl⟩
def sp_has : VSp := fun ds β P => ∃ m l : List Nat, ds = [lotD m, lotD l] ∧ l.length ≤ 9 ∧ P (.bool (hasL m l)) β
theorem ix_tab1 (n : Nat) (Bs : List (List Nat)) : L2.atI [intN n, .tuple (Bs.map lotD)] 1 = some (.tuple (Bs.map lotD)) := rfl
theorem ix_tab0 (n : Nat) (Bs : List (List Nat)) : L2.atI [intN n, .tuple (Bs.map lotD)] 0 = some (intN n) := rfl
def sp_isfree : VSp := fun ds β P => ∃ (n : Nat) (B : List Nat) (c : Nat), ds = [tabT n B, lotD (bl c)] ∧ CdOk n B ∧ c < 512 ∧ P (.bool (frB B c)) β
theorem frB_any {B : List Nat} {c : Nat} (hc : c < 512) : (sortLots (B.map bl)).any (fun m => hasL m (bl c)) = frB B c := by
  rw [Bool.eq_iff_iff]
  unfold frB
  rw [List.any_eq_true, List.any_eq_true]
  constructor
  · rintro ⟨l, hl, h⟩
    obtain ⟨b, hb, rfl⟩ := lots_at hl
    exact ⟨b, hb, by rw [← hasL_bl hc]; exact h⟩
  · rintro ⟨b, hb, h⟩
    exact ⟨bl b, mem_sortLots.mpr (List.mem_map.mpr ⟨b, hb, rfl⟩), by rw [hasL_bl hc]; exact h⟩
def sp_isround : VSp := fun ds β P => ∃ (n : Nat) (B : List Nat) (c : Nat), ds = [tabT n B, lotD (bl c)] ∧ CdOk n B ∧ c < 512 ∧ P (.bool (rdC B c)) β
def sp_common : VSp := fun ds β P => ∃ l m : List Nat, ds = [lotD l, lotD m] ∧ l.length ≤ 9 ∧ P (lotD (l.filter fun x => decide (x ∈ m))) β
theorem filt_in (l m : List Nat) : (l.filterMap fun x : Nat => if decide ((x : Int) ∈ castN m) = true then some (intN x) else none) = (l.filter fun x => decide (x ∈ m)).map intN := by
  induction l with
  | nil => rfl
  | cons x l ih =>
    rw [List.filterMap_cons, List.filter_cons]
    by_cases h : x ∈ m
    · rw [if_pos (decide_eq_true (mem_cast.mpr h)), if_pos (decide_eq_true h), ih]
      rfl
    · rw [if_neg (fun q => h (mem_cast.mp (of_decide_eq_true q))), if_neg (fun q => h (of_decide_eq_true q)), ih]
/-! ### ranks -/
def rkN (B : List Nat) (c : Nat) : Nat := (B.map fun b => sz (b &&& c)).foldl max 0
theorem foldl_max : ∀ (l : List Nat) (a : Nat), (l.foldl max a = a ∨ l.foldl max a ∈ l) ∧ a ≤ l.foldl max a ∧ ∀ x ∈ l, x ≤ l.foldl max a
  | [], a => ⟨.inl rfl, Nat.le_refl a, by simp⟩
  | x :: l, a => by
    obtain ⟨h1, h2, h3⟩ := foldl_max l (max a x)
    refine ⟨?_, Nat.le_trans (Nat.le_max_left a x) h2, fun y hy => ?_⟩
    · rcases h1 with h1 | h1
      · rw [List.foldl_cons, h1]
        by_cases q : a ≤ x
        · exact .inr (by rw [Nat.max_eq_right q]; exact List.mem_cons_self ..)
        · exact .inl (Nat.max_eq_left (by omega))
      · exact .inr (List.mem_cons_of_mem _ h1)
    · rcases List.mem_cons.mp hy with rfl | hy
      · exact Nat.le_trans (Nat.le_max_right a y) h2
      · exact h3 y hy
theorem rkN_rk {B : List Nat} (h : B ≠ []) (c : Nat) : Rk B c (rkN B c) := by
  obtain ⟨h1, h2, h3⟩ := foldl_max (B.map fun b => sz (b &&& c)) 0
  refine ⟨?_, fun b hb => h3 _ (List.mem_map.mpr ⟨b, hb, rfl⟩)⟩
  rcases h1 with h1 | h1
  · obtain ⟨b, hb⟩ := List.exists_mem_of_ne_nil B h
    refine ⟨b, hb, ?_⟩
    have := h3 _ (List.mem_map.mpr ⟨b, hb, rfl⟩)
    show sz (b &&& c) = (B.map fun b => sz (b &&& c)).foldl max 0
    omega
  · obtain ⟨b, hb, e⟩ := List.mem_map.mp h1
    exact ⟨b, hb, e⟩
theorem rkN_le {B : List Nat} (c : Nat) (h : B ≠ []) : rkN B c ≤ 9 := by
  obtain ⟨⟨b, _, e⟩, _⟩ := rkN_rk h c
  rw [← e]
  exact bl_len _
def sp_rank : VSp := fun ds β P => ∃ (n : Nat) (B : List Nat) (c : Nat), ds = [tabT n B, lotD (bl c)] ∧ CdOk n B ∧ B ≠ [] ∧ P (intN (rkN B c)) β
def sp_others : VSp := fun ds β P => ∃ (n c : Nat), ds = [intN n, lotD (bl c)] ∧ n ≤ 9 ∧ c < 2 ^ n ∧ P (.list ((bl (2 ^ n - 1 - c)).map intN)) β
def sp_trank : VSp := fun ds β P => ∃ (n : Nat) (B : List Nat), ds = [tabT n B] ∧ n ≤ 9 ∧ Good n B ∧ P (intN (rkN B (2 ^ n - 1))) β
theorem all_and {n b : Nat} (h : b < 2 ^ n) : b &&& (2 ^ n - 1) = b := by
  rw [Nat.and_two_pow_sub_one_eq_mod, Nat.mod_eq_of_lt h]
theorem rk_all {n : Nat} {B : List Nat} (h : Good n B) {b : Nat} (hb : b ∈ B) : sz b = rkN B (2 ^ n - 1) := by
  obtain ⟨I, k⟩ := h.ib
  refine Rk.one (B := B) (c := 2 ^ n - 1) ⟨⟨b, hb, by rw [all_and (h.lt b hb)]⟩, fun e he => ?_⟩ (rkN_rk h.ne _)
  rw [all_and (h.lt e he), k.eq e he b hb]
  exact Nat.le_refl _
def gainN (n : Nat) (B : List Nat) (c : Nat) : Int := (rkN B c : Int) + (rkN B (2 ^ n - 1 - c) : Int) - (rkN B (2 ^ n - 1) : Int)
def sp_gain : VSp := fun ds β P => ∃ (n : Nat) (B : List Nat) (c : Nat), ds = [tabT n B, lotD (bl c)] ∧ n ≤ 9 ∧ Good n B ∧ c < 2 ^ n ∧ P (.int (gainN n B c)) β
end PL
namespace PL
open PySem PySem.Spec L2 VS
open PyProof.Rows hiding St

/-! ### rank functions on codes -/
structure Rf (n : Nat) (r : Nat → Nat) : Prop where
  zero : r 0 = 0
  step : ∀ c x, c < 2 ^ n → x < n → c.testBit x = false → r (c ||| 2 ^ x) = r c ∨ r (c ||| 2 ^ x) = r c + 1
  loc : ∀ c x y, c < 2 ^ n → x < n → y < n → c.testBit x = false → c.testBit y = false → r (c ||| 2 ^ x) = r c → r (c ||| 2 ^ y) = r c → r (c ||| 2 ^ x ||| 2 ^ y) = r c
theorem sub_lt {n c d : Nat} (hs : sub c d) (hd : d < 2 ^ n) : c < 2 ^ n := by
  unfold sub at hs
  rw [← hs]
  exact Nat.lt_of_le_of_lt Nat.and_le_right hd
theorem put_or (c e x : Nat) : c ||| (e ||| 2 ^ x) = (c ||| e) ||| 2 ^ x := (Nat.or_assoc c e (2 ^ x)).symm
theorem put_put (c x : Nat) : (c ||| 2 ^ x) ||| 2 ^ x = c ||| 2 ^ x := by rw [Nat.or_assoc, Nat.or_self]
/-- from a lot to a greater one, thing by thing -/
theorem sub_ind {n : Nat} (h9 : n ≤ 9) {p : Nat → Prop} {d : Nat} (hd : d < 2 ^ n) : ∀ (k c : Nat), sz c + k = sz d → sub c d → p c → (∀ e y, sub c e → sub (e ||| 2 ^ y) d → e.testBit y = false → e < 2 ^ n → y < n → p e → p (e ||| 2 ^ y)) → p d
  | 0, c, hk, hs, h0, _ => by
    have : sub d c := by
      refine sub_iff.mpr fun i hi => ?_
      cases hc : c.testBit i with
      | true => rfl
      | false =>
        have := sz_lt_of_ex (lt512 h9 hd) hs hi hc
        omega
    have e : c = d := by
      unfold sub at hs this
      rw [← hs, Nat.and_comm]
      exact this
    exact e ▸ h0
  | k + 1, c, hk, hs, h0, h => by
    obtain ⟨y, hy, hc⟩ := ex_of_sz (c := c) (d := d) (by omega)
    have hyn := lt_of_bit hd hy
    have hcn := sub_lt hs hd
    have hp := put_sub hs hy
    refine sub_ind h9 hd k (c ||| 2 ^ y) (by rw [sz_put (by omega) (lt512 h9 hcn) hc]; omega) hp (h c y (sub_rfl c) hp hc hcn hyn h0) fun e z h1 h2 h3 h4 h5 h6 => h e z (sub_trans (sub_put c y) h1) h2 h3 h4 h5 h6
theorem sub_ind' {n : Nat} (h9 : n ≤ 9) {p : Nat → Prop} {c d : Nat} (hd : d < 2 ^ n) (hs : sub c d) (h0 : p c) (h : ∀ e y, sub c e → sub (e ||| 2 ^ y) d → e.testBit y = false → e < 2 ^ n → y < n → p e → p (e ||| 2 ^ y)) : p d :=
  sub_ind h9 hd (sz d - sz c) c (by have := sz_mono_all hs; omega) hs h0 h
section
variable {n : Nat} {r : Nat → Nat}
theorem Rf.mono (f : Rf n r) (h9 : n ≤ 9) {c d : Nat} (hd : d < 2 ^ n) (hs : sub c d) : r c ≤ r d ∧ r d + sz c ≤ r c + sz d := by
  refine sub_ind' h9 hd hs (p := fun e => r c ≤ r e ∧ r e + sz c ≤ r c + sz e) ⟨Nat.le_refl _, Nat.le_refl _⟩ fun e y h1 h2 h3 h4 h5 h6 => ?_
  rw [sz_put (by omega) (lt512 h9 h4) h3]
  rcases f.step e y h4 h5 h3 with q | q <;> (rw [q]; omega)
theorem Rf.le (f : Rf n r) (h9 : n ≤ 9) {c : Nat} (hc : c < 2 ^ n) : r c ≤ sz c := by
  have h0 : sub 0 c := sub_iff.mpr fun i hi => by simp at hi
  have := (f.mono h9 hc h0).2
  rw [f.zero, sz_zero] at this
  omega
/-- what a lot does not gain by a thing, a greater one does not either -/
theorem Rf.idle (f : Rf n r) (h9 : n ≤ 9) {c d x : Nat} (hd : d < 2 ^ n) (hs : sub c d) (hx : x < n) (hdx : d.testBit x = false) (h : r (c ||| 2 ^ x) = r c) : r (d ||| 2 ^ x) = r d := by
  refine sub_ind' h9 hd hs (p := fun e => r (e ||| 2 ^ x) = r e) h fun e y h1 h2 h3 h4 h5 h6 => ?_
  have ex : e.testBit x = false := by
    cases q : e.testBit x with
    | false => rfl
    | true =>
      rw [sub_iff.mp (sub_trans (sub_put e y) h2) x q] at hdx
      cases hdx
  have eyx : (e ||| 2 ^ y).testBit x = false := by
    cases q : (e ||| 2 ^ y).testBit x with
    | false => rfl
    | true =>
      rw [sub_iff.mp h2 x q] at hdx
      cases hdx
  have exy : (e ||| 2 ^ x).testBit y = false := by
    rw [put_bit, h3, Bool.false_or]
    refine decide_eq_false fun q => ?_
    subst q
    rw [put_bit, decide_eq_true rfl, Bool.or_true] at eyx
    cases eyx
  rcases f.step e y h4 h5 h3 with q | q
  · rw [put_comm, f.loc e x y h4 hx h5 ex h3 h6 q, q]
  · have h7 := f.step (e ||| 2 ^ y) x (put_lt h5 h4) hx eyx
    have h8 := f.step (e ||| 2 ^ x) y (put_lt hx h4) h5 exy
    rw [put_comm] at h8
    omega
theorem Rf.sum (f : Rf n r) (h9 : n ≤ 9) {a b : Nat} (ha : a < 2 ^ n) (hb : b < 2 ^ n) : r (a ||| b) + r (a &&& b) ≤ r a + r b := by
  have hs : sub (a &&& b) b := sub_iff.mpr fun i hi => by
    rw [Nat.testBit_and, Bool.and_eq_true] at hi
    exact hi.2
  refine sub_ind' h9 hb hs (p := fun e => r (a ||| e) + r (a &&& b) ≤ r a + r e) ?_ fun e y h1 h2 h3 h4 h5 h6 => ?_
  · have e : a ||| (a &&& b) = a := by
      apply Nat.eq_of_testBit_eq
      intro i
      rw [Nat.testBit_or, Nat.testBit_and]
      cases a.testBit i <;> simp
    rw [e]
    exact Nat.le_refl _
  · have by_ : b.testBit y = true := sub_iff.mp h2 y (by rw [put_bit, decide_eq_true rfl, Bool.or_true])
    have ay : a.testBit y = false := by
      cases q : a.testBit y with
      | false => rfl
      | true =>
        rw [sub_iff.mp h1 y (by rw [Nat.testBit_and, q, by_]; rfl)] at h3
        cases h3
    have aey : (a ||| e).testBit y = false := by rw [Nat.testBit_or, ay, h3]; rfl
    have ae := Nat.or_lt_two_pow ha h4
    rw [put_or]
    rcases f.step e y h4 h5 h3 with q | q
    · rw [f.idle h9 ae (sub_iff.mpr fun i hi => by rw [Nat.testBit_or, hi, Bool.or_true]) h5 aey q, q]
      exact h6
    · rcases f.step (a ||| e) y ae h5 aey with q2 | q2 <;> omega
/-- free lots of a rank function -/
def rfI (n : Nat) (r : Nat → Nat) (c : Nat) : Prop := c < 2 ^ n ∧ r c = sz c
theorem Rf.span (f : Rf n r) (h9 : n ≤ 9) {c : Nat} (hc : c < 2 ^ n) : ∃ i, rfI n r i ∧ sub i c ∧ sz i = r c := by
  have h0 : sub 0 c := sub_iff.mpr fun i hi => by simp at hi
  refine sub_ind' h9 hc h0 (p := fun e => ∃ i, rfI n r i ∧ sub i e ∧ sz i = r e) ⟨0, ⟨Nat.two_pow_pos n, by rw [f.zero, sz_zero]⟩, sub_rfl 0, by rw [f.zero, sz_zero]⟩ fun e y h1 h2 h3 h4 h5 h6 => ?_
  obtain ⟨i, ⟨i1, i2⟩, i3, i4⟩ := h6
  rcases f.step e y h4 h5 h3 with q | q
  · exact ⟨i, ⟨i1, i2⟩, sub_trans i3 (sub_put e y), by rw [q]; exact i4⟩
  · have iy : i.testBit y = false := by
      cases z : i.testBit y with
      | false => rfl
      | true =>
        rw [sub_iff.mp i3 y z] at h3
        cases h3
    have hz := sz_put (by omega : y < 9) (lt512 h9 i1) iy
    rcases f.step i y i1 h5 iy with q2 | q2
    · have := f.idle h9 h4 i3 h5 h3 q2
      omega
    · exact ⟨i ||| 2 ^ y, ⟨put_lt h5 i1, by rw [q2, hz, i2]⟩, put_mono y i3, by rw [hz, q, i4]⟩
theorem Rf.mat (f : Rf n r) (h9 : n ≤ 9) : Mat n (rfI n r) := by
  refine ⟨fun c h => h.1, ⟨Nat.two_pow_pos n, by rw [f.zero, sz_zero]⟩, fun c d hc hs => ?_, fun c d hc hd hlt => ?_⟩
  · have hd := sub_lt hs hc.1
    have h1 := (f.mono h9 hc.1 hs).2
    have h2 := f.le h9 hd
    have h3 := hc.2
    exact ⟨hd, by omega⟩
  · apply Classical.byContradiction
    intro no
    have idle : ∀ x, d.testBit x = true → c.testBit x = false → r (c ||| 2 ^ x) = r c := fun x h1 h2 => by
      have hx := lt_of_bit hd.1 h1
      rcases f.step c x hc.1 hx h2 with q | q
      · exact q
      · refine absurd ⟨x, hx, h1, h2, put_lt hx hc.1, ?_⟩ no
        rw [q, sz_put (by omega) (lt512 h9 hc.1) h2, hc.2]
    have hcd := Nat.or_lt_two_pow hc.1 hd.1
    have all : r (c ||| d) = r c := by
      refine sub_ind' h9 hcd (sub_iff.mpr fun i hi => by rw [Nat.testBit_or, hi]; rfl : sub c (c ||| d)) (p := fun e => r e = r c) rfl fun e y h1 h2 h3 h4 h5 h6 => ?_
      have cy : c.testBit y = false := by
        cases q : c.testBit y with
        | false => rfl
        | true =>
          rw [sub_iff.mp h1 y q] at h3
          cases h3
      have dy : d.testBit y = true := by
        have := sub_iff.mp h2 y (by rw [put_bit, decide_eq_true rfl, Bool.or_true])
        rw [Nat.testBit_or, cy, Bool.false_or] at this
        exact this
      rw [f.idle h9 h4 h1 h5 h3 (idle y dy cy), h6]
    have := (f.mono h9 hcd (sub_iff.mpr fun i hi => by rw [Nat.testBit_or, hi, Bool.or_true] : sub d (c ||| d))).1
    have h1 := hc.2
    have h2 := hd.2
    omega
/-- the bases of a rank function tell it -/
theorem Rf.isB (f : Rf n r) (h9 : n ≤ 9) {B : List Nat} (hB : ∀ c, c ∈ B ↔ rfI n r c ∧ sz c = r (2 ^ n - 1)) : IsB n (rfI n r) B := by
  have pp := Nat.two_pow_pos n
  refine isB_of h9 (f.mat h9) hB ?_ fun c hc => ?_
  · obtain ⟨i, h1, _, h3⟩ := f.span h9 (show 2 ^ n - 1 < 2 ^ n by omega)
    exact List.ne_nil_of_mem ((hB i).mpr ⟨h1, h3⟩)
  · have hs : sub c (2 ^ n - 1) := by
      unfold sub
      exact all_and hc.1
    have := (f.mono h9 (show 2 ^ n - 1 < 2 ^ n by omega) hs).1
    have := hc.2
    omega
theorem Rf.rank (f : Rf n r) (h9 : n ≤ 9) {B : List Nat} (hB : ∀ c, c ∈ B ↔ rfI n r c ∧ sz c = r (2 ^ n - 1)) {c : Nat} (hc : c < 2 ^ n) : B ≠ [] ∧ rkN B c = r c := by
  have k := f.isB h9 hB
  refine ⟨k.ne, ?_⟩
  obtain ⟨i, h1, h2, h3⟩ := f.span h9 hc
  rw [← h3]
  refine (Rk.one (B := B) (c := c) (rk_of h9 k h1 h2 fun x hx cx ix q => ?_) (rkN_rk k.ne c)).symm
  have := (f.mono h9 hc (put_sub h2 cx)).1
  have h4 := q.2
  rw [sz_put (by omega) (lt512 h9 h1.1) ix] at h4
  omega
end
end PL
namespace PL
open PySem PySem.Spec L2 VS
open PyProof.Rows hiding St

theorem bit_put_ne {c x y : Nat} (h : c.testBit y = false) (ne : x ≠ y) : (c ||| 2 ^ x).testBit y = false := by
  rw [put_bit, h, Bool.false_or]
  exact decide_eq_false ne
theorem not_put {c x : Nat} (h : c.testBit x = false) : c ≠ c ||| 2 ^ x := fun e => by
  have := congrArg (fun v : Nat => v.testBit x) e
  simp only [put_bit, h, decide_true, Bool.or_true] at this
  cases this
/-! ### all lots of a size but some -/
def lowR (m : Nat) (L : List Nat) (c : Nat) : Nat := if c ∈ L then m - 1 else min (sz c) m
structure LowOk (n m : Nat) (L : List Nat) : Prop where
  lt : ∀ c ∈ L, c < 2 ^ n ∧ sz c = m ∧ 0 < m
  far : ∀ c ∈ L, ∀ d ∈ L, c ≠ d → sz (c &&& d) + 1 < m
theorem low_rf {n m : Nat} {L : List Nat} (h9 : n ≤ 9) (h : LowOk n m L) : Rf n (lowR m L) := by
  have yes : ∀ c ∈ L, lowR m L c = m - 1 ∧ sz c = m ∧ 0 < m := fun c hc => ⟨if_pos hc, (h.lt c hc).2⟩
  have no : ∀ c, c ∉ L → lowR m L c = min (sz c) m := fun c hc => if_neg hc
  refine ⟨?_, fun c x hc hx cx => ?_, fun c x y hc hx hy cx cy h1 h2 => ?_⟩
  · have : 0 ∉ L := fun q => by
      have := h.lt 0 q
      rw [sz_zero] at this
      omega
    rw [no 0 this, sz_zero]
    omega
  · have hs := sz_put (by omega : x < 9) (lt512 h9 hc) cx
    by_cases a : c ∈ L
    · have b : c ||| 2 ^ x ∉ L := fun q => by
        have := (yes c a).2.1
        have := (yes _ q).2.1
        omega
      have := yes c a
      rw [no _ b, this.1]
      omega
    · rw [no c a]
      by_cases b : c ||| 2 ^ x ∈ L
      · have := yes _ b
        rw [this.1]
        omega
      · rw [no _ b]
        omega
  · by_cases e : x = y
    · subst e
      rw [put_put]
      exact h1
    have hsx := sz_put (by omega : x < 9) (lt512 h9 hc) cx
    have hsy := sz_put (by omega : y < 9) (lt512 h9 hc) cy
    have hxy := bit_put_ne cy e
    have hs := sz_put (by omega : y < 9) (lt512 h9 (put_lt hx hc)) hxy
    by_cases a : c ∈ L
    · have b : c ||| 2 ^ x ∉ L := fun q => by
        have := (yes c a).2.1
        have := (yes _ q).2.1
        omega
      have := yes c a
      rw [no _ b, this.1] at h1
      omega
    · rw [no c a] at h1 h2 ⊢
      by_cases big : m ≤ sz c
      · have b : c ||| 2 ^ x ||| 2 ^ y ∉ L := fun q => by
          have := (yes _ q).2.1
          omega
        rw [no _ b]
        omega
      · have bx : c ||| 2 ^ x ∈ L := Classical.byContradiction fun q => by
          rw [no _ q] at h1
          omega
        have by' : c ||| 2 ^ y ∈ L := Classical.byContradiction fun q => by
          rw [no _ q] at h2
          omega
        have ne : c ||| 2 ^ x ≠ c ||| 2 ^ y := fun q => by
          have := congrArg (fun v : Nat => v.testBit y) q
          simp only [hxy] at this
          rw [put_bit, decide_eq_true rfl, Bool.or_true] at this
          cases this
        have f := h.far _ bx _ by' ne
        have := (yes _ bx).2.1
        have s : sub c ((c ||| 2 ^ x) &&& (c ||| 2 ^ y)) := sub_iff.mpr fun i hi => by
          rw [Nat.testBit_and, put_bit, put_bit, hi]
          rfl
        have := sz_mono_all s
        omega
/-! ### two beside one another -/
def sumR (n s : Nat) (r t : Nat → Nat) (c : Nat) : Nat := r (c &&& s) + t (c &&& (2 ^ n - 1 - s))
theorem and_put_in {c x s : Nat} (h : s.testBit x = true) : (c ||| 2 ^ x) &&& s = (c &&& s) ||| 2 ^ x := by
  apply Nat.eq_of_testBit_eq
  intro i
  rw [Nat.testBit_and, put_bit, put_bit, Nat.testBit_and]
  by_cases e : x = i
  · subst e
    rw [h]
    simp
  · simp [e]
theorem and_put_out {c x s : Nat} (h : s.testBit x = false) : (c ||| 2 ^ x) &&& s = c &&& s := by
  apply Nat.eq_of_testBit_eq
  intro i
  rw [Nat.testBit_and, put_bit, Nat.testBit_and]
  by_cases e : x = i
  · subst e
    rw [h]
    simp
  · simp [e]
theorem and_bit_no {c x s : Nat} (h : c.testBit x = false) : (c &&& s).testBit x = false := by rw [Nat.testBit_and, h]; rfl
theorem sum_rf {n s : Nat} {r t : Nat → Nat} (h9 : n ≤ 9) (hs : s < 2 ^ n) (f : Rf n r) (g : Rf n t) : Rf n (sumR n s r t) := by
  have nb := not_bit n h9 s hs
  have lt : ∀ {c : Nat} (d : Nat), c < 2 ^ n → c &&& d < 2 ^ n := fun d hc => Nat.lt_of_le_of_lt Nat.and_le_left hc
  have other : ∀ x < n, (2 ^ n - 1 - s).testBit x = !s.testBit x := fun x hx => by rw [nb x (by omega), decide_eq_true hx, Bool.true_and]
  refine ⟨?_, fun c x hc hx cx => ?_, fun c x y hc hx hy cx cy h1 h2 => ?_⟩
  · unfold sumR
    rw [Nat.zero_and, Nat.zero_and, f.zero, g.zero]
  · have o := other x hx
    unfold sumR
    cases q : s.testBit x with
    | true =>
      rw [q] at o
      rw [and_put_in q, and_put_out o]
      rcases f.step (c &&& s) x (lt s hc) hx (and_bit_no cx) with z | z <;> omega
    | false =>
      rw [q] at o
      rw [and_put_out q, and_put_in o]
      rcases g.step (c &&& (2 ^ n - 1 - s)) x (lt _ hc) hx (and_bit_no cx) with z | z <;> omega
  · have ox := other x hx
    have oy := other y hy
    unfold sumR at h1 h2 ⊢
    cases qx : s.testBit x with
    | true =>
      rw [qx] at ox
      rw [and_put_in qx, and_put_out ox] at h1
      cases qy : s.testBit y with
      | true =>
        rw [qy] at oy
        rw [and_put_in qy, and_put_out oy] at h2
        rw [and_put_in qy, and_put_in qx, and_put_out oy, and_put_out ox]
        have := f.loc (c &&& s) x y (lt s hc) hx hy (and_bit_no cx) (and_bit_no cy) (by omega) (by omega)
        omega
      | false =>
        rw [qy] at oy
        rw [and_put_out qy, and_put_in oy] at h2
        rw [and_put_out qy, and_put_in qx, and_put_in oy, and_put_out ox]
        omega
    | false =>
      rw [qx] at ox
      rw [and_put_out qx, and_put_in ox] at h1
      cases qy : s.testBit y with
      | true =>
        rw [qy] at oy
        rw [and_put_in qy, and_put_out oy] at h2
        rw [and_put_in qy, and_put_out qx, and_put_out oy, and_put_in ox]
        omega
      | false =>
        rw [qy] at oy
        rw [and_put_out qy, and_put_in oy] at h2
        rw [and_put_out qy, and_put_out qx, and_put_in oy, and_put_in ox]
        have := g.loc (c &&& (2 ^ n - 1 - s)) x y (lt _ hc) hx hy (and_bit_no cx) (and_bit_no cy) (by omega) (by omega)
        omega
/-! ### things at points -/
structure Img (n : Nat) (p im : Nat → Nat) : Prop where
  zero : im 0 = 0
  put : ∀ c x, c < 2 ^ n → x < n → c.testBit x = false → im (c ||| 2 ^ x) = im c ||| p x
  at_ : ∀ x < n, p x = 0 ∨ ∃ s < n, p x = 2 ^ s
theorem Img.lt {n : Nat} {p im : Nat → Nat} (h : Img n p im) (h9 : n ≤ 9) {c : Nat} (hc : c < 2 ^ n) : im c < 2 ^ n := by
  refine sub_ind' h9 hc (sub_iff.mpr fun i hi => by simp at hi : sub 0 c) (p := fun e => im e < 2 ^ n) (by rw [h.zero]; exact Nat.two_pow_pos n) fun e y h1 h2 h3 h4 h5 h6 => ?_
  rw [h.put e y h4 h5 h3]
  rcases h.at_ y h5 with q | ⟨s, hs, q⟩
  · rw [q, Nat.or_zero]; exact h6
  · rw [q]; exact put_lt hs h6
theorem img_rf {n : Nat} {p im r : Nat → Nat} (h9 : n ≤ 9) (h : Img n p im) (f : Rf n r) : Rf n (fun c => r (im c)) := by
  have st : ∀ c x, c < 2 ^ n → x < n → c.testBit x = false → im (c ||| 2 ^ x) = im c ∨ ∃ s < n, p x = 2 ^ s ∧ im (c ||| 2 ^ x) = im c ||| 2 ^ s ∧ (im c).testBit s = false := fun c x hc hx cx => by
    rw [h.put c x hc hx cx]
    rcases h.at_ x hx with q | ⟨s, hs, q⟩
    · left; rw [q, Nat.or_zero]
    · cases b : (im c).testBit s with
      | false => exact .inr ⟨s, hs, q, by rw [q], b⟩
      | true =>
        left
        rw [q]
        apply Nat.eq_of_testBit_eq
        intro i
        rw [put_bit]
        by_cases e : s = i
        · subst e; rw [b]; rfl
        · simp [e]
  refine ⟨by show r (im 0) = 0; rw [h.zero, f.zero], fun c x hc hx cx => ?_, fun c x y hc hx hy cx cy h1 h2 => ?_⟩
  · show r (im (c ||| 2 ^ x)) = r (im c) ∨ r (im (c ||| 2 ^ x)) = r (im c) + 1
    rcases st c x hc hx cx with q | ⟨s, hs, _, q, b⟩
    · rw [q]; exact .inl rfl
    · rw [q]; exact f.step _ s (h.lt h9 hc) hs b
  · by_cases e : x = y
    · subst e
      rw [put_put]
      exact h1
    have h1 : r (im (c ||| 2 ^ x)) = r (im c) := h1
    have h2 : r (im (c ||| 2 ^ y)) = r (im c) := h2
    show r (im (c ||| 2 ^ x ||| 2 ^ y)) = r (im c)
    have hcx := put_lt hx hc
    have pxy : im (c ||| 2 ^ x ||| 2 ^ y) = im (c ||| 2 ^ x) ||| p y := h.put _ y hcx hy (bit_put_ne cy e)
    rcases st c x hc hx cx with q | ⟨s, hs, px, q, b⟩
    · rw [pxy, q, ← h.put c y hc hy cy]
      exact h2
    · rcases st c y hc hy cy with q2 | ⟨t, ht, py, q2, b2⟩
      · have e2 : im c ||| p y = im c := by rw [← h.put c y hc hy cy, q2]
        have : im (c ||| 2 ^ x) ||| p y = im (c ||| 2 ^ x) := by
          rw [h.put c x hc hx cx, Nat.or_assoc, Nat.or_comm (p x), ← Nat.or_assoc, e2]
        rw [pxy, this]
        exact h1
      · rw [pxy, q, py]
        rw [q] at h1
        rw [q2] at h2
        exact f.loc (im c) s t (h.lt h9 hc) hs ht b b2 h1 h2
/-! ### others -/
def dualR (n : Nat) (r : Nat → Nat) (c : Nat) : Nat := sz c + r (2 ^ n - 1 - c) - r (2 ^ n - 1)
theorem out_put {n c x : Nat} (h9 : n ≤ 9) (hc : c < 2 ^ n) (hx : x < n) (cx : c.testBit x = false) : (2 ^ n - 1 - (c ||| 2 ^ x)) ||| 2 ^ x = 2 ^ n - 1 - c ∧ (2 ^ n - 1 - (c ||| 2 ^ x)).testBit x = false ∧ 2 ^ n - 1 - (c ||| 2 ^ x) < 2 ^ n := by
  have hp := put_lt hx hc
  have pp := Nat.two_pow_pos n
  have b1 := not_bit n h9 _ hp
  have b2 := not_bit n h9 c hc
  have l1 : 2 ^ n - 1 - (c ||| 2 ^ x) < 2 ^ n := by omega
  have l2 : 2 ^ n - 1 - c < 2 ^ n := by omega
  refine ⟨bl_inj (lt512 h9 (put_lt hx l1)) (lt512 h9 l2) fun i hi => ?_, ?_, l1⟩
  · rw [put_bit, b1 i hi, b2 i hi, put_bit]
    by_cases e : x = i
    · subst e
      rw [cx, decide_eq_true hx]
      simp
    · simp [e]
  · rw [b1 x (by omega), put_bit]
    simp
theorem dual_eq {n : Nat} {r : Nat → Nat} (h9 : n ≤ 9) (f : Rf n r) {c : Nat} (hc : c < 2 ^ n) : r (2 ^ n - 1) ≤ sz c + r (2 ^ n - 1 - c) := by
  have pp := Nat.two_pow_pos n
  have := sz_parts (2 ^ n - 1) c (2 ^ n - 1 - c) fun i hi h => by
    have hin := lt_of_bit (show 2 ^ n - 1 < 2 ^ n by omega) h
    rw [not_bit n h9 c hc i hi, decide_eq_true hin, Bool.true_and]
  have e1 : (2 ^ n - 1) &&& c = c := by rw [Nat.and_comm]; exact all_and hc
  have e2 : (2 ^ n - 1) &&& (2 ^ n - 1 - c) = 2 ^ n - 1 - c := by rw [Nat.and_comm]; exact all_and (by omega)
  rw [e1, e2] at this
  have hs : sub (2 ^ n - 1 - c) (2 ^ n - 1) := by unfold sub; exact all_and (by omega)
  have := (f.mono h9 (show 2 ^ n - 1 < 2 ^ n by omega) hs).2
  omega
theorem dual_rf {n : Nat} {r : Nat → Nat} (h9 : n ≤ 9) (f : Rf n r) : Rf n (dualR n r) := by
  have st : ∀ c x, c < 2 ^ n → x < n → c.testBit x = false → dualR n r (c ||| 2 ^ x) + (r (2 ^ n - 1 - c) - r (2 ^ n - 1 - (c ||| 2 ^ x))) = dualR n r c + 1 ∧ (r (2 ^ n - 1 - c) = r (2 ^ n - 1 - (c ||| 2 ^ x)) ∨ r (2 ^ n - 1 - c) = r (2 ^ n - 1 - (c ||| 2 ^ x)) + 1) := fun c x hc hx cx => by
    obtain ⟨o1, o2, o3⟩ := out_put h9 hc hx cx
    have s := f.step _ x o3 hx o2
    rw [o1] at s
    have d1 := dual_eq h9 f hc
    have d2 := dual_eq h9 f (put_lt hx hc)
    have hz := sz_put (by omega : x < 9) (lt512 h9 hc) cx
    unfold dualR
    rcases s with s | s <;> omega
  refine ⟨?_, fun c x hc hx cx => ?_, fun c x y hc hx hy cx cy h1 h2 => ?_⟩
  · unfold dualR
    rw [sz_zero, Nat.sub_zero]
    omega
  · obtain ⟨a, b⟩ := st c x hc hx cx
    rcases b with b | b <;> omega
  · by_cases e : x = y
    · subst e
      rw [put_put]
      exact h1
    have hcx := put_lt hx hc
    have hcy := put_lt hy hc
    obtain ⟨a1, b1⟩ := st c x hc hx cx
    obtain ⟨a2, b2⟩ := st c y hc hy cy
    obtain ⟨a3, b3⟩ := st (c ||| 2 ^ x) y hcx hy (bit_put_ne cy e)
    have b4 := (st (c ||| 2 ^ y) x hcy hx (bit_put_ne cx (Ne.symm e))).2
    rw [put_comm c y x] at b4
    obtain ⟨o1, o2, o3⟩ := out_put h9 hcx hy (bit_put_ne cy e)
    obtain ⟨p1, p2, p3⟩ := out_put h9 hcy hx (bit_put_ne cx (Ne.symm e))
    rw [put_comm c y x] at p1 p2 p3
    have q := f.loc (2 ^ n - 1 - (c ||| 2 ^ x ||| 2 ^ y)) x y o3 hx hy p2 o2
    rw [p1, o1] at q
    rw [(out_put h9 hc hy cy).1] at q
    have : ¬ (r (2 ^ n - 1 - (c ||| 2 ^ y)) = r (2 ^ n - 1 - (c ||| 2 ^ x ||| 2 ^ y)) ∧ r (2 ^ n - 1 - (c ||| 2 ^ x)) = r (2 ^ n - 1 - (c ||| 2 ^ x ||| 2 ^ y))) := fun z => by
      have := q z.1 z.2
      omega
    omega
/-! ### cut down -/
def cutR (m : Nat) (r : Nat → Nat) (c : Nat) : Nat := min (r c) m
theorem cut_rf {n m : Nat} {r : Nat → Nat} (f : Rf n r) : Rf n (cutR m r) := by
  refine ⟨by unfold cutR; rw [f.zero]; omega, fun c x hc hx cx => ?_, fun c x y hc hx hy cx cy h1 h2 => ?_⟩
  · unfold cutR
    rcases f.step c x hc hx cx with q | q <;> omega
  · by_cases e : x = y
    · subst e
      rw [put_put]
      exact h1
    unfold cutR at h1 h2 ⊢
    have hcx := put_lt hx hc
    have sx := f.step c x hc hx cx
    have sy := f.step c y hc hy cy
    have sxy := f.step (c ||| 2 ^ x) y hcx hy (bit_put_ne cy e)
    by_cases big : m ≤ r c
    · omega
    · have := f.loc c x y hc hx hy cx cy (by omega) (by omega)
      omega
/-! ### any lots of one size of at most three things -/
def rfB (n : Nat) (r : Nat → Nat) : Bool := r 0 == 0 && (List.range (2 ^ n)).all fun c => (List.range n).all fun x => c.testBit x || ((r (c ||| 2 ^ x) == r c || r (c ||| 2 ^ x) == r c + 1) && (List.range n).all fun y => c.testBit y || !(r (c ||| 2 ^ x) == r c && r (c ||| 2 ^ y) == r c) || r (c ||| 2 ^ x ||| 2 ^ y) == r c)
theorem rf_of {n : Nat} {r : Nat → Nat} (h : rfB n r = true) : Rf n r := by
  unfold rfB at h
  rw [Bool.and_eq_true, List.all_eq_true, beq_iff_eq] at h
  have st : ∀ c x, c < 2 ^ n → x < n → c.testBit x = false → (r (c ||| 2 ^ x) = r c ∨ r (c ||| 2 ^ x) = r c + 1) ∧ ∀ y, y < n → c.testBit y = false → r (c ||| 2 ^ x) = r c → r (c ||| 2 ^ y) = r c → r (c ||| 2 ^ x ||| 2 ^ y) = r c := fun c x hc hx cx => by
    have h1 := List.all_eq_true.mp (h.2 c (List.mem_range.mpr hc)) x (List.mem_range.mpr hx)
    rw [cx, Bool.false_or, Bool.and_eq_true, Bool.or_eq_true, beq_iff_eq, beq_iff_eq, List.all_eq_true] at h1
    refine ⟨h1.1, fun y hy cy a b => ?_⟩
    have := h1.2 y (List.mem_range.mpr hy)
    rw [cy, a, b] at this
    simpa using this
  exact ⟨h.1, fun c x hc hx cx => (st c x hc hx cx).1, fun c x y hc hx hy cx cy => (st c x hc hx cx).2 y hy cy⟩
theorem most30 : ((List.range 4).all fun n => (List.range (2 ^ n)).all fun a => (List.range (2 ^ n)).all fun b => !(sz a == sz b) || (List.range (2 ^ n)).all fun c => !(sz b == sz c) || rfB n (rkN [a, b, c])) = true := by decide +kernel
theorem most3 {n a b c : Nat} (hn : n < 4) (ha : a < 2 ^ n) (hb : b < 2 ^ n) (h1 : sz a = sz b) (hc : c < 2 ^ n) (h2 : sz b = sz c) : rfB n (rkN [a, b, c]) = true := by
  have := List.all_eq_true.mp (List.all_eq_true.mp (List.all_eq_true.mp most30 n (List.mem_range.mpr hn)) a (List.mem_range.mpr ha)) b (List.mem_range.mpr hb)
  rw [beq_iff_eq.mpr h1, Bool.not_true, Bool.false_or] at this
  have := List.all_eq_true.mp this c (List.mem_range.mpr hc)
  rw [beq_iff_eq.mpr h2, Bool.not_true, Bool.false_or] at this
  exact this
theorem rk1 (a : Nat) : rkN [a] = rkN [a, a, a] := funext fun c => by simp [rkN]
theorem rk2 (a b : Nat) : rkN [a, b] = rkN [a, b, b] := funext fun c => by simp [rkN]
theorem most_rf {n m : Nat} {L : List Nat} (hn : n < 4) (h0 : 0 < L.length) (h3 : L.length ≤ 3) (h : ∀ c ∈ L, c < 2 ^ n ∧ sz c = m) : Rf n (rkN L) := by
  match L, h0, h3, h with
  | [a], _, _, h =>
    have ha := h a (by simp)
    rw [rk1]
    exact rf_of (most3 hn ha.1 ha.1 rfl ha.1 rfl)
  | [a, b], _, _, h =>
    have ha := h a (by simp)
    have hb := h b (by simp)
    rw [rk2]
    exact rf_of (most3 hn ha.1 hb.1 (by omega) hb.1 rfl)
  | [a, b, c], _, _, h =>
    have ha := h a (by simp)
    have hb := h b (by simp)
    have hc := h c (by simp)
    exact rf_of (most3 hn ha.1 hb.1 (by omega) hc.1 (by omega))
end PL
namespace PL
open PySem PySem.Spec L2 VS
open PyProof.Rows hiding St

/-! ### columns of bits -/
inductive Sp (P : Nat → Prop) : Nat → Prop
  | zero : Sp P 0
  | add {v w : Nat} : Sp P v → P w → Sp P (v ^^^ w)
theorem Sp.one {P : Nat → Prop} {w : Nat} (h : P w) : Sp P w := by
  have := Sp.add (P := P) .zero h
  rw [Nat.zero_xor] at this
  exact this
theorem Sp.xor {P : Nat → Prop} {v w : Nat} (h : Sp P v) (k : Sp P w) : Sp P (v ^^^ w) := by
  induction k with
  | zero => rw [Nat.xor_zero]; exact h
  | add _ hw ih =>
    rw [← Nat.xor_assoc]
    exact .add ih hw
theorem Sp.mono {P Q : Nat → Prop} {v : Nat} (h : Sp P v) (k : ∀ w, P w → Sp Q w) : Sp Q v := by
  induction h with
  | zero => exact .zero
  | add _ hw ih => exact ih.xor (k _ hw)
theorem log_bit {w : Nat} (h : w ≠ 0) : w.testBit w.log2 = true := by
  have := (Nat.log2_eq_iff h).mp rfl
  rw [Nat.testBit_eq_decide_div_mod_eq]
  have h2 : w / 2 ^ w.log2 = 1 := by
    rw [Nat.div_eq_iff (Nat.two_pow_pos _)]
    have e : 2 ^ (w.log2 + 1) = 2 ^ w.log2 * 2 := Nat.pow_succ ..
    omega
  rw [h2]
  rfl
theorem log_above {w i : Nat} (h : w.log2 < i) : w.testBit i = false := by
  by_cases h0 : w = 0
  · rw [h0]; exact Nat.zero_testBit i
  · exact Nat.testBit_lt_two_pow ((Nat.log2_lt h0).mp h)
theorem log_of {w k : Nat} (h1 : w.testBit k = true) (h2 : ∀ i, k < i → w.testBit i = false) : w ≠ 0 ∧ w.log2 = k := by
  have h0 : w ≠ 0 := fun e => by
    rw [e, Nat.zero_testBit] at h1
    cases h1
  refine ⟨h0, ?_⟩
  rcases Nat.lt_trichotomy w.log2 k with q | q | q
  · rw [log_above q] at h1; cases h1
  · exact q
  · have := h2 _ q
    rw [log_bit h0] at this
    cases this
theorem lt_bit {x y i : Nat} (hx : x.testBit i = false) (hy : y.testBit i = true) (h : ∀ j, i < j → x.testBit j = y.testBit j) : x < y := by
  have e : x / 2 ^ (i + 1) = y / 2 ^ (i + 1) := by
    apply Nat.eq_of_testBit_eq
    intro j
    rw [Nat.testBit_div_two_pow, Nat.testBit_div_two_pow]
    exact h _ (by omega)
  rw [Nat.testBit_eq_decide_div_mod_eq] at hx hy
  have hx := of_decide_eq_false hx
  have hy := of_decide_eq_true hy
  rw [Nat.pow_succ, ← Nat.div_div_eq_div_mul, ← Nat.div_div_eq_div_mul] at e
  apply Classical.byContradiction
  intro q
  have := Nat.div_le_div_right (c := 2 ^ i) (show y ≤ x by omega)
  omega
theorem min_clear {a w : Nat} (h : w ≠ 0) : (min a (a ^^^ w)).testBit w.log2 = false ∧ (min a (a ^^^ w) = a ∨ min a (a ^^^ w) = a ^^^ w) := by
  have hb := log_bit h
  have hi : ∀ j, w.log2 < j → a.testBit j = (a ^^^ w).testBit j := fun j hj => by
    rw [Nat.testBit_xor, log_above hj, Bool.xor_false]
  cases q : a.testBit w.log2 with
  | false =>
    have q2 : (a ^^^ w).testBit w.log2 = true := by rw [Nat.testBit_xor, q, hb]; rfl
    have := lt_bit q q2 hi
    rw [Nat.min_eq_left (Nat.le_of_lt this)]
    exact ⟨q, .inl rfl⟩
  | true =>
    have q2 : (a ^^^ w).testBit w.log2 = false := by rw [Nat.testBit_xor, q, hb]; rfl
    have := lt_bit q2 q fun j hj => (hi j hj).symm
    rw [Nat.min_eq_right (Nat.le_of_lt this)]
    exact ⟨q2, .inr rfl⟩
def red (F : List Nat) (v : Nat) : Nat := F.foldl (fun rest part => min rest (rest ^^^ part)) v
theorem red_snoc (F : List Nat) (w v : Nat) : red (F ++ [w]) v = min (red F v) (red F v ^^^ w) := by
  unfold red
  rw [List.foldl_append]
  rfl
inductive Red : List Nat → Prop
  | nil : Red []
  | snoc {F : List Nat} {w : Nat} : Red F → (∀ p ∈ F, w.testBit p.log2 = false) → w ≠ 0 → Red (F ++ [w])
theorem Red.ne {F : List Nat} (h : Red F) : ∀ p ∈ F, p ≠ 0 := by
  induction h with
  | nil => exact fun p hp => nomatch hp
  | snoc _ _ h0 ih =>
    intro p hp
    rcases List.mem_append.mp hp with hp | hp
    · exact ih p hp
    · rw [List.mem_singleton] at hp
      exact hp ▸ h0
theorem red_in {F : List Nat} (h : Red F) (v : Nat) : ∃ u, Sp (· ∈ F) u ∧ red F v = v ^^^ u := by
  induction h with
  | nil => exact ⟨0, .zero, by rw [Nat.xor_zero]; rfl⟩
  | @snoc F w _ _ h0 ih =>
    obtain ⟨u, h1, h2⟩ := ih
    have up : Sp (· ∈ F ++ [w]) u := h1.mono fun p hp => .one (List.mem_append_left _ hp)
    rw [red_snoc]
    rcases (min_clear (a := red F v) h0).2 with q | q
    · exact ⟨u, up, by rw [q, h2]⟩
    · exact ⟨u ^^^ w, .add up (by simp), by rw [q, h2, Nat.xor_assoc]⟩
theorem red_no {F : List Nat} (h : Red F) (v : Nat) : ∀ p ∈ F, (red F v).testBit p.log2 = false := by
  induction h with
  | nil => exact fun p hp => nomatch hp
  | @snoc F w _ hw h0 ih =>
    intro p hp
    rw [red_snoc]
    obtain ⟨h1, h2⟩ := min_clear (a := red F v) h0
    rcases List.mem_append.mp hp with hp | hp
    · rcases h2 with q | q
      · rw [q]; exact ih p hp
      · rw [q, Nat.testBit_xor, ih p hp, hw p hp]; rfl
    · rw [List.mem_singleton] at hp
      rw [hp]
      exact h1
theorem sp_snoc {F : List Nat} {w u : Nat} (h : Sp (· ∈ F ++ [w]) u) : ∃ t, Sp (· ∈ F) t ∧ (u = t ∨ u = t ^^^ w) := by
  induction h with
  | zero => exact ⟨0, .zero, .inl rfl⟩
  | @add v p _ hp ih =>
    obtain ⟨t, h1, h2⟩ := ih
    rcases List.mem_append.mp hp with hp | hp
    · refine ⟨t ^^^ p, .add h1 hp, ?_⟩
      rcases h2 with rfl | rfl
      · exact .inl rfl
      · exact .inr (by rw [Nat.xor_assoc, Nat.xor_comm w, ← Nat.xor_assoc])
    · rw [List.mem_singleton] at hp
      subst hp
      rcases h2 with rfl | rfl
      · exact ⟨_, h1, .inr rfl⟩
      · exact ⟨t, h1, .inl (by rw [Nat.xor_assoc, Nat.xor_self, Nat.xor_zero])⟩
theorem low_zero {F : List Nat} (h : Red F) : ∀ u, Sp (· ∈ F) u → (∀ p ∈ F, u.testBit p.log2 = false) → u = 0 := by
  induction h with
  | nil =>
    intro u hu _
    cases hu with
    | zero => rfl
    | add _ hp => cases hp
  | @snoc F w _ hw h0 ih =>
    intro u hu hn
    obtain ⟨t, h1, h2⟩ := sp_snoc hu
    have ht : t = 0 := ih t h1 fun p hp => by
      have := hn p (List.mem_append_left _ hp)
      rcases h2 with q | q
      · rw [← q]; exact this
      · rw [q, Nat.testBit_xor, hw p hp, Bool.xor_false] at this
        exact this
    rcases h2 with q | q
    · rw [q, ht]
    · rw [ht, Nat.zero_xor] at q
      have := hn w (by simp)
      rw [q, log_bit h0] at this
      cases this
theorem red_iff {F : List Nat} (h : Red F) (v : Nat) : red F v = 0 ↔ Sp (· ∈ F) v := by
  obtain ⟨u, h1, h2⟩ := red_in h v
  constructor
  · intro q
    rw [q] at h2
    have e : v = u := by
      have := congrArg (fun z => z ^^^ u) h2
      simp only [Nat.zero_xor, Nat.xor_assoc, Nat.xor_self, Nat.xor_zero] at this
      exact this.symm
    exact e ▸ h1
  · intro hv
    exact low_zero h _ (h2 ▸ hv.xor h1) (red_no h v)
theorem red_top {F : List Nat} (h : Red F) : ∀ u, Sp (· ∈ F) u → u ≠ 0 → ∃ p ∈ F, u.log2 = p.log2 := by
  induction h with
  | nil =>
    intro u hu h0
    cases hu with
    | zero => exact absurd rfl h0
    | add _ hp => cases hp
  | @snoc F w hF hw h0 ih =>
    intro u hu hu0
    obtain ⟨t, h1, h2⟩ := sp_snoc hu
    by_cases ht : t = 0
    · rcases h2 with q | q
      · exact absurd (q.trans ht) hu0
      · rw [ht, Nat.zero_xor] at q
        exact ⟨w, by simp, by rw [q]⟩
    · obtain ⟨p, hp, e⟩ := ih t h1 ht
      rcases h2 with q | q
      · exact ⟨p, List.mem_append_left _ hp, by rw [q, e]⟩
      · rcases Nat.lt_trichotomy t.log2 w.log2 with z | z | z
        · refine ⟨w, by simp, (log_of ?_ fun i hi => ?_).2⟩
          · rw [q, Nat.testBit_xor, log_above z, log_bit h0]; rfl
          · rw [q, Nat.testBit_xor, log_above (Nat.lt_trans z hi), log_above hi]; rfl
        · have := hw p hp
          rw [← e, z, log_bit h0] at this
          cases this
        · refine ⟨p, List.mem_append_left _ hp, ?_⟩
          rw [← e]
          refine (log_of ?_ fun i hi => ?_).2
          · rw [q, Nat.testBit_xor, log_bit ht, log_above z]; rfl
          · rw [q, Nat.testBit_xor, log_above hi, log_above (Nat.lt_trans z hi)]; rfl
theorem red_nodup {F : List Nat} (h : Red F) : (F.map Nat.log2).Nodup := by
  induction h with
  | nil => exact List.nodup_nil
  | @snoc F w _ hw h0 ih =>
    rw [List.map_append, List.map_cons, List.map_nil, List.nodup_append]
    refine ⟨ih, by simp, fun a ha b hb => ?_⟩
    obtain ⟨p, hp, rfl⟩ := List.mem_map.mp ha
    rw [List.mem_singleton] at hb
    subst hb
    intro e
    have := hw p hp
    rw [e, log_bit h0] at this
    cases this
theorem red_le {F G : List Nat} (h : Red F) (k : Red G) (hs : ∀ u, Sp (· ∈ F) u → Sp (· ∈ G) u) : F.length ≤ G.length := by
  have := nodup_le (F.map Nat.log2) (G.map Nat.log2) (red_nodup h) fun a ha => by
    obtain ⟨p, hp, rfl⟩ := List.mem_map.mp ha
    obtain ⟨q, hq, e⟩ := red_top k p (hs p (.one hp)) (h.ne p hp)
    exact List.mem_map.mpr ⟨q, hq, e.symm⟩
  rw [List.length_map, List.length_map] at this
  exact this
/-! ### frames of lots of columns -/
def colP (col : Nat → Nat) (c w : Nat) : Prop := ∃ x, c.testBit x = true ∧ w = col x
structure FrOk (col : Nat → Nat) (c : Nat) (F : List Nat) : Prop where
  rd : Red F
  span : ∀ u, Sp (· ∈ F) u ↔ Sp (colP col c) u
theorem FrOk.len {col : Nat → Nat} {c : Nat} {F G : List Nat} (h : FrOk col c F) (k : FrOk col c G) : F.length = G.length :=
  Nat.le_antisymm (red_le h.rd k.rd fun u hu => (k.span u).mpr ((h.span u).mp hu)) (red_le k.rd h.rd fun u hu => (h.span u).mpr ((k.span u).mp hu))
theorem fr_zero (col : Nat → Nat) : FrOk col 0 [] := by
  refine ⟨.nil, fun u => ⟨fun q => q.mono fun w hw => ?_, fun q => q.mono fun w hw => ?_⟩⟩
  · cases hw
  · obtain ⟨x, hx, _⟩ := hw
    rw [Nat.zero_testBit] at hx
    cases hx
theorem FrOk.put {col : Nat → Nat} {c x : Nat} {F : List Nat} (h : FrOk col c F) : FrOk col (c ||| 2 ^ x) (if red F (col x) = 0 then F else F ++ [red F (col x)]) := by
  have pc : ∀ w, colP col (c ||| 2 ^ x) w → colP col c w ∨ w = col x := fun w ⟨y, hy, e⟩ => by
    rw [put_bit, Bool.or_eq_true, decide_eq_true_eq] at hy
    rcases hy with hy | rfl
    · exact .inl ⟨y, hy, e⟩
    · exact .inr e
  have up : ∀ w, colP col c w → colP col (c ||| 2 ^ x) w := fun w ⟨y, hy, e⟩ => ⟨y, by rw [put_bit, hy]; rfl, e⟩
  have own : colP col (c ||| 2 ^ x) (col x) := ⟨x, by rw [put_bit]; simp, rfl⟩
  obtain ⟨u, h1, h2⟩ := red_in h.rd (col x)
  by_cases q : red F (col x) = 0
  · rw [if_pos q]
    have hx := (red_iff h.rd _).mp q
    refine ⟨h.rd, fun v => ⟨fun hv => ((h.span v).mp hv).mono fun w hw => .one (up w hw), fun hv => hv.mono fun w hw => ?_⟩⟩
    rcases pc w hw with hw | rfl
    · exact (h.span w).mpr (.one hw)
    · exact hx
  · rw [if_neg q]
    refine ⟨.snoc h.rd (red_no h.rd _) q, fun v => ⟨fun hv => hv.mono fun w hw => ?_, fun hv => hv.mono fun w hw => ?_⟩⟩
    · rcases List.mem_append.mp hw with hw | hw
      · exact ((h.span w).mp (.one hw)).mono fun z hz => .one (up z hz)
      · rw [List.mem_singleton] at hw
        rw [hw, h2]
        exact (Sp.one own).xor (((h.span u).mp h1).mono fun z hz => .one (up z hz))
    · have uF : Sp (· ∈ F ++ [red F (col x)]) u := h1.mono fun z hz => .one (List.mem_append_left _ hz)
      rcases pc w hw with hw | rfl
      · exact ((h.span w).mpr (.one hw)).mono fun z hz => .one (List.mem_append_left _ hz)
      · have e : col x = red F (col x) ^^^ u := by rw [h2, Nat.xor_assoc, Nat.xor_self, Nat.xor_zero]
        have q2 : Sp (· ∈ F ++ [red F (col x)]) (red F (col x) ^^^ u) := (Sp.one (by simp)).xor uF
        rw [← e] at q2
        exact q2
theorem FrOk.same {col col' : Nat → Nat} {c : Nat} {F : List Nat} (h : FrOk col c F) (k : ∀ x, c.testBit x = true → col x = col' x) : FrOk col' c F := by
  refine ⟨h.rd, fun u => (h.span u).trans ⟨fun q => q.mono fun w ⟨x, hx, e⟩ => .one ⟨x, hx, by rw [e, k x hx]⟩, fun q => q.mono fun w ⟨x, hx, e⟩ => .one ⟨x, hx, by rw [e, k x hx]⟩⟩⟩
theorem col_rf {n : Nat} {col r : Nat → Nat} (h : ∀ c < 2 ^ n, ∃ F, FrOk col c F ∧ r c = F.length) : Rf n r := by
  have st : ∀ c x, c < 2 ^ n → x < n → ∃ F, FrOk col c F ∧ r c = F.length ∧ r (c ||| 2 ^ x) = (if red F (col x) = 0 then F else F ++ [red F (col x)]).length := fun c x hc hx => by
    obtain ⟨F, h1, h2⟩ := h c hc
    obtain ⟨G, h3, h4⟩ := h _ (put_lt hx hc)
    exact ⟨F, h1, h2, by rw [h4]; exact h3.len (h1.put (x := x))⟩
  refine ⟨?_, fun c x hc hx _ => ?_, fun c x y hc hx hy cx cy h1 h2 => ?_⟩
  · obtain ⟨F, h1, h2⟩ := h 0 (Nat.two_pow_pos n)
    rw [h2]
    exact h1.len (fr_zero col)
  · obtain ⟨F, h1, h2, h3⟩ := st c x hc hx
    rw [h3, h2]
    split
    · exact .inl rfl
    · rw [List.length_append, List.length_singleton]
      exact .inr rfl
  · obtain ⟨F, f1, f2, f3⟩ := st c x hc hx
    have zx : red F (col x) = 0 := Classical.byContradiction fun q => by
      rw [if_neg q, List.length_append, List.length_singleton] at f3
      omega
    obtain ⟨G, g1, g2, g3⟩ := st c y hc hy
    have zy : red F (col y) = 0 := by
      have q : red G (col y) = 0 := Classical.byContradiction fun q => by
        rw [if_neg q, List.length_append, List.length_singleton] at g3
        omega
      exact (red_iff f1.rd _).mpr ((f1.span _).mpr ((g1.span _).mp ((red_iff g1.rd _).mp q)))
    have fx := f1.put (x := x)
    rw [if_pos zx] at fx
    have fy := fx.put (x := y)
    rw [if_pos zy] at fy
    obtain ⟨H, h5, h6⟩ := h _ (put_lt hy (put_lt hx hc))
    rw [h6, h5.len fy, f2]
end PL
namespace PL
open PySem PySem.Spec L2 VS
open PyProof.Rows hiding St

/-! ### columns over a field of p numbers -/
section
variable {p : Nat} [NeZero p]
abbrev Vec (p : Nat) : Type := Nat → Fin p
/-- each number but nought has an inverse -/
def HasInv (p : Nat) [NeZero p] : Prop := ∀ a : Fin p, a ≠ 0 → ∃ b : Fin p, b * a = 1
inductive SpV (P : Vec p → Prop) : Vec p → Prop
  | zero : SpV P (fun _ => 0)
  | add {v w : Vec p} (k : Fin p) : SpV P v → P w → SpV P (fun i => v i + k * w i)
theorem SpV.cast {P : Vec p → Prop} {v w : Vec p} (h : SpV P v) (e : ∀ i, v i = w i) : SpV P w := by
  have : v = w := funext e
  rw [← this]
  exact h
theorem SpV.one {P : Vec p → Prop} {w : Vec p} (h : P w) : SpV P w := (SpV.add 1 .zero h).cast fun i => by grind
theorem SpV.plus {P : Vec p → Prop} {v w : Vec p} (h : SpV P v) (k : SpV P w) (c : Fin p) : SpV P (fun i => v i + c * w i) := by
  induction k with
  | zero => exact h.cast fun i => by grind
  | @add a b d _ hb ih => exact (SpV.add (c * d) ih hb).cast fun i => by grind
theorem SpV.mono {P Q : Vec p → Prop} {v : Vec p} (h : SpV P v) (k : ∀ w, P w → SpV Q w) : SpV Q v := by
  induction h with
  | zero => exact .zero
  | @add a b d _ hw ih => exact ih.plus (k _ hw) d
abbrev FrV (p : Nat) : Type := List (Nat × Vec p)
def inF (F : FrV p) (w : Vec p) : Prop := ∃ q ∈ F, q.2 = w
def leadV (v : Vec p) (i : Nat) : Prop := v i ≠ 0 ∧ ∀ j, j < i → v j = 0
theorem leadV.one {v : Vec p} {i j : Nat} (h : leadV v i) (k : leadV v j) : i = j := by
  rcases Nat.lt_trichotomy i j with q | q | q
  · exact absurd (k.2 i q) h.1
  · exact q
  · exact absurd (h.2 j q) k.1
theorem leadV.ex {v : Vec p} (h : ¬ ∀ i, v i = 0) : ∃ i, leadV v i := by
  have h1 : ∃ i, v i ≠ 0 := Classical.byContradiction fun q => h fun i => Classical.byContradiction fun z => q ⟨i, z⟩
  have g : ∀ m i, i < m → v i ≠ 0 → ∃ i, leadV v i := by
    intro m
    induction m with
    | zero => exact fun i hi => absurd hi (Nat.not_lt_zero i)
    | succ m ih =>
      intro i hi hv
      by_cases q : ∀ j, j < i → v j = 0
      · exact ⟨i, hv, q⟩
      · have : ∃ j, j < i ∧ v j ≠ 0 := Classical.byContradiction fun z => q fun j hj => Classical.byContradiction fun y => z ⟨j, hj, y⟩
        obtain ⟨j, hj, hvj⟩ := this
        exact ih j (by omega) hvj
  obtain ⟨i, hi⟩ := h1
  exact g (i + 1) i (Nat.lt_succ_self i) hi
inductive RedV : FrV p → Prop
  | nil : RedV []
  | snoc {F : FrV p} {i : Nat} {w : Vec p} : RedV F → (∀ q ∈ F, w q.1 = 0) → w i = 1 → (∀ j, j < i → w j = 0) → RedV (F ++ [(i, w)])
def redV (F : FrV p) (v : Vec p) : Vec p := F.foldl (fun s q => fun i => s i - s q.1 * q.2 i) v
theorem redV_snoc (F : FrV p) (q : Nat × Vec p) (v : Vec p) (i : Nat) : redV (F ++ [q]) v i = redV F v i - redV F v q.1 * q.2 i := by
  unfold redV
  rw [List.foldl_append]
  rfl
theorem inF.up {F : FrV p} {q : Nat × Vec p} {w : Vec p} (h : inF F w) : inF (F ++ [q]) w := by
  obtain ⟨r, hr, e⟩ := h
  exact ⟨r, List.mem_append_left _ hr, e⟩
theorem redV_in {F : FrV p} (v : Vec p) (h : RedV F) : ∃ u, SpV (inF F) u ∧ ∀ i, redV F v i = v i - u i := by
  induction h with
  | nil => exact ⟨_, .zero, fun i => by show v i = v i - 0; grind⟩
  | @snoc F i w _ _ h0 _ ih =>
    obtain ⟨u, h1, h2⟩ := ih
    have up : SpV (inF (F ++ [(i, w)])) u := h1.mono fun x hx => .one hx.up
    refine ⟨_, .add (redV F v i) up (w := w) ⟨(i, w), by simp, rfl⟩, fun j => ?_⟩
    rw [redV_snoc, h2 j]
    show v j - u j - redV F v i * w j = v j - (u j + redV F v i * w j)
    grind
theorem redV_no {F : FrV p} (v : Vec p) (h : RedV F) : ∀ q ∈ F, redV F v q.1 = 0 := by
  induction h with
  | nil => exact fun q hq => nomatch hq
  | @snoc F i w _ hw h0 _ ih =>
    intro q hq
    rw [redV_snoc]
    rcases List.mem_append.mp hq with hq | hq
    · rw [ih q hq]
      show 0 - redV F v i * w q.1 = 0
      rw [hw q hq]
      grind
    · rw [List.mem_singleton] at hq
      subst hq
      show redV F v i - redV F v i * w i = 0
      rw [h0]
      grind
theorem spV_snoc {F : FrV p} {q : Nat × Vec p} {u : Vec p} (h : SpV (inF (F ++ [q])) u) : ∃ t k, SpV (inF F) t ∧ ∀ i, u i = t i + k * q.2 i := by
  induction h with
  | zero => exact ⟨_, 0, .zero, fun i => by grind⟩
  | @add v w d _ hw ih =>
    obtain ⟨t, k, h1, h2⟩ := ih
    obtain ⟨r, hr, e⟩ := hw
    rcases List.mem_append.mp hr with hr | hr
    · refine ⟨_, k, .add d h1 ⟨r, hr, e⟩, fun i => ?_⟩
      show v i + d * w i = t i + d * w i + k * q.2 i
      rw [h2 i]
      grind
    · rw [List.mem_singleton] at hr
      subst hr
      refine ⟨t, k + d, h1, fun i => ?_⟩
      show v i + d * w i = _
      rw [h2 i, ← e]
      grind
theorem lowV {F : FrV p} (h : RedV F) : ∀ u, SpV (inF F) u → (∀ q ∈ F, u q.1 = 0) → ∀ i, u i = 0 := by
  induction h with
  | nil =>
    intro u hu _ i
    cases hu with
    | zero => rfl
    | add _ _ hw =>
      obtain ⟨_, hr, _⟩ := hw
      cases hr
  | @snoc F i w _ hw h0 _ ih =>
    intro u hu hn j
    obtain ⟨t, k, h1, h2⟩ := spV_snoc hu
    have ht : ∀ i, t i = 0 := ih t h1 fun q hq => by
      have := hn q (List.mem_append_left _ hq)
      have e := h2 q.1
      rw [this] at e
      have hz : w q.1 = 0 := hw q hq
      simp only [hz] at e
      grind
    have hk : k = 0 := by
      have := hn (i, w) (by simp)
      have e := h2 i
      simp only [h0, ht i] at e
      have t2 : u i = 0 := this
      grind
    rw [h2 j, ht j, hk]
    grind
theorem redV_iff {F : FrV p} (h : RedV F) (v : Vec p) : (∀ i, redV F v i = 0) ↔ SpV (inF F) v := by
  obtain ⟨u, h1, h2⟩ := redV_in v h
  constructor
  · intro q
    exact h1.cast fun i => by have := h2 i; have := q i; grind
  · intro hv
    have : SpV (inF F) (redV F v) := (hv.plus h1 (-1)).cast fun i => by rw [h2 i]; grind
    exact lowV h _ this (redV_no v h)
theorem redV_top (inv : HasInv p) {F : FrV p} (h : RedV F) : ∀ u, SpV (inF F) u → (¬ ∀ i, u i = 0) → ∃ q ∈ F, leadV u q.1 := by
  induction h with
  | nil =>
    intro u hu h0
    cases hu with
    | zero => exact absurd (fun _ => rfl) h0
    | add _ _ hw =>
      obtain ⟨_, hr, _⟩ := hw
      cases hr
  | @snoc F i w hF hw h0 hl ih =>
    intro u hu hu0
    obtain ⟨t, k, h1, h2⟩ := spV_snoc hu
    have h2 : ∀ j, u j = t j + k * w j := h2
    by_cases ht : ∀ i, t i = 0
    · refine ⟨(i, w), by simp, ?_, fun j hj => ?_⟩
      · intro e
        have e : u i = 0 := e
        rw [h2 i, ht i, h0] at e
        have hk : k = 0 := by grind
        exact hu0 fun j => by rw [h2 j, ht j, hk]; grind
      · have hj : j < i := hj
        rw [h2 j, ht j, hl j hj]
        grind
    · obtain ⟨q, hq, e1, e2⟩ := ih t h1 ht
      have wq := hw q hq
      rcases Nat.lt_trichotomy q.1 i with z | z | z
      · refine ⟨q, List.mem_append_left _ hq, ?_, fun j hj => ?_⟩
        · rw [h2, wq]
          intro e
          apply e1
          grind
        · rw [h2, e2 j hj, hl j (by omega)]
          grind
      · rw [z, h0] at wq
        exfalso
        obtain ⟨b, hb⟩ := inv _ e1
        rw [wq] at hb
        apply e1
        grind
      · by_cases hk : k = 0
        · refine ⟨q, List.mem_append_left _ hq, ?_, fun j hj => ?_⟩
          · rw [h2, hk]
            intro e
            apply e1
            grind
          · rw [h2, e2 j hj, hk]
            grind
        · refine ⟨(i, w), by simp, ?_, fun j hj => ?_⟩
          · show u i ≠ 0
            rw [h2 i, e2 i z, h0]
            intro e
            apply hk
            grind
          · have hj : j < i := hj
            rw [h2 j, e2 j (by omega), hl j hj]
            grind
theorem redV_nodup {F : FrV p} (h : RedV F) (one : (1 : Fin p) ≠ 0) : (F.map (·.1)).Nodup := by
  induction h with
  | nil => exact List.nodup_nil
  | @snoc F i w _ hw h0 _ ih =>
    rw [List.map_append, List.map_cons, List.map_nil, List.nodup_append]
    refine ⟨ih, by simp, fun a ha b hb => ?_⟩
    obtain ⟨q, hq, rfl⟩ := List.mem_map.mp ha
    rw [List.mem_singleton] at hb
    subst hb
    intro e
    have := hw q hq
    rw [e, h0] at this
    exact one this
theorem RedV.lead {F : FrV p} (h : RedV F) (one : (1 : Fin p) ≠ 0) : ∀ q ∈ F, leadV q.2 q.1 := by
  induction h with
  | nil => exact fun q hq => nomatch hq
  | @snoc F i w _ _ h0 hl ih =>
    intro q hq
    rcases List.mem_append.mp hq with hq | hq
    · exact ih q hq
    · rw [List.mem_singleton] at hq
      subst hq
      exact ⟨by show w i ≠ 0; rw [h0]; exact one, hl⟩
theorem redV_le (inv : HasInv p) (one : (1 : Fin p) ≠ 0) {F G : FrV p} (h : RedV F) (k : RedV G) (hs : ∀ u, SpV (inF F) u → SpV (inF G) u) : F.length ≤ G.length := by
  have := nodup_le (F.map (·.1)) (G.map (·.1)) (redV_nodup h one) fun a ha => by
    obtain ⟨q, hq, rfl⟩ := List.mem_map.mp ha
    have l := h.lead one q hq
    obtain ⟨g, hg, e⟩ := redV_top inv k q.2 (hs q.2 (.one ⟨q, hq, rfl⟩)) fun z => l.1 (z q.1)
    exact List.mem_map.mpr ⟨g, hg, (l.one e).symm⟩
  rw [List.length_map, List.length_map] at this
  exact this
/-! frames of lots of columns -/
def colV (col : Nat → Vec p) (c : Nat) (w : Vec p) : Prop := ∃ x, c.testBit x = true ∧ w = col x
structure FvOk (col : Nat → Vec p) (c : Nat) (F : FrV p) : Prop where
  rd : RedV F
  span : ∀ u, SpV (inF F) u ↔ SpV (colV col c) u
theorem FvOk.len (inv : HasInv p) (one : (1 : Fin p) ≠ 0) {col : Nat → Vec p} {c : Nat} {F G : FrV p} (h : FvOk col c F) (k : FvOk col c G) : F.length = G.length :=
  Nat.le_antisymm (redV_le inv one h.rd k.rd fun u hu => (k.span u).mpr ((h.span u).mp hu)) (redV_le inv one k.rd h.rd fun u hu => (h.span u).mpr ((k.span u).mp hu))
theorem fv_zero (col : Nat → Vec p) : FvOk col 0 [] := by
  refine ⟨.nil, fun u => ⟨fun q => q.mono fun w hw => ?_, fun q => q.mono fun w hw => ?_⟩⟩
  · obtain ⟨_, hr, _⟩ := hw
    cases hr
  · obtain ⟨x, hx, _⟩ := hw
    rw [Nat.zero_testBit] at hx
    cases hx
theorem colV_put {col : Nat → Vec p} {c x : Nat} {w : Vec p} (h : colV col (c ||| 2 ^ x) w) : colV col c w ∨ w = col x := by
  obtain ⟨y, hy, e⟩ := h
  rw [put_bit, Bool.or_eq_true, decide_eq_true_eq] at hy
  rcases hy with hy | rfl
  · exact .inl ⟨y, hy, e⟩
  · exact .inr e
theorem colV_up {col : Nat → Vec p} {c x : Nat} {w : Vec p} (h : colV col c w) : colV col (c ||| 2 ^ x) w := by
  obtain ⟨y, hy, e⟩ := h
  exact ⟨y, by rw [put_bit, hy]; rfl, e⟩
theorem colV_own (col : Nat → Vec p) (c x : Nat) : colV col (c ||| 2 ^ x) (col x) := ⟨x, by rw [put_bit]; simp, rfl⟩
theorem FvOk.in {col : Nat → Vec p} {c x : Nat} {F : FrV p} (h : FvOk col c F) (q : ∀ i, redV F (col x) i = 0) : FvOk col (c ||| 2 ^ x) F := by
  have hx := (redV_iff h.rd _).mp q
  refine ⟨h.rd, fun v => ⟨fun hv => ((h.span v).mp hv).mono fun w hw => .one (colV_up hw), fun hv => hv.mono fun w hw => ?_⟩⟩
  rcases colV_put hw with hw | rfl
  · exact (h.span w).mpr (.one hw)
  · exact hx
theorem FvOk.out {col : Nat → Vec p} {c x i : Nat} {b : Fin p} {F : FrV p} {w : Vec p} (h : FvOk col c F) (l : leadV (redV F (col x)) i) (hb : b * redV F (col x) i = 1) (hw : ∀ j, w j = b * redV F (col x) j) : FvOk col (c ||| 2 ^ x) (F ++ [(i, w)]) := by
  obtain ⟨u, h1, h2⟩ := redV_in (col x) h.rd
  refine ⟨.snoc h.rd (fun q hq => ?_) ?_ fun j hj => ?_, fun v => ⟨fun hv => hv.mono fun z hz => ?_, fun hv => hv.mono fun z hz => ?_⟩⟩
  · rw [hw, redV_no (col x) h.rd q hq]
    grind
  · rw [hw, hb]
  · rw [hw, l.2 j hj]
    grind
  · obtain ⟨r, hr, e⟩ := hz
    rcases List.mem_append.mp hr with hr | hr
    · exact ((h.span z).mp (.one ⟨r, hr, e⟩)).mono fun y hy => .one (colV_up hy)
    · rw [List.mem_singleton] at hr
      subst hr
      have su : SpV (colV col (c ||| 2 ^ x)) u := ((h.span u).mp h1).mono fun y hy => .one (colV_up hy)
      have s1 : SpV (colV col (c ||| 2 ^ x)) (fun j => col x j + (-1) * u j) := (SpV.one (colV_own col c x)).plus su (-1)
      exact (SpV.zero.plus s1 b).cast fun j => by
        have e2 : w j = z j := congrFun e j
        rw [← e2, hw, h2 j]
        grind
  · have uF : SpV (inF (F ++ [(i, w)])) u := h1.mono fun y hy => .one hy.up
    rcases colV_put hz with hz | rfl
    · exact ((h.span z).mpr (.one hz)).mono fun y hy => .one hy.up
    · have s1 : SpV (inF (F ++ [(i, w)])) (fun j => u j + redV F (col x) i * w j) := uF.plus (.one ⟨(i, w), by simp, rfl⟩) _
      refine s1.cast fun j => ?_
      rw [hw]
      have e := h2 j
      have e3 : redV F (col x) i * (b * redV F (col x) j) = redV F (col x) j := by
        have : redV F (col x) i * (b * redV F (col x) j) = (b * redV F (col x) i) * redV F (col x) j := by grind
        rw [this, hb]
        grind
      rw [e3]
      grind
theorem FvOk.same {col col' : Nat → Vec p} {c : Nat} {F : FrV p} (h : FvOk col c F) (k : ∀ x, c.testBit x = true → col x = col' x) : FvOk col' c F := by
  refine ⟨h.rd, fun u => (h.span u).trans ⟨fun q => q.mono fun w ⟨x, hx, e⟩ => .one ⟨x, hx, by rw [e, k x hx]⟩, fun q => q.mono fun w ⟨x, hx, e⟩ => .one ⟨x, hx, by rw [e, k x hx]⟩⟩⟩
theorem FvOk.next (inv : HasInv p) {col : Nat → Vec p} {c : Nat} (x : Nat) {F : FrV p} (h : FvOk col c F) : ∃ G, FvOk col (c ||| 2 ^ x) G ∧ (((∀ i, redV F (col x) i = 0) ∧ G = F) ∨ ((¬ ∀ i, redV F (col x) i = 0) ∧ G.length = F.length + 1)) := by
  by_cases q : ∀ i, redV F (col x) i = 0
  · exact ⟨F, h.in q, .inl ⟨q, rfl⟩⟩
  · obtain ⟨i, l⟩ := leadV.ex q
    obtain ⟨b, hb⟩ := inv _ l.1
    exact ⟨_, h.out (w := fun j => b * redV F (col x) j) l hb fun _ => rfl, .inr ⟨q, by rw [List.length_append, List.length_singleton]⟩⟩
theorem colV_rf (inv : HasInv p) (one : (1 : Fin p) ≠ 0) {n : Nat} {col : Nat → Vec p} {r : Nat → Nat} (h : ∀ c < 2 ^ n, ∃ F, FvOk col c F ∧ r c = F.length) : Rf n r := by
  have st : ∀ c x, c < 2 ^ n → x < n → ∃ F, FvOk col c F ∧ r c = F.length ∧ (((∀ i, redV F (col x) i = 0) ∧ FvOk col (c ||| 2 ^ x) F ∧ r (c ||| 2 ^ x) = r c) ∨ ((¬ ∀ i, redV F (col x) i = 0) ∧ r (c ||| 2 ^ x) = r c + 1)) := fun c x hc hx => by
    obtain ⟨F, h1, h2⟩ := h c hc
    obtain ⟨G, h3, h4⟩ := h _ (put_lt hx hc)
    obtain ⟨G2, h5, h6⟩ := h1.next inv x
    have e := h3.len inv one h5
    refine ⟨F, h1, h2, ?_⟩
    rcases h6 with ⟨q, rfl⟩ | ⟨q, e2⟩
    · exact .inl ⟨q, h5, by omega⟩
    · exact .inr ⟨q, by omega⟩
  refine ⟨?_, fun c x hc hx _ => ?_, fun c x y hc hx hy cx cy h1 h2 => ?_⟩
  · obtain ⟨F, h1, h2⟩ := h 0 (Nat.two_pow_pos n)
    rw [h2]
    exact h1.len inv one (fv_zero col)
  · obtain ⟨F, h1, h2, h3⟩ := st c x hc hx
    rcases h3 with ⟨_, _, e⟩ | ⟨_, e⟩
    · exact .inl e
    · exact .inr e
  · obtain ⟨F, f1, f2, f3⟩ := st c x hc hx
    rcases f3 with ⟨zx, fx, ex⟩ | ⟨_, ex⟩
    · obtain ⟨G, g1, g2, g3⟩ := st c y hc hy
      rcases g3 with ⟨zy, _, ey⟩ | ⟨_, ey⟩
      · have zy2 : ∀ i, redV F (col y) i = 0 := (redV_iff f1.rd _).mpr ((f1.span _).mpr ((g1.span _).mp ((redV_iff g1.rd _).mp zy)))
        have fy := fx.in (x := y) zy2
        obtain ⟨H, h5, h6⟩ := h _ (put_lt hy (put_lt hx hc))
        rw [h6, h5.len inv one fy, f2]
      · omega
    · omega
end
theorem inv2 : HasInv 2 := by unfold HasInv; decide
theorem inv3 : HasInv 3 := by unfold HasInv; decide
theorem inv5 : HasInv 5 := by unfold HasInv; decide
end PL
namespace PL
open PySem PySem.Spec L2 VS
open PyProof.Rows hiding St

/-! ### rows over all lots -/
def rowD (n : Nat) (r : Nat → Nat) : PyData := .list ((List.range (2 ^ n)).map fun c => intN (r c))
def lotsN (n : Nat) : PyData := .list ((List.range (2 ^ n)).map fun c => lotD (bl c))
theorem row_len {n : Nat} (f : Nat → PyData) : ((List.range (2 ^ n)).map f).length = 2 ^ n := by rw [List.length_map, List.length_range]
theorem range_dbl {α : Type} (k : Nat) (f : Nat → α) : (List.range (2 ^ (k + 1))).map f = (List.range (2 ^ k)).map f ++ (List.range (2 ^ k)).map fun c => f (c + 2 ^ k) := by
  rw [Nat.pow_succ, Nat.mul_two, List.range_add, List.map_append, List.map_map]
  congr 1
  exact List.map_congr_left fun c _ => by show f (2 ^ k + c) = _; rw [Nat.add_comm]
theorem sz_dbl {k c : Nat} (hk : k < 9) (hc : c < 2 ^ k) : sz (c + 2 ^ k) = sz c + 1 := by
  rw [add_or hc]
  exact sz_put hk (lt512 (by omega) hc) (no_bit hc)
theorem bl_dbl {k c : Nat} (hk : k < 9) (hc : c < 2 ^ k) : bl (c + 2 ^ k) = bl c ++ [k] := by
  rw [add_or hc]
  refine asc_ext _ _ (bl_asc _) ?_ fun x => ?_
  · rw [List.pairwise_append]
    refine ⟨bl_asc c, by simp, fun a ha b hb => ?_⟩
    rw [List.mem_singleton] at hb
    subst hb
    exact lt_of_bit hc (mem_bl.mp ha).2
  · rw [mem_bl, put_bit, Bool.or_eq_true, decide_eq_true_eq, List.mem_append, mem_bl, List.mem_singleton]
    constructor
    · rintro ⟨h1, h2 | h2⟩
      · exact .inl ⟨h1, h2⟩
      · exact .inr h2.symm
    · rintro (⟨h1, h2⟩ | rfl)
      · exact ⟨h1, .inl h2⟩
      · exact ⟨hk, .inr rfl⟩
def sp_pops : VSp := fun ds β P => ∃ n : Nat, ds = [intN n] ∧ n ≤ 9 ∧ P (rowD n sz) β
def sp_llots : VSp := fun ds β P => ∃ n : Nat, ds = [intN n] ∧ n ≤ 9 ∧ P (lotsN n) β
theorem hd_llots (ds : List PyData) (β : Bag) (Q : PyData → Bag → Prop) (hl : ds.length = 1) (h : sp_llots ds β Q) : Wk.D__law_lots { nx := fun s => Q .none s.β, rt := Q } (initS 4 ds β) := by
  obtain ⟨n, rfl, n9, k⟩ := h
  unfold Wk.D__law_lots
  refine ⟨(show 0 ≤ sizeLine by decide), (show 1 ≤ sizeLine by decide), by omega, by omega, ?_⟩
  rw [Int.toNat_natCast, rangeD_nat]
  refine forW_L intN (fun done rest s => done.length + rest.length = n ∧ ∃ a : Slot, s = ⟨[.sh (intN n), .sh (lotsN done.length), a, .un], β⟩) (List.range n) _ ⟨by rw [List.length_range]; simp, .un, rfl⟩ ?_ ?_
  · rintro _ ⟨_, a, rfl⟩
    rw [List.length_range]
    exact k
  · rintro done x rest _ e ⟨hl, a, rfl⟩ D' _ hD
    obtain ⟨rfl, _⟩ := range_at e
    rw [List.length_cons] at hl
    have p9 := pow9 (show done.length ≤ 9 by omega)
    refine .inl (lcW_mapL (fun c => lotD (bl c)) (fun c => .tuple ((bl c).map intN ++ [intN done.length])) (List.range (2 ^ done.length)) [] (fun c hc R F q => ⟨(show 1 ≤ sizeLine by decide), ?_, q ⟨_, _⟩⟩) ?_ ?_)
    · have := bl_len c
      rw [List.length_map, sizeL]
      simp only [List.length_cons, List.length_nil]
      omega
    · rw [List.length_range, sizeL]; simp only [List.length_nil]; omega
    · rw [List.nil_append]
      refine ⟨by rw [List.length_map, List.length_map, List.length_range, sizeL]; omega, hD _ ⟨by rw [List.length_append]; simp only [List.length_cons, List.length_nil]; omega, .sh (intN done.length), ?_⟩⟩
      have er : (List.range (2 ^ done.length)).map (fun c => lotD (bl c)) ++ (List.range (2 ^ done.length)).map (fun c => PyData.tuple ((bl c).map intN ++ [intN done.length])) = (List.range (2 ^ (done.length + 1))).map fun c => lotD (bl c) := by
        rw [range_dbl]
        congr 1
        refine List.map_congr_left fun c hc => ?_
        rw [bl_dbl (by omega) (List.mem_range.mp hc)]
        unfold lotD
        rw [List.map_append]
        rfl
      rw [List.length_append, List.length_singleton]
      unfold lotsN
      rw [← er]
      rfl
/-! ### any lot of a size -/
theorem shl_one (x : Nat) : (1 : Int) * 2 ^ ((x : Int)).toNat = ((2 ^ x : Nat) : Int) := by
  rw [Int.toNat_natCast, Int.one_mul, Int.natCast_pow]
  rfl
theorem cpow_one {x : Nat} (h : x ≤ 1000000) : CPow 1 (x : Int) := ⟨by omega, by omega, by decide⟩
def sp_some : VSp := fun ds β P => ∃ n m : Nat, ds = [bagD, intN n, intN m] ∧ n ≤ 9 ∧ m ≤ n ∧ GoodB β ∧ ∀ (c : Nat) (β' : Bag), c < 2 ^ n → sz c = m → GoodB β' → P (intN c) β'
/-! ### the greatest common parts -/
def sp_most : VSp := fun ds β P => ∃ (n : Nat) (L : List Nat), ds = [rowD n sz, .list (L.map intN)] ∧ n ≤ 9 ∧ L ≠ [] ∧ L.length ≤ 100 ∧ (∀ c ∈ L, c < 2 ^ n) ∧ P (rowD n (rkN L)) β
/-! ### lowered rows -/
theorem min_int (a b : Nat) : (if (b : Int) < (a : Int) then (b : Int) else (a : Int)) = ((min a b : Nat) : Int) := by
  by_cases h : b < a
  · rw [if_pos (by omega), Nat.min_eq_right (by omega)]
  · rw [if_neg (by omega), Nat.min_eq_left (by omega)]
def sp_low : VSp := fun ds β P => ∃ n : Nat, ds = [bagD, intN n, rowD n sz] ∧ n ≤ 9 ∧ GoodB β ∧ ∀ (r : Nat → Nat) (β' : Bag), Rf n r → GoodB β' → P (rowD n r) β'
end PL
namespace PL
open PySem PySem.Spec L2 VS
open PyProof.Rows hiding St

/-! ### rows of columns -/
abbrev frD (F : List Nat) : PyData := .list (F.map intN)
theorem xor32 {a b : Nat} (ha : a < 32) (hb : b < 32) : Builtin.bitXor (a : Int) (b : Int) = ((a ^^^ b : Nat) : Int) ∧ a ^^^ b < 32 := by
  have all : ∀ a < 32, ∀ b < 32, (a ||| b) = (a ^^^ b) + (a &&& b) := by decide +kernel
  unfold Builtin.bitXor
  rw [bitOr_nat, bitAnd_nat, all a ha b hb]
  exact ⟨by omega, Nat.xor_lt_two_pow (n := 5) ha hb⟩
theorem red_lt {w : Nat} : ∀ (F : List Nat) (v : Nat), (∀ p ∈ F, p < 32) → v < 32 → red F v < 32
  | [], v, _, hv => hv
  | p :: F, v, hF, hv => by
    have := red_lt (w := w) F (min v (v ^^^ p)) (fun q hq => hF q (List.mem_cons_of_mem _ hq)) (by
      have := Nat.xor_lt_two_pow (n := 5) hv (hF p (List.mem_cons_self ..))
      omega)
    exact this
def nxF (w : Nat) (F : List Nat) : List Nat := if red F w = 0 then F else F ++ [red F w]
def sp_cols : VSp := fun ds β P => ∃ n : Nat, ds = [bagD, intN n] ∧ n ≤ 9 ∧ GoodB β ∧ ∀ (r : Nat → Nat) (β' : Bag), Rf n r → GoodB β' → P (rowD n r) β'
end PL
namespace PL
open PySem PySem.Spec L2 VS
open PyProof.Rows hiding St

theorem lcW_sts {α : Type} (enc : α → PyData) (Φ : PyData → Prop) {own : List Nat} {b : DG} {tt : DT} {te : DE} {ρ : List Slot} {P : List PyData → S → Prop} : ∀ (xs : List α) (acc : List PyData) (β : Bag), GoodB β →
    (∀ x ∈ xs, ∀ β, GoodB β → ∀ (R : S → PyData → S → Prop) (F : S → S → Prop), (∀ (s2 : S) y β', Φ y → GoodB β' → R s2 y ⟨s2.ρ, β'⟩) → b (enc x) ⟨wipeS ρ own, β⟩ fun s2 => tt s2 fun c s3 => if c = true then te s3 fun y s4 => R s2 y s4 else F s2 s3) →
    acc.length + xs.length ≤ sizeLine → (∀ out β', (∀ y ∈ out, Φ y) → out.length = xs.length → GoodB β' → P (acc ++ out) ⟨ρ, β'⟩) → lcW own b tt te ρ P (xs.map enc) acc β
  | [], acc, β, hb, _, _, p => by simpa [lcW] using p [] β (by simp) rfl hb
  | x :: xs, acc, β, hb, h, hl, p => by
    rw [List.length_cons] at hl
    exact h x (List.mem_cons_self ..) β hb (fun s2 y s4 => acc.length < sizeLine ∧ s4.ρ = s2.ρ ∧ lcW own b tt te ρ P (xs.map enc) (acc ++ [y]) s4.β) (fun s2 s3 => s3.ρ = s2.ρ ∧ lcW own b tt te ρ P (xs.map enc) acc s3.β) fun s2 y β' hy hb' =>
      ⟨by omega, rfl, lcW_sts enc Φ xs (acc ++ [y]) β' hb' (fun z hz => h z (List.mem_cons_of_mem _ hz)) (by simp; omega) fun out β2 ho hl2 hb2 => by
        have := p (y :: out) β2 (fun z hz => by
          rcases List.mem_cons.mp hz with rfl | hz
          · exact hy
          · exact ho z hz) (by simp [hl2]) hb2
        simpa using this⟩
theorem all_nat {p : Nat → Prop} : ∀ {out : List PyData}, (∀ d ∈ out, ∃ c, d = intN c ∧ p c) → ∃ L : List Nat, out = L.map intN ∧ ∀ c ∈ L, p c
  | [], _ => ⟨[], rfl, by simp⟩
  | d :: out, h => by
    obtain ⟨c, rfl, hc⟩ := h d (List.mem_cons_self ..)
    obtain ⟨L, rfl, hL⟩ := all_nat fun d hd => h d (List.mem_cons_of_mem _ hd)
    refine ⟨c :: L, rfl, fun x hx => ?_⟩
    rcases List.mem_cons.mp hx with rfl | hx
    · exact hc
    · exact hL x hx
theorem max_int (a : Nat) : (if (1 : Int) > (a : Int) then (1 : Int) else (a : Int)) = ((max a 1 : Nat) : Int) := by
  by_cases h : 1 > a
  · rw [if_pos (by omega), Nat.max_eq_right (by omega)]
    rfl
  · rw [if_neg (by omega), Nat.max_eq_left (by omega)]
/-! ### the first row -/
def sp_first : VSp := sp_low
/-! ### some row -/
theorem at_last {n : Nat} (f : Nat → PyData) : L2.atI ((List.range (2 ^ n)).map f) (((2 ^ n : Nat) : Int) - 1) = some (f (2 ^ n - 1)) := by
  have pp := Nat.two_pow_pos n
  rw [show ((2 ^ n : Nat) : Int) - 1 = ((2 ^ n - 1 : Nat) : Int) by omega]
  exact at_map f (by omega)
theorem dual_int {n : Nat} {r : Nat → Nat} (n9 : n ≤ 9) (f : Rf n r) {c : Nat} (hc : c < 2 ^ n) : (sz c : Int) - (r (2 ^ n - 1) : Int) + (r (2 ^ n - 1 - c) : Int) = ((dualR n r c : Nat) : Int) := by
  have := dual_eq n9 f hc
  unfold dualR
  omega
def sp_row : VSp := sp_low
def sp_high : VSp := sp_low
/-! ### bases of a row -/
def baseL (n : Nat) (r : Nat → Nat) : List Nat := (List.range (2 ^ n)).filter fun c => PyData.eqv (intN (r c)) (intN (r (2 ^ n - 1))) && PyData.eqv (intN (sz c)) (intN (r (2 ^ n - 1)))
theorem baseL_mem {n : Nat} {r : Nat → Nat} (c : Nat) : c ∈ baseL n r ↔ rfI n r c ∧ sz c = r (2 ^ n - 1) := by
  unfold baseL rfI
  rw [List.mem_filter, List.mem_range, Bool.and_eq_true, ne_intN, ne_intN, decide_eq_true_eq, decide_eq_true_eq]
  exact ⟨fun h => ⟨⟨h.1, by omega⟩, h.2.2⟩, fun h => ⟨h.1.1, by omega, h.2⟩⟩
theorem base_cd {n : Nat} (n9 : n ≤ 9) (r : Nat → Nat) : CdOk n (baseL n r) := ⟨n9, fun b hb => ((baseL_mem b).mp hb).1.1, by
  unfold baseL
  refine Nat.le_trans (List.length_filter_le _ _) ?_
  rw [List.length_range]
  exact pow9 n9⟩
def sp_lbases : VSp := fun ds β P => ∃ (n : Nat) (r : Nat → Nat), ds = [rowD n sz, lotsN n, rowD n r] ∧ n ≤ 9 ∧ P (.tuple ((sortLots ((baseL n r).map bl)).map lotD)) β
theorem filt_base (L : List Nat) (p : Nat → Bool) : (L.filterMap fun c => if p c = true then some (lotD (bl c)) else none) = ((L.filter p).map bl).map lotD := by
  induction L with
  | nil => rfl
  | cons c B ih =>
    rw [List.filterMap_cons, List.filter_cons]
    by_cases h : p c = true
    · simp [h, ih]
    · simp [h, ih]
end PL
namespace PL
open PySem PySem.Spec L2 VS
open PyProof.Rows hiding St

open PySem.W (dataLe)
/-! ### a table by its row -/
abbrev tabR (n : Nat) (r : Nat → Nat) : PyData := tabT n (baseL n r)
theorem rank_row {n : Nat} {r : Nat → Nat} (n9 : n ≤ 9) (f : Rf n r) {c : Nat} (hc : c < 2 ^ n) : baseL n r ≠ [] ∧ rkN (baseL n r) c = r c := f.rank n9 (B := baseL n r) (fun c => baseL_mem c) hc
/-! ### bits by shifting -/
theorem shr_bit (a x : Nat) : Builtin.bitAnd ((a : Int) / 2 ^ ((x : Int)).toNat) 1 = ((if a.testBit x = true then 1 else 0 : Nat) : Int) := by
  rw [Int.toNat_natCast, show ((2 : Int) ^ x) = ((2 ^ x : Nat) : Int) by rw [Int.natCast_pow]; rfl, ← Int.natCast_ediv, show (1 : Int) = ((1 : Nat) : Int) from rfl, bitAnd_nat, Nat.and_one_is_mod, Nat.testBit_eq_decide_div_mod_eq]
  congr 1
  by_cases h : a / 2 ^ x % 2 = 1
  · rw [h]
    rfl
  · rw [if_neg (by rw [decide_eq_true_eq]; exact h)]
    omega
theorem shr_one (a x : Nat) : PyData.eqv (.int (Builtin.bitAnd ((a : Int) / 2 ^ ((x : Int)).toNat) 1)) (.int 1) = a.testBit x := by
  rw [shr_bit]
  cases a.testBit x <;> decide +kernel
theorem shr_nil (a x : Nat) : PyData.eqv (.int (Builtin.bitAnd ((a : Int) / 2 ^ ((x : Int)).toNat) 1)) (.int 0) = !a.testBit x := by
  rw [shr_bit]
  cases a.testBit x <;> decide +kernel
theorem nil_list (L : List Nat) : (!PyData.eqv (.list (L.map intN)) (.list [])) = !L.isEmpty := by
  cases L <;> simp [PyData.eqv, PyData.eqvAll]
theorem pre_bl {n a : Nat} (n9 : n ≤ 9) (ha : a < 2 ^ n) (p : Nat → Bool) : (List.range n).filter (fun x => a.testBit x && p x) = (bl a).filter p := by
  refine asc_ext _ _ (List.Pairwise.filter _ List.pairwise_lt_range) ((bl_asc a).filter _) fun x => ?_
  rw [List.mem_filter, List.mem_range, Bool.and_eq_true, List.mem_filter, mem_bl]
  exact ⟨fun h => ⟨⟨by omega, h.2.1⟩, h.2.2⟩, fun h => ⟨lt_of_bit ha h.1.2, h.1.2, h.2⟩⟩
theorem at_zero (x : Nat) (L : List Nat) : L2.atI ((x :: L).map intN) 0 = some (intN x) := by
  rw [show (0 : Int) = ((0 : Nat) : Int) from rfl, atI_nat]
  rfl
/-! ### codes of lists of things -/
def codeN (L : List Nat) : Nat := (L.map (2 ^ ·)).sum
theorem add_put : ∀ x < 9, ∀ c < 512, c.testBit x = false → 2 ^ x + c = c ||| 2 ^ x := by decide +kernel
theorem codeN_ok {n : Nat} (n9 : n ≤ 9) : ∀ {L : List Nat}, L.Nodup → (∀ x ∈ L, x < n) → codeN L < 2 ^ n ∧ (∀ y, (codeN L).testBit y = decide (y ∈ L)) ∧ sz (codeN L) = L.length
  | [], _, _ => ⟨Nat.two_pow_pos n, fun y => by simp [codeN], sz_zero⟩
  | x :: L, hn, hL => by
    rw [List.nodup_cons] at hn
    obtain ⟨h1, h2, h3⟩ := codeN_ok n9 hn.2 fun y hy => hL y (List.mem_cons_of_mem _ hy)
    have hx := hL x (List.mem_cons_self ..)
    have hb : (codeN L).testBit x = false := by rw [h2, decide_eq_false hn.1]
    have e : codeN (x :: L) = codeN L ||| 2 ^ x := by
      show 2 ^ x + codeN L = _
      exact add_put x (by omega) _ (lt512 n9 h1) hb
    rw [e]
    refine ⟨put_lt hx h1, fun y => ?_, by rw [sz_put (by omega) (lt512 n9 h1) hb, h3]; rfl⟩
    rw [put_bit, h2, Bool.eq_iff_iff, Bool.or_eq_true, decide_eq_true_eq, decide_eq_true_eq, decide_eq_true_eq, List.mem_cons]
    exact ⟨fun h => h.elim .inr fun h => .inl h.symm, fun h => h.elim (fun h => .inr h.symm) .inl⟩
theorem codeN_bl {n a : Nat} (n9 : n ≤ 9) (ha : a < 2 ^ n) : codeN (bl a) = a := by
  obtain ⟨_, h2, _⟩ := codeN_ok n9 (bl_nodup a) fun x hx => lt_of_bit ha (mem_bl.mp hx).2
  apply Nat.eq_of_testBit_eq
  intro i
  rw [h2, Bool.eq_iff_iff, decide_eq_true_eq, mem_bl]
  exact ⟨fun h => h.2, fun h => ⟨by have := lt_of_bit ha h; omega, h⟩⟩
theorem codeN_perm {L M : List Nat} (h : L.Perm M) : codeN L = codeN M := (h.map _).sum_nat
theorem sum_cast (L : List Nat) : (L.map fun x : Nat => ((2 ^ x : Nat) : Int)).sum = ((codeN L : Nat) : Int) := by
  induction L with
  | nil => rfl
  | cons x L ih =>
    rw [List.map_cons, List.sum_cons, ih]
    show _ = ((2 ^ x + codeN L : Nat) : Int)
    omega
theorem sumOf {L : List Nat} {P : PyData → Prop} (k : P (intN (codeN L))) : dSumOf [.list (L.map fun x => intN (2 ^ x))] P := by
  refine ⟨L.map fun x : Nat => ((2 ^ x : Nat) : Int), by rw [List.map_map]; rfl, ?_⟩
  rw [sum_cast]
  exact k
theorem ite_no {b : Bool} {p q : Prop} (h : b = false) (k : q) : if b = true then p else q := by
  rw [if_neg (by rw [h]; decide)]
  exact k
theorem ite_yes {b : Bool} {p q : Prop} (h : b = true) (k : p) : if b = true then p else q := by
  rw [if_pos h]
  exact k
theorem lc_pow {i : Nat} {ρ : List Slot} {β : Bag} {P : List PyData → S → Prop} {L : List Nat} (hi : ∀ d, ((wipeS ρ [i]).set i (.sh d))[i]? = some (.sh d)) (hL : ∀ x ∈ L, x < 9) (hl : L.length ≤ 100) (k : P (L.map fun x => intN (2 ^ x)) ⟨ρ, β⟩) :
    lcW [i] (bName i) dYes (dOp dShl (dC (.int 1)) (dVar i)) ρ P (L.map intN) [] β := by
  refine lcW_mapL intN (fun x => intN (2 ^ x)) L [] (fun x hx R F q => ?_) ?_ ?_
  · have q := q ⟨(wipeS ρ [i]).set i (.sh (intN x)), β⟩
    show (match ((wipeS ρ [i]).set i (.sh (intN x)))[i]? with
      | some (.sh d) => _
      | some (.ow d) => _
      | _ => False)
    rw [hi]
    refine ⟨cpow_one (by have := hL x hx; omega), ?_⟩
    show R _ _ (.int (1 * 2 ^ ((x : Int)).toNat)) _
    rw [shl_one]
    exact q
  · rw [sizeL]; simp only [List.length_nil]; omega
  · rw [List.nil_append]
    exact k
theorem fn {p : PyData → Prop} : ∀ d ∈ ([] : List PyData), p d := fun _ h => nomatch h
theorem fc {p : PyData → Prop} {x : PyData} {xs : List PyData} (h : p x) (k : ∀ d ∈ xs, p d) : ∀ d ∈ x :: xs, p d := fun d hd => by
  rcases List.mem_cons.mp hd with rfl | hd
  · exact h
  · exact k d hd
theorem fa {p : PyData → Prop} {xs ys : List PyData} (h : ∀ d ∈ xs, p d) (k : ∀ d ∈ ys, p d) : ∀ d ∈ xs ++ ys, p d := fun d hd => (List.mem_append.mp hd).elim (h d) (k d)
/-! ### all lots in order -/
theorem subs_rg : ∀ n ≤ 9, subs (List.range n) = (List.range (2 ^ n)).map bl
  | 0, _ => by decide +kernel
  | n + 1, h => by
    have ih := subs_rg n (by omega)
    have e : subs (List.range (n + 1)) = subs (List.range n) ++ (subs (List.range n)).map (· ++ [n]) := by
      unfold subs
      rw [List.range_succ, List.foldl_append]
      rfl
    rw [e, ih, range_dbl]
    congr 1
    rw [List.map_map]
    refine List.map_congr_left fun c hc => ?_
    exact (bl_dbl (by omega) (List.mem_range.mp hc)).symm
theorem toks_lot : ∀ l : List Nat, PySem.W.keyToks (lotD l) = (l.flatMap fun (x : Nat) => [Sum.inl (1 : Int), Sum.inl (x : Int)]) ++ [Sum.inl 0] := by
  intro l
  show PySem.W.keyToksAll (l.map fun (x : Nat) => PyData.int (x : Int)) = _
  induction l with
  | nil => rfl
  | cons x l ih =>
    rw [List.map_cons, List.flatMap_cons]
    show Sum.inl 1 :: (PySem.W.keyToks (.int (x : Int)) ++ PySem.W.keyToksAll (l.map fun (x : Nat) => PyData.int (x : Int))) = _
    rw [ih]
    rfl
/-- keys of unlike lots: what stands behind does not matter -/
theorem lex_lots : ∀ (l m : List Nat) (R S : List (Int ⊕ List Nat)), l ≠ m → PyProof.Rows.lexLt PyProof.Rows.itemOrd (PySem.W.keyToks (lotD l) ++ R) (PySem.W.keyToks (lotD m) ++ S) = PyProof.Rows.lexLt PyProof.Rows.itemOrd (PySem.W.keyToks (lotD l)) (PySem.W.keyToks (lotD m))
  | [], [], _, _, h => absurd rfl h
  | [], y :: m, R, S, _ => by
    rw [toks_lot, toks_lot]
    simp [PyProof.Rows.lexLt, PyProof.Rows.itemLt]
  | x :: l, [], R, S, _ => by
    rw [toks_lot, toks_lot]
    simp [PyProof.Rows.lexLt, PyProof.Rows.itemLt]
  | x :: l, y :: m, R, S, h => by
    have ih := lex_lots l m R S
    rw [toks_lot, toks_lot] at ih ⊢
    simp only [List.flatMap_cons, List.cons_append, List.nil_append] at ih ⊢
    by_cases e : x = y
    · subst e
      have ih := ih fun q => h (by rw [q])
      rw [PyProof.Rows.lex_cons, PyProof.Rows.lex_cons, ih, PyProof.Rows.lex_cons, PyProof.Rows.lex_cons]
    · by_cases lt : x < y
      · simp [PyProof.Rows.lexLt, PyProof.Rows.itemLt, show (x : Int) < (y : Int) by omega]
      · simp [PyProof.Rows.lexLt, PyProof.Rows.itemLt, show ¬ (x : Int) < (y : Int) by omega, show (y : Int) < (x : Int) by omega]
/-- codes of all lots in the order of the lots -/
def CO (n : Nat) : List Nat := (List.range (2 ^ n)).mergeSort fun a b => dataLe false id (lotD (bl a)) (lotD (bl b))
theorem CO_mem {n c : Nat} : c ∈ CO n ↔ c < 2 ^ n := by
  unfold CO
  rw [List.mem_mergeSort, List.mem_range]
theorem CO_len {n : Nat} : (CO n).length = 2 ^ n := by
  unfold CO
  rw [List.length_mergeSort, List.length_range]
theorem CO_perm (n : Nat) : (CO n).Perm (List.range (2 ^ n)) := List.mergeSort_perm _ _
theorem CO_lots (n : Nat) : sortD ((List.range (2 ^ n)).map fun c => lotD (bl c)) = (CO n).map fun c => lotD (bl c) := by
  unfold sortD CO
  exact (List.map_mergeSort (f := fun c => lotD (bl c)) (s := dataLe false id) (r := fun a b => dataLe false id (lotD (bl a)) (lotD (bl b))) fun a _ b _ => rfl).symm
abbrev triD (n c : Nat) : PyData := .tuple [lotD (bl c), intN c, lotD (bl (2 ^ n - 1 - c))]
theorem code_inj {n a b : Nat} (n9 : n ≤ 9) (ha : a < 2 ^ n) (hb : b < 2 ^ n) (e : bl a = bl b) : a = b := by
  rw [← codeN_bl n9 ha, ← codeN_bl n9 hb, e]
theorem CO_tri {n : Nat} (n9 : n ≤ 9) : sortD ((List.range (2 ^ n)).map (triD n)) = (CO n).map (triD n) := by
  unfold sortD CO
  refine (List.map_mergeSort (f := triD n) (s := dataLe false id) (r := fun a b => dataLe false id (lotD (bl a)) (lotD (bl b))) fun a ha b hb => ?_).symm
  have ha := List.mem_range.mp ha
  have hb := List.mem_range.mp hb
  show (!PyProof.Rows.lexLt PyProof.Rows.itemOrd (PySem.W.keyToks (lotD (bl b))) (PySem.W.keyToks (lotD (bl a)))) = !PyProof.Rows.lexLt PyProof.Rows.itemOrd (PySem.W.keyToks (triD n b)) (PySem.W.keyToks (triD n a))
  by_cases e : a = b
  · subst e
    rw [PyProof.Rows.lex_irrefl, PyProof.Rows.lex_irrefl]
  · have ne : bl b ≠ bl a := fun q => e (code_inj n9 ha hb q.symm)
    have tk : ∀ c, PySem.W.keyToks (triD n c) = Sum.inl 1 :: (PySem.W.keyToks (lotD (bl c)) ++ PySem.W.keyToksAll [intN c, lotD (bl (2 ^ n - 1 - c))]) := fun c => rfl
    rw [tk, tk, PyProof.Rows.lex_cons, lex_lots _ _ _ _ ne]
    have : PyProof.Rows.itemOrd.blt (Sum.inl 1) (Sum.inl 1) = false := PyProof.Rows.itemOrd.irrefl _
    rw [this]
    simp
/-! ### the program's codes -/
def sp_code : VSp := fun ds β P => ∃ c : Nat, ds = [lotD (bl c)] ∧ c < 512 ∧ P (intN c) β
theorem hd_code (ds : List PyData) (β : Bag) (Q : PyData → Bag → Prop) (hl : ds.length = 1) (h : sp_code ds β Q) : Wk.D_code_of_lot { nx := fun s => Q .none s.β, rt := Q } (initS 2 ds β) := by
  obtain ⟨c, rfl, hc, k⟩ := h
  have := bl_len c
  unfold Wk.D_code_of_lot
  refine .inr (lc_pow (fun _ => rfl) (fun x hx => (mem_bl.mp hx).1) (by omega) ?_)
  refine ⟨(bl c).map fun x : Nat => ((2 ^ x : Nat) : Int), by rw [List.map_map]; rfl, ?_⟩
  rw [sum_cast, codeN_bl (n := 9) (Nat.le_refl 9) hc]
  exact k
def sp_uncode : VSp := fun ds β P => ∃ c : Nat, ds = [intN c] ∧ c < 512 ∧ P (lotD (bl c)) β
theorem bits_filt {c : Nat} (hc : c < 512) : (List.range (Builtin.Int.intBits (c : Int))).filter (fun x => c.testBit x) = bl c := by
  refine asc_ext _ _ (List.Pairwise.filter _ List.pairwise_lt_range) (bl_asc c) fun x => ?_
  rw [List.mem_filter, List.mem_range, mem_bl]
  constructor
  · rintro ⟨_, h⟩
    exact ⟨lt_of_bit (n := 9) hc h, h⟩
  · rintro ⟨_, h⟩
    refine ⟨?_, h⟩
    unfold Builtin.Int.intBits
    have hz : c ≠ 0 := fun z => by rw [z] at h; simp at h
    rw [if_neg (by simpa using hz)]
    show x < ((c : Int)).natAbs.log2 + 1
    rw [Int.natAbs_natCast]
    have := (Nat.le_log2 hz).mpr (Nat.ge_two_pow_of_testBit h)
    omega
theorem bits_le {c : Nat} (hc : c < 512) : Builtin.Int.intBits (c : Int) ≤ 9 := by
  unfold Builtin.Int.intBits
  split
  · omega
  · rename_i h
    rw [Int.natAbs_natCast]
    have hz : c ≠ 0 := fun z => h (by rw [z]; rfl)
    have := (Nat.log2_lt hz (k := 9)).mpr hc
    omega
theorem hd_uncode (ds : List PyData) (β : Bag) (Q : PyData → Bag → Prop) (hl : ds.length = 1) (h : sp_uncode ds β Q) : Wk.D_lot_of_code { nx := fun s => Q .none s.β, rt := Q } (initS 2 ds β) := by
  obtain ⟨c, rfl, hc, k⟩ := h
  have b9 := bits_le hc
  unfold Wk.D_lot_of_code
  refine ⟨by omega, by omega, ?_⟩
  rw [Int.toNat_natCast, rangeD_nat]
  refine lcW_filtL intN (fun x : Nat => if c.testBit x = true then some (intN x) else none) (List.range (Builtin.Int.intBits (c : Int))) [] (fun x hx R F q => ?_) ?_ ?_
  · refine ⟨by omega, rfl, rfl, ?_⟩
    show if PyData.eqv (.int (Builtin.bitAnd ((c : Int) / 2 ^ ((x : Int)).toNat) 1)) (.int 1) = true then _ else _
    rw [shr_one]
    split
    · rename_i h
      simp only [h, if_true] at q
      exact q ⟨_, _⟩
    · rename_i h
      simp only [h, if_false] at q
      exact q ⟨_, _⟩
  · rw [List.length_range, sizeL]; simp only [List.length_nil]; omega
  rw [List.nil_append, filterMap_if, bits_filt hc]
  exact k
def sp_all : VSp := fun ds β P => ∃ n : Nat, ds = [intN n] ∧ n ≤ 9 ∧ P (.list ((CO n).map fun c => lotD (bl c))) β
/-! ### rows -/
def rowZ (n : Nat) (z : Nat → Int) : PyData := .tuple ((List.range (2 ^ n)).map fun c => .int (z c))
abbrev zr (r : Nat → Nat) : Nat → Int := fun c => (r c : Int)
def sp_rrow : VSp := fun ds β P => ∃ (n : Nat) (r : Nat → Nat), ds = [tabR n r] ∧ n ≤ 9 ∧ Rf n r ∧ P (rowZ n (zr r)) β
def isRow (n : Nat) (v : PyData) : Bool := match v with
  | .tuple zs => decide (zs.length = 2 ^ n) && zs.all isNum
  | _ => false
def sp_isrow : VSp := fun ds β P => ∃ (n : Nat) (v : PyData), ds = [intN n, v] ∧ n ≤ 9 ∧ plainD v = true ∧ P (.bool (isRow n v)) β
end PL
namespace PL
open PySem PySem.Spec L2 VS
open PyProof.Rows hiding St

/-! ### the first fault -/
def oth (n c : Nat) : List Nat := bl (2 ^ n - 1 - c)
def badS (z : Nat → Int) (c x : Nat) : Bool := !decide (z (c ||| 2 ^ x) - z c ∈ [(0 : Int), 1])
def stepF (n : Nat) (z : Nat → Int) : List Nat → Option (Nat × Nat)
  | [] => none
  | c :: cs => match (oth n c).filter (badS z c) with
    | x :: _ => some (c, x)
    | [] => stepF n z cs
def sameL (n : Nat) (z : Nat → Int) (c : Nat) : List Nat := (oth n c).filter fun x => PyData.eqv (.int (z (c ||| 2 ^ x))) (.int (z c))
def badA (z : Nat → Int) (c x y : Nat) : Bool := !PyData.eqv (.int (z (c ||| 2 ^ x ||| 2 ^ y))) (.int (z c))
def sumA (z : Nat → Int) (c : Nat) : List Nat → Option (Nat × Nat)
  | [] => none
  | x :: t => match t.filter (badA z c x) with
    | y :: _ => some (x, y)
    | [] => sumA z c t
def sumF (n : Nat) (z : Nat → Int) : List Nat → Option (Nat × Nat × Nat)
  | [] => none
  | c :: cs => match sumA z c (sameL n z c) with
    | some (x, y) => some (c, x, y)
    | none => sumF n z cs
def stepD : Option (Nat × Nat) → PyData
  | some (c, x) => .tuple [lotD (bl c), intN x]
  | none => .none
def sumD : Option (Nat × Nat × Nat) → PyData
  | some (c, x, y) => .tuple [lotD (bl c), intN x, intN y]
  | none => .none
abbrev wNt : PyData := .str (PySem.Str.ofString "nought")
abbrev wSt : PyData := .str (PySem.Str.ofString "step")
abbrev wSm : PyData := .str (PySem.Str.ofString "sum")
abbrev wX : PyData := .str (PySem.Str.ofString "form")
def stepW : Option (Nat × Nat) → PyData
  | some (c, x) => .tuple [wSt, lotD (bl c), intN x]
  | none => .none
def sumW : Option (Nat × Nat × Nat) → PyData
  | some (c, x, y) => .tuple [wSm, lotD (bl c), intN x, intN y]
  | none => .none
def errZ (n : Nat) (z : Nat → Int) : PyData :=
  if z 0 = 0 then (match stepF n z (CO n) with
    | some p => stepW (some p)
    | none => sumW (sumF n z (CO n)))
  else .tuple [wNt, .int (z 0)]
theorem oth_mem {n c x : Nat} (n9 : n ≤ 9) (hc : c < 2 ^ n) (h : x ∈ oth n c) : x < n ∧ c.testBit x = false := by
  unfold oth at h
  have hx := mem_bl.mp h
  have lc : 2 ^ n - 1 - c < 2 ^ n := by omega
  have hn := lt_of_bit lc hx.2
  have := not_bit n n9 c hc x hx.1
  rw [hx.2, decide_eq_true hn, Bool.true_and] at this
  refine ⟨hn, ?_⟩
  cases q : c.testBit x with
  | false => rfl
  | true => rw [q] at this; cases this
theorem filt_fail {p : Nat → Bool} {done rest : List Nat} {x : Nat} (h : ∀ y ∈ done, p y = false) (hx : p x = true) : (done ++ x :: rest).filter p = x :: rest.filter p := by
  rw [List.filter_append, List.filter_eq_nil_iff.mpr (fun y hy => by rw [h y hy]; decide), List.nil_append, List.filter_cons_of_pos hx]
theorem filt_fine {p : Nat → Bool} {l : List Nat} (h : ∀ y ∈ l, p y = false) : l.filter p = [] := List.filter_eq_nil_iff.mpr fun y hy => by rw [h y hy]; decide
def sp_stepf : VSp := fun ds β P => ∃ (n : Nat) (z : Nat → Int), ds = [intN n, rowZ n z] ∧ n ≤ 9 ∧ P (stepD (stepF n z (CO n))) β
theorem cut_from (xs : List PyData) (k : Nat) : VS.cutD xs (some (k : Int)) none = xs.drop k := by
  unfold VS.cutD
  rw [HT.sIx_none, HT.sIx_nat]
  by_cases h : k ≤ xs.length
  · rw [Nat.min_eq_left h]
    exact List.take_of_length_le (by rw [List.length_drop]; omega)
  · rw [Nat.min_eq_right (by omega), List.drop_of_length_le (Nat.le_refl _), List.drop_of_length_le (by omega), List.take_nil]
theorem enum_nats : ∀ (L : List Nat) (k : Nat), enumD k (L.map intN) = (L.zipIdx k).map fun p => PyData.tuple [intN p.2, intN p.1]
  | [], _ => rfl
  | x :: L, k => by
    show PyData.tuple [.int (k : Int), intN x] :: enumD (k + 1) (L.map intN) = _
    rw [enum_nats L (k + 1)]
    rfl
/-- a place in a list: what is ahead, what stands there, what is behind -/
theorem zip_split {L : List Nat} {done rest : List (Nat × Nat)} {p : Nat × Nat} (e : L.zipIdx 0 = done ++ p :: rest) : p.2 = done.length ∧ p.2 < L.length ∧ L.drop p.2 = p.1 :: L.drop (p.2 + 1) ∧ L = done.map (·.1) ++ p.1 :: rest.map (·.1) := by
  have h1 : (L.zipIdx 0)[done.length]? = some p := by rw [e]; simp
  rw [List.getElem?_zipIdx] at h1
  cases h : L[done.length]? with
  | none => rw [h] at h1; cases h1
  | some y =>
    rw [h] at h1
    have e1 : (y, 0 + done.length) = p := Option.some.inj h1
    subst e1
    obtain ⟨hl, hy⟩ := List.getElem?_eq_some_iff.mp h
    refine ⟨by simp, by simpa using hl, ?_, ?_⟩
    · show L.drop (0 + done.length) = y :: L.drop (0 + done.length + 1)
      rw [Nat.zero_add, List.drop_eq_getElem_cons hl, hy]
    · have := congrArg (List.map (·.1)) e
      rw [List.map_append, List.map_cons] at this
      rw [← this]
      simp
def sp_sumf : VSp := fun ds β P => ∃ (n : Nat) (z : Nat → Int), ds = [intN n, rowZ n z] ∧ n ≤ 9 ∧ P (sumD (sumF n z (CO n))) β
end PL
namespace PL
open PySem PySem.Spec L2 VS
open PyProof.Rows hiding St

open PySem.W (dataLe)
/-! ### the program's judge -/
def sp_rerr : VSp := fun ds β P => ∃ (n : Nat) (v : PyData), ds = [intN n, v] ∧ n ≤ 9 ∧ plainD v = true ∧ ((∃ z, v = rowZ n z ∧ P (errZ n z) β) ∨ (isRow n v = false ∧ P wX β))
theorem row_is (n : Nat) (z : Nat → Int) : isRow n (rowZ n z) = true := by
  show (decide (((List.range (2 ^ n)).map fun c => PyData.int (z c)).length = 2 ^ n) && ((List.range (2 ^ n)).map fun c => PyData.int (z c)).all isNum) = true
  rw [row_len, decide_eq_true rfl, Bool.true_and, List.all_eq_true]
  intro d hd
  obtain ⟨c, _, rfl⟩ := List.mem_map.mp hd
  rfl
theorem at_first {n : Nat} (z : Nat → Int) : L2.atI ((List.range (2 ^ n)).map fun c => PyData.int (z c)) 0 = some (.int (z 0)) := by
  have := at_map (fun c => PyData.int (z c)) (Nat.two_pow_pos n)
  exact this
/-! ### the law's judge -/
def ordD (n : Nat) : PyData := .list ((CO n).map (triD n))
def sp_lstep : VSp := fun ds β P => ∃ (n : Nat) (z : Nat → Int), ds = [rowZ n z, ordD n] ∧ n ≤ 9 ∧ P (stepW (stepF n z (CO n))) β
def sp_lfault : VSp := fun ds β P => ∃ (n : Nat) (z : Nat → Int), ds = [rowZ n z, ordD n] ∧ n ≤ 9 ∧ P (errZ n z) β
/-! ### tables of rows -/
theorem atI_lastR {α : Type} (f : Nat → α) {N : Nat} (h : 0 < N) : L2.atI ((List.range N).map f) (-1) = some (f (N - 1)) := by
  have e : (List.range N).map f = ((List.range (N - 1)).map f) ++ [f (N - 1)] := by
    conv => lhs; rw [show N = (N - 1) + 1 by omega, List.range_succ, List.map_append]
    rfl
  rw [e]
  exact L2.atI_last _ _
theorem toks_inj : ∀ {l m : List Nat}, PySem.W.keyToks (lotD l) = PySem.W.keyToks (lotD m) → l = m := by
  intro l
  induction l with
  | nil =>
    intro m h
    cases m with
    | nil => rfl
    | cons y m =>
      rw [toks_lot, toks_lot] at h
      simp at h
  | cons x l ih =>
    intro m h
    cases m with
    | nil =>
      rw [toks_lot, toks_lot] at h
      simp at h
    | cons y m =>
      rw [toks_lot, toks_lot] at h
      simp only [List.flatMap_cons, List.cons_append, List.nil_append, List.cons.injEq, Sum.inl.injEq] at h
      have e : x = y := by omega
      rw [e, ih (m := m) (by rw [toks_lot, toks_lot]; exact h.2.2)]
/-- the lots of some codes, sorted, are theirs in the order of all lots -/
theorem sort_part {n : Nat} (n9 : n ≤ 9) (p : Nat → Bool) : sortLots (((List.range (2 ^ n)).filter p).map bl) = ((CO n).filter p).map bl := by
  have tl := PySem.W.sortLe_total (PyProof.Rows.listOrd PyProof.Rows.itemOrd) false fun c : Nat => PySem.W.keyToks (lotD (bl c))
  have e : sortLots (((List.range (2 ^ n)).filter p).map bl) = (((List.range (2 ^ n)).filter p).mergeSort fun a b => dataLe false id (lotD (bl a)) (lotD (bl b))).map bl := by
    unfold sortLots
    exact (List.map_mergeSort (f := bl) (s := fun a b => dataLe false id (lotD a) (lotD b)) (r := fun a b => dataLe false id (lotD (bl a)) (lotD (bl b))) fun a _ b _ => rfl).symm
  rw [e]
  congr 1
  have pw : ∀ L : List Nat, (L.mergeSort fun a b => dataLe false id (lotD (bl a)) (lotD (bl b))).Pairwise fun a b => dataLe false id (lotD (bl a)) (lotD (bl b)) = true := fun L =>
    List.pairwise_mergeSort (fun a b c h1 h2 => tl.trans a b c h1 h2) (fun a b => Bool.or_eq_true_iff.mpr (tl.total a b)) L
  refine List.Perm.eq_of_pairwise (le := fun a b => dataLe false id (lotD (bl a)) (lotD (bl b)) = true) (fun a b ha hb h1 h2 => ?_) (pw _) ((pw _).filter p) ?_
  · have ha : a < 2 ^ n := List.mem_range.mp (List.mem_filter.mp (List.mem_mergeSort.mp ha)).1
    have hb : b < 2 ^ n := CO_mem.mp (List.mem_filter.mp hb).1
    have h1 : (!PyProof.Rows.lexLt PyProof.Rows.itemOrd (PySem.W.keyToks (lotD (bl b))) (PySem.W.keyToks (lotD (bl a)))) = true := h1
    have h2 : (!PyProof.Rows.lexLt PyProof.Rows.itemOrd (PySem.W.keyToks (lotD (bl a))) (PySem.W.keyToks (lotD (bl b)))) = true := h2
    rw [Bool.not_eq_true'] at h1 h2
    exact code_inj n9 ha hb (toks_inj (PyProof.Rows.lex_total _ _ h2 h1))
  · exact (List.mergeSort_perm _ _).trans ((CO_perm n).symm.filter p)
def sp_trow : VSp := fun ds β P => ∃ (n : Nat) (r : Nat → Nat), ds = [intN n, rowZ n (zr r)] ∧ n ≤ 9 ∧ P (tabR n r) β
theorem base_filt {n : Nat} {r : Nat → Nat} (c : Nat) : (PyData.eqv (intN (r c)) (intN (r (2 ^ n - 1))) && PyData.eqv (intN (sz c)) (intN (r (2 ^ n - 1)))) = (PyData.eqv (intN (sz c)) (intN (r (2 ^ n - 1))) && PyData.eqv (intN (r c)) (intN (sz c))) := by
  rw [ne_intN, ne_intN, ne_intN, Bool.eq_iff_iff, Bool.and_eq_true, Bool.and_eq_true, decide_eq_true_eq, decide_eq_true_eq, decide_eq_true_eq]
  exact ⟨fun h => ⟨h.2, h.1.trans h.2.symm⟩, fun h => ⟨h.2.trans h.1, h.1⟩⟩
def sp_lbT : VSp := fun ds β P => ∃ (n : Nat) (r : Nat → Nat), ds = [rowD n sz, lotsN n, rowZ n (zr r)] ∧ n ≤ 9 ∧ P (.tuple ((sortLots ((baseL n r).map bl)).map lotD)) β
end PL
namespace PL
open PySem PySem.Spec L2 VS
open PyProof.Rows hiding St

/-! ### short ways -/
/-- a loop that leaves at the first item of which something is told -/
theorem forW_fs {α γ : Type} (enc : α → PyData) (f : α → Option γ) (E : γ → Prop) {b : DG} {body : DS} {D : DEnds} (I : S → Prop) (all : List α) (s : S) (h0 : I s)
    (k : match all.findSome? f with | some y => E y | none => ∀ s, I s → D.nx s)
    (ht : ∀ x ∈ all, ∀ s, I s → ∀ D' : DEnds, D'.rt = D.rt → (match f x with | some y => E y | none => ∀ s', I s' → D'.nx s') → b (enc x) s fun s' => body D' s') : forW b body D (all.map enc) s := by
  refine forW_L enc (fun done rest s => I s ∧ all.findSome? f = rest.findSome? f) all s ⟨h0, rfl⟩ ?_ ?_
  · rintro s ⟨h, e⟩
    rw [e] at k
    exact k s h
  · rintro done x rest s e ⟨h, e2⟩ D' hr hD
    refine ht x (by rw [e]; simp) s h D' hr ?_
    rw [List.findSome?_cons] at e2
    cases hx : f x with
    | some y =>
      rw [hx] at e2
      rw [e2] at k
      exact k
    | none =>
      rw [hx] at e2
      exact fun s' h' => hD s' ⟨h', e2⟩
theorem forW_f {α : Type} (enc : α → PyData) (p : α → Bool) (E : α → Prop) {b : DG} {body : DS} {D : DEnds} (I : S → Prop) (all : List α) (s : S) (h0 : I s)
    (k : match all.find? p with | some y => E y | none => ∀ s, I s → D.nx s)
    (ht : ∀ x ∈ all, ∀ s, I s → ∀ D' : DEnds, D'.rt = D.rt → (if p x = true then E x else ∀ s', I s' → D'.nx s') → b (enc x) s fun s' => body D' s') : forW b body D (all.map enc) s := by
  refine forW_L enc (fun done rest s => I s ∧ all.find? p = rest.find? p) all s ⟨h0, rfl⟩ ?_ ?_
  · rintro s ⟨h, e⟩
    rw [e] at k
    exact k s h
  · rintro done x rest s e ⟨h, e2⟩ D' hr hD
    refine ht x (by rw [e]; simp) s h D' hr ?_
    rw [List.find?_cons] at e2
    cases hx : p x with
    | true =>
      rw [hx] at e2
      rw [e2] at k
      rw [if_pos rfl]
      exact k
    | false =>
      rw [hx] at e2
      rw [if_neg (by decide)]
      exact fun s' h' => hD s' ⟨h', e2⟩
theorem forW_any {α : Type} (enc : α → PyData) (p : α → Bool) (E : Prop) {b : DG} {body : DS} {D : DEnds} (I : S → Prop) (all : List α) (s : S) (h0 : I s)
    (k : if all.any p = true then E else ∀ s, I s → D.nx s)
    (ht : ∀ x ∈ all, ∀ s, I s → ∀ D' : DEnds, D'.rt = D.rt → (if p x = true then E else ∀ s', I s' → D'.nx s') → b (enc x) s fun s' => body D' s') : forW b body D (all.map enc) s := by
  refine forW_f enc p (fun _ => E) I all s h0 ?_ ht
  cases h : all.find? p with
  | some x =>
    have : all.any p = true := List.any_eq_true.mpr ⟨x, List.mem_of_find?_eq_some h, List.find?_some h⟩
    rw [if_pos this] at k
    exact k
  | none =>
    have : all.any p = false := List.any_eq_false.mpr fun x hx => List.find?_eq_none.mp h x hx
    rw [this, if_neg (by decide)] at k
    exact k
/-- a loop through all items -/
theorem forW_all {α : Type} (enc : α → PyData) {b : DG} {body : DS} {D : DEnds} (I : S → Prop) (all : List α) (s : S) (h0 : I s) (k : ∀ s, I s → D.nx s)
    (ht : ∀ x ∈ all, ∀ s, I s → ∀ D' : DEnds, D'.rt = D.rt → (∀ s', I s' → D'.nx s') → b (enc x) s fun s' => body D' s') : forW b body D (all.map enc) s :=
  forW_L enc (fun _ _ s => I s) all s h0 k fun done x rest s e h D' hr hD => ht x (by rw [e]; simp) s h D' hr hD
theorem forW_d {b : DG} {body : DS} {D : DEnds} (I : S → Prop) (all : List PyData) (s : S) (h0 : I s) (k : ∀ s, I s → D.nx s)
    (ht : ∀ x ∈ all, ∀ s, I s → ∀ D' : DEnds, D'.rt = D.rt → (∀ s', I s' → D'.nx s') → b x s fun s' => body D' s') : forW b body D all s := by
  have := forW_all (α := PyData) id (b := b) (body := body) (D := D) I all s h0 k ht
  rwa [List.map_id] at this
/-- items kept, each told by g -/
theorem lcW_km {α : Type} (enc g : α → PyData) (p : α → Bool) {own : List Nat} {b : DG} {tt : DT} {te : DE} {ρ : List Slot} {P : List PyData → S → Prop} {β : Bag} (xs : List α)
    (h : ∀ x ∈ xs, ∀ (R : S → PyData → S → Prop) (F : S → S → Prop), (∀ s2 : S, if p x = true then R s2 (g x) ⟨s2.ρ, β⟩ else F s2 ⟨s2.ρ, β⟩) → b (enc x) ⟨wipeS ρ own, β⟩ fun s2 => tt s2 fun c s3 => if c = true then te s3 fun y s4 => R s2 y s4 else F s2 s3)
    (hl : xs.length ≤ sizeLine) (k : P ((xs.filter p).map g) ⟨ρ, β⟩) : lcW own b tt te ρ P (xs.map enc) [] β := by
  refine lcW_filtL enc (fun x => if p x = true then some (g x) else none) xs [] (fun x hx R F q => h x hx R F fun s2 => ?_) (by simpa using hl) ?_
  · cases hp : p x
    · rw [if_neg (by decide)]
      simp only [hp, Bool.false_eq_true, if_false] at q
      exact q s2
    · rw [if_pos rfl]
      simp only [hp, if_true] at q
      exact q s2
  · rw [List.nil_append]
    have e : xs.filterMap (fun x => if p x = true then some (g x) else none) = (xs.filter p).map g := by
      clear h hl k
      induction xs with
      | nil => rfl
      | cons x xs ih =>
        rw [List.filterMap_cons, List.filter_cons]
        cases hp : p x
        · simp [ih]
        · simp [ih]
    rw [e]
    exact k
theorem lcW_keep {α : Type} (enc : α → PyData) (p : α → Bool) {own : List Nat} {b : DG} {tt : DT} {te : DE} {ρ : List Slot} {P : List PyData → S → Prop} {β : Bag} (xs : List α)
    (h : ∀ x ∈ xs, ∀ (R : S → PyData → S → Prop) (F : S → S → Prop), (∀ s2 : S, if p x = true then R s2 (enc x) ⟨s2.ρ, β⟩ else F s2 ⟨s2.ρ, β⟩) → b (enc x) ⟨wipeS ρ own, β⟩ fun s2 => tt s2 fun c s3 => if c = true then te s3 fun y s4 => R s2 y s4 else F s2 s3)
    (hl : xs.length ≤ sizeLine) (k : P ((xs.filter p).map enc) ⟨ρ, β⟩) : lcW own b tt te ρ P (xs.map enc) [] β := lcW_km enc enc p xs h hl k
/-- each item told by g -/
theorem lcW_m {α : Type} (enc g : α → PyData) {own : List Nat} {b : DG} {tt : DT} {te : DE} {ρ : List Slot} {P : List PyData → S → Prop} {β : Bag} (xs : List α)
    (h : ∀ x ∈ xs, ∀ (R : Bool → S → PyData → S → Prop) (F : S → S → Prop), (∀ s2, R true s2 (g x) ⟨s2.ρ, β⟩) → b (enc x) ⟨wipeS ρ own, β⟩ fun s2 => tt s2 fun c s3 => if c = true then te s3 fun y s4 => R true s2 y s4 else F s2 s3)
    (hl : xs.length ≤ sizeLine) (k : P (xs.map g) ⟨ρ, β⟩) : lcW own b tt te ρ P (xs.map enc) [] β :=
  lcW_mapL enc g xs [] h (by simpa using hl) (by simpa using k)
/-- what stands for each item, item by item -/
def pwR {α β : Type} (Φ : α → β → Prop) : List α → List β → Prop
  | [], [] => True
  | x :: xs, y :: ys => Φ x y ∧ pwR Φ xs ys
  | _, _ => False
theorem pwR.len {α β : Type} {Φ : α → β → Prop} : ∀ {xs : List α} {ys : List β}, pwR Φ xs ys → xs.length = ys.length
  | [], [], _ => rfl
  | _ :: _, _ :: _, h => by rw [List.length_cons, List.length_cons, pwR.len h.2]
  | [], _ :: _, h => h.elim
  | _ :: _, [], h => h.elim
theorem pwR.fn {α β : Type} [Inhabited β] {Φ : α → β → Prop} : ∀ {xs : List α} {ys : List β}, pwR Φ xs ys → xs.Nodup → ∃ f : α → β, ys = xs.map f ∧ ∀ x ∈ xs, Φ x (f x)
  | [], [], _, _ => ⟨fun _ => default, rfl, fun _ h => nomatch h⟩
  | x :: xs, y :: ys, h, nd => by
    obtain ⟨nx, nd⟩ := List.nodup_cons.mp nd
    obtain ⟨f, e, hf⟩ := pwR.fn h.2 nd
    haveI : DecidableEq α := fun a b => Classical.propDecidable (a = b)
    refine ⟨fun z => if z = x then y else f z, ?_, fun z hz => ?_⟩
    · rw [List.map_cons, if_pos rfl, e]
      congr 1
      exact List.map_congr_left fun z hz => by rw [if_neg (fun q : z = x => nx (q ▸ hz))]
    · show Φ z (if z = x then y else f z)
      by_cases q : z = x
      · rw [if_pos q, q]
        exact h.1
      · rw [if_neg q]
        rcases List.mem_cons.mp hz with w | w
        · exact absurd w q
        · exact hf z w
  | [], _ :: _, h, _ => h.elim
  | _ :: _, [], h, _ => h.elim
theorem lcW_pw {α : Type} (enc : α → PyData) (Φ : α → PyData → Prop) {own : List Nat} {b : DG} {tt : DT} {te : DE} {ρ : List Slot} {P : List PyData → S → Prop} {β : Bag} : ∀ (xs : List α) (acc : List PyData),
    (∀ x ∈ xs, ∀ (R : S → PyData → S → Prop) (F : S → S → Prop), (∀ (s2 : S) y, Φ x y → R s2 y ⟨s2.ρ, β⟩) → b (enc x) ⟨wipeS ρ own, β⟩ fun s2 => tt s2 fun c s3 => if c = true then te s3 fun y s4 => R s2 y s4 else F s2 s3) →
    acc.length + xs.length ≤ sizeLine → (∀ out, pwR Φ xs out → P (acc ++ out) ⟨ρ, β⟩) → lcW own b tt te ρ P (xs.map enc) acc β
  | [], acc, _, _, p => by simpa [lcW] using p [] trivial
  | x :: xs, acc, h, hl, p => by
    rw [List.length_cons] at hl
    exact h x (List.mem_cons_self ..) (fun s2 y s4 => acc.length < sizeLine ∧ s4.ρ = s2.ρ ∧ lcW own b tt te ρ P (xs.map enc) (acc ++ [y]) s4.β) (fun s2 s3 => s3.ρ = s2.ρ ∧ lcW own b tt te ρ P (xs.map enc) acc s3.β) fun s2 y hy =>
      ⟨by omega, rfl, lcW_pw enc Φ xs (acc ++ [y]) (fun z hz => h z (List.mem_cons_of_mem _ hz)) (by simp; omega) fun out ho => by
        have := p (y :: out) ⟨hy, ho⟩
        simpa using this⟩
theorem ite_and {a b : Bool} {A B : Prop} (h : if (a && b) = true then A else B) : if a = true then (if b = true then A else B) else B := by
  cases a <;> cases b <;> simpa using h
theorem ite_or {a b : Bool} {A B : Prop} (h : if (a || b) = true then A else B) : if a = true then A else (if b = true then A else B) := by
  cases a <;> cases b <;> simpa using h
theorem if_go {b : Bool} {E N A B : Prop} (q : if b = true then E else N) (h1 : E → A) (h2 : N → B) : if b = true then A else B := by
  cases b
  · exact h2 q
  · exact h1 q
theorem allOf {α : Type} (xs : List α) (p : α → Bool) {P : PyData → Prop} (k : P (.bool (xs.all p))) : dAllOf [.list (xs.map fun x => .bool (p x))] P :=
  ⟨xs.map p, by rw [List.map_map]; rfl, by
    have e : (xs.map p).all id = xs.all p := by rw [List.all_map]; rfl
    rw [e]
    exact k⟩
theorem anyOf {α : Type} (xs : List α) (p : α → Bool) {P : PyData → Prop} (k : P (.bool (xs.any p))) : dAnyOf [.list (xs.map fun x => .bool (p x))] P :=
  ⟨xs.map p, by rw [List.map_map]; rfl, by
    have e : (xs.map p).any id = xs.any p := by rw [List.any_map]; rfl
    rw [e]
    exact k⟩
theorem maxOf {α : Type} (xs : List α) (f : α → Nat) {P : PyData → Prop} (ne : xs ≠ []) (k : ∀ m, (∃ x ∈ xs, f x = m) → (∀ x ∈ xs, f x ≤ m) → P (intN m)) : dMaxOf [.list (xs.map fun x => intN (f x))] P := by
  refine ⟨xs.map fun x => ((f x : Nat) : Int), by rw [List.map_map]; rfl, by rw [List.length_map]; exact List.length_pos_iff.mpr ne, fun m hm hmax => ?_⟩
  obtain ⟨x, hx, rfl⟩ := List.mem_map.mp hm
  refine k (f x) ⟨x, hx, rfl⟩ fun y hy => ?_
  have := hmax _ (List.mem_map.mpr ⟨y, hy, rfl⟩)
  omega
/-- is a list empty -/
theorem ne_list (L : List PyData) : (!PyData.eqv (.list L) (.list [])) = !L.isEmpty := by
  cases L <;> simp [PyData.eqv, PyData.eqvAll]
theorem filt_nil {α : Type} {p : α → Bool} {L : List α} (h : L.filter p = []) : L.find? p = none := by
  rw [← List.head?_filter, h]
  rfl
theorem filt_cons {α : Type} {p : α → Bool} {L M : List α} {x : α} (h : L.filter p = x :: M) : L.find? p = some x := by
  rw [← List.head?_filter, h]
  rfl
theorem at_0 {x : PyData} {L : List PyData} : L2.atI (x :: L) 0 = some x := atI_nat (x :: L) 0
theorem szN {n : Nat} (h : n ≤ 16777216) : n ≤ sizeLine := by rw [sizeL]; exact h
/-- range(n) in a loop -/
theorem rg1 {b : DG} {body : DS} {D : DEnds} {n : Nat} {s : S} (h : n ≤ 1000000) (k : forW b body D ((List.range n).map intN) s) : -(2 ^ 62) ≤ (n : Int) ∧ (n : Int) < 2 ^ 62 ∧ forW b body D (rangeD 0 ((n : Int)).toNat) s :=
  ⟨by omega, by omega, by rw [Int.toNat_natCast, rangeD_nat]; exact k⟩
/-- range(n) in a comprehension -/
theorem rgc {own : List Nat} {b : DG} {tt : DT} {te : DE} {ρ : List Slot} {P : List PyData → S → Prop} {β : Bag} {n : Nat} (h : n ≤ 1000000) (k : lcW own b tt te ρ P ((List.range n).map intN) [] β) : -(2 ^ 62) ≤ (n : Int) ∧ (n : Int) < 2 ^ 62 ∧ lcW own b tt te ρ P (rangeD 0 ((n : Int)).toNat) [] β :=
  ⟨by omega, by omega, by rw [Int.toNat_natCast, rangeD_nat]; exact k⟩
end PL
namespace PL
open PySem PySem.Spec L2 VS
open PyProof.Rows hiding St

theorem or_same {a x : Nat} (h : a.testBit x = true) : a ||| 2 ^ x = a := by
  apply Nat.eq_of_testBit_eq
  intro i
  rw [put_bit]
  by_cases e : x = i
  · subst e
    rw [h]
    rfl
  · rw [decide_eq_false e, Bool.or_false]
/-- what gains nothing by any of its things -/
theorem Rf.closed {n : Nat} {r : Nat → Nat} (f : Rf n r) (h9 : n ≤ 9) {c g : Nat} (hc : c < 2 ^ n) (hs : sub g c) (h : ∀ x, c.testBit x = true → g.testBit x = false → r (g ||| 2 ^ x) = r g) : r c = r g := by
  refine sub_ind' h9 hc hs (p := fun e => r e = r g) rfl fun e y h1 h2 h3 h4 h5 h6 => ?_
  have gy : g.testBit y = false := by
    cases q : g.testBit y with
    | false => rfl
    | true =>
      rw [sub_iff.mp h1 y q] at h3
      cases h3
  have cy : c.testBit y = true := sub_iff.mp h2 y (by rw [put_bit, decide_eq_true rfl, Bool.or_true])
  rw [f.idle h9 h4 h1 h5 h3 (h y cy gy), h6]
/-! ### with a thing -/
theorem put_bl {a x : Nat} (hx : x < 9) (ha : a.testBit x = false) : ((bl a ++ [x]).mergeSort fun x y => decide (x ≤ y)) = bl (a ||| 2 ^ x) := by
  have h := sort_canon (zs := bl a ++ [x]) (p := fun y => (a ||| 2 ^ x).testBit y) (N := 9) ?_ ?_
  · exact h
  · rw [List.nodup_append]
    refine ⟨bl_nodup a, by simp, fun y hy z hz => ?_⟩
    rw [List.mem_singleton] at hz
    subst hz
    rintro rfl
    rw [(mem_bl.mp hy).2] at ha
    cases ha
  · intro y
    rw [List.mem_append, List.mem_singleton, mem_bl, put_bit, Bool.or_eq_true, decide_eq_true_eq]
    constructor
    · rintro (⟨h1, h2⟩ | rfl)
      · exact ⟨h1, .inl h2⟩
      · exact ⟨hx, .inr rfl⟩
    · rintro ⟨h1, h2 | h2⟩
      · exact .inl ⟨h1, h2⟩
      · exact .inr h2.symm
def sp_wth : VSp := fun ds β P => ∃ a x : Nat, ds = [lotD (bl a), intN x] ∧ x < 9 ∧ a.testBit x = false ∧ P (lotD (bl (a ||| 2 ^ x))) β
/-! ### tied -/
def sp_istied : VSp := fun ds β P => ∃ (n : Nat) (r : Nat → Nat) (a x : Nat), ds = [tabR n r, lotD (bl a), intN x] ∧ n ≤ 9 ∧ Rf n r ∧ a < 2 ^ n ∧ x < n ∧ P (.bool (decide (r (a ||| 2 ^ x) = r a))) β
/-! ### a free lot within, greedily -/
/-! ### closures -/
def clo (n : Nat) (r : Nat → Nat) (c : Nat) : Nat := codeN ((List.range n).filter fun x => decide (r (c ||| 2 ^ x) = r c))
theorem clo_ok {n : Nat} (n9 : n ≤ 9) (r : Nat → Nat) (c : Nat) : clo n r c < 2 ^ n ∧ ∀ y, (clo n r c).testBit y = (decide (y < n) && decide (r (c ||| 2 ^ y) = r c)) := by
  obtain ⟨h1, h2, _⟩ := codeN_ok n9 (L := (List.range n).filter fun x => decide (r (c ||| 2 ^ x) = r c)) (List.Pairwise.filter _ List.nodup_range) (fun x hx => List.mem_range.mp (List.mem_filter.mp hx).1)
  refine ⟨h1, fun y => ?_⟩
  unfold clo
  rw [h2, Bool.eq_iff_iff]
  simp only [List.mem_filter, List.mem_range, Bool.and_eq_true, decide_eq_true_eq]
theorem clo_bl {n : Nat} (n9 : n ≤ 9) (r : Nat → Nat) (c : Nat) : (List.range n).filter (fun x => decide (r (c ||| 2 ^ x) = r c)) = bl (clo n r c) := by
  refine asc_ext _ _ (List.Pairwise.filter _ List.pairwise_lt_range) (bl_asc _) fun x => ?_
  rw [List.mem_filter, List.mem_range, mem_bl, (clo_ok n9 r c).2]
  simp only [Bool.and_eq_true, decide_eq_true_eq]
  exact ⟨fun h => ⟨by omega, h⟩, fun h => h.2⟩
structure Clx (n : Nat) (z : Nat → Nat) : Prop where
  lt : ∀ c, c < 2 ^ n → z c < 2 ^ n
  ext : ∀ c, c < 2 ^ n → sub c (z c)
  idem : ∀ c, c < 2 ^ n → z (z c) = z c
  grow : ∀ c x, c < 2 ^ n → x < n → sub (z c) (z (c ||| 2 ^ x))
  swap : ∀ c x y, c < 2 ^ n → x < n → y < n → (z c).testBit x = false → (z c).testBit y = false → (z (c ||| 2 ^ x)).testBit y = true → (z (c ||| 2 ^ y)).testBit x = true
theorem Rf.clo_rank {n : Nat} {r : Nat → Nat} (f : Rf n r) (n9 : n ≤ 9) {c : Nat} (hc : c < 2 ^ n) : sub c (clo n r c) ∧ r (clo n r c) = r c := by
  obtain ⟨h1, h2⟩ := clo_ok n9 r c
  have hs : sub c (clo n r c) := sub_iff.mpr fun i hi => by
    rw [h2, decide_eq_true (lt_of_bit hc hi), or_same hi, decide_eq_true rfl]
    rfl
  refine ⟨hs, f.closed n9 h1 hs fun x hx _ => ?_⟩
  rw [h2, Bool.and_eq_true, decide_eq_true_eq, decide_eq_true_eq] at hx
  exact hx.2
theorem Rf.clx {n : Nat} {r : Nat → Nat} (f : Rf n r) (n9 : n ≤ 9) : Clx n (clo n r) := by
  have bt : ∀ c y, (clo n r c).testBit y = true ↔ y < n ∧ r (c ||| 2 ^ y) = r c := fun c y => by
    rw [(clo_ok n9 r c).2, Bool.and_eq_true, decide_eq_true_eq, decide_eq_true_eq]
  have up1 : ∀ c y, c < 2 ^ n → y < n → (clo n r c).testBit y = false → c.testBit y = false ∧ r (c ||| 2 ^ y) = r c + 1 := fun c y hc hy h => by
    have cy : c.testBit y = false := by
      cases q : c.testBit y
      · rfl
      · have := (bt c y).mpr ⟨hy, by rw [or_same q]⟩
        rw [h] at this
        cases this
    refine ⟨cy, ?_⟩
    rcases f.step c y hc hy cy with e | e
    · have := (bt c y).mpr ⟨hy, e⟩
      rw [h] at this
      cases this
    · exact e
  refine ⟨fun c _ => (clo_ok n9 r c).1, fun c hc => (f.clo_rank n9 hc).1, fun c hc => ?_, fun c x hc hx => ?_, fun c x y hc hx hy h1 h2 h3 => ?_⟩
  · obtain ⟨h1, h2⟩ := f.clo_rank n9 hc
    have lt := (clo_ok n9 r c).1
    refine Nat.eq_of_testBit_eq fun y => ?_
    rw [Bool.eq_iff_iff]
    constructor
    · intro h
      obtain ⟨hy, e⟩ := (bt _ y).mp h
      refine (bt c y).mpr ⟨hy, ?_⟩
      have m1 := (f.mono n9 (put_lt hy hc) (sub_put c y)).1
      have m2 := (f.mono n9 (put_lt hy lt) (put_mono y h1)).1
      omega
    · intro h
      exact (bt _ y).mpr ⟨((bt c y).mp h).1, by rw [or_same h]⟩
  · refine sub_iff.mpr fun y hy => ?_
    obtain ⟨yn, e⟩ := (bt c y).mp hy
    refine (bt _ y).mpr ⟨yn, ?_⟩
    cases q : (c ||| 2 ^ x).testBit y
    · exact f.idle n9 (put_lt hx hc) (sub_put c x) yn q e
    · rw [or_same q]
  · obtain ⟨_, ex⟩ := up1 c x hc hx h1
    obtain ⟨_, ey⟩ := up1 c y hc hy h2
    obtain ⟨_, e⟩ := (bt _ y).mp h3
    refine (bt _ x).mpr ⟨hx, ?_⟩
    rw [put_comm c y x, e, ex, ey]
/-! ### one thing more -/
def extR (n : Nat) (r e : Nat → Nat) (c : Nat) : Nat := if c < 2 ^ n then r c else r (c - 2 ^ n) + e (c - 2 ^ n)
theorem ext_new {n : Nat} {r e : Nat → Nat} {b : Nat} (hb : b < 2 ^ n) : extR n r e (b ||| 2 ^ n) = r b + e b := by
  unfold extR
  rw [← add_or hb, if_neg (by omega), Nat.add_sub_cancel]
theorem ext_old {n : Nat} {r e : Nat → Nat} {b : Nat} (hb : b < 2 ^ n) : extR n r e b = r b := by
  unfold extR
  rw [if_pos hb]
theorem two_kinds {n c : Nat} (h : c < 2 ^ (n + 1)) : c < 2 ^ n ∨ ∃ b, b < 2 ^ n ∧ c = b ||| 2 ^ n := by
  by_cases q : c < 2 ^ n
  · exact .inl q
  · refine .inr ⟨c - 2 ^ n, ?_, ?_⟩
    · rw [Nat.pow_succ] at h
      omega
    · have hb : c - 2 ^ n < 2 ^ n := by
        rw [Nat.pow_succ] at h
        omega
      rw [← add_or hb]
      omega
structure ExtOk (n : Nat) (r e : Nat → Nat) : Prop where
  le : ∀ b, b < 2 ^ n → e b ≤ 1
  down : ∀ b y, b < 2 ^ n → y < n → b.testBit y = false → e (b ||| 2 ^ y) ≤ e b
  same : ∀ b y, b < 2 ^ n → y < n → b.testBit y = false → r (b ||| 2 ^ y) = r b → e (b ||| 2 ^ y) = e b
  both : ∀ b y z, b < 2 ^ n → y < n → z < n → b.testBit y = false → b.testBit z = false → e b = 1 → r (b ||| 2 ^ y) = r b + 1 → r (b ||| 2 ^ z) = r b + 1 → e (b ||| 2 ^ y) = 0 → e (b ||| 2 ^ z) = 0 → r (b ||| 2 ^ y ||| 2 ^ z) ≤ r b + 1
theorem ext_rf {n : Nat} {r e : Nat → Nat} (n9 : n < 9) (f : Rf n r) (h : ExtOk n r e) : Rf (n + 1) (extR n r e) := by
  have n9' : n ≤ 9 := by omega
  have swap : ∀ b x : Nat, (b ||| 2 ^ n) ||| 2 ^ x = (b ||| 2 ^ x) ||| 2 ^ n := fun b x => put_comm b n x
  have bitb : ∀ {b x : Nat}, x < n → ((b ||| 2 ^ n).testBit x = false ↔ b.testBit x = false) := fun {b x} hx => by
    rw [put_bit, decide_eq_false (by omega), Bool.or_false]
  refine ⟨by rw [ext_old (Nat.two_pow_pos n)]; exact f.zero, fun c x hc hx cx => ?_, fun c x y hc hx hy cx cy h1 h2 => ?_⟩
  · rcases two_kinds hc with hc | ⟨b, hb, rfl⟩
    · by_cases e : x = n
      · subst e
        rw [ext_new hc, ext_old hc]
        have := h.le c hc
        omega
      · have hx : x < n := by omega
        rw [ext_old hc, ext_old (put_lt hx hc)]
        exact f.step c x hc hx cx
    · have hx : x < n := by
        rcases Nat.lt_or_ge x n with q | q
        · exact q
        · have : x = n := by omega
          subst this
          rw [put_bit, decide_eq_true rfl, Bool.or_true] at cx
          cases cx
      have cb := (bitb hx).mp cx
      rw [swap, ext_new hb, ext_new (put_lt hx hb)]
      have s := f.step b x hb hx cb
      have d := h.down b x hb hx cb
      have l := h.le b hb
      rcases s with s | s
      · have := h.same b x hb hx cb s
        omega
      · omega
  · rcases two_kinds hc with hc | ⟨b, hb, rfl⟩
    · rw [ext_old hc] at h1 h2 ⊢
      have one : ∀ y, y < n → c.testBit y = false → extR n r e (c ||| 2 ^ n) = r c → extR n r e (c ||| 2 ^ y) = r c → extR n r e (c ||| 2 ^ n ||| 2 ^ y) = r c := fun y hy cy k1 k2 => by
        rw [ext_new hc] at k1
        rw [ext_old (put_lt hy hc)] at k2
        rw [swap, ext_new (put_lt hy hc), k2]
        have := h.same c y hc hy cy k2
        omega
      by_cases ex : x = n
      · subst ex
        by_cases ey : y = x
        · subst ey
          rw [put_put, h1]
        · exact one y (by omega) cy h1 h2
      · by_cases ey : y = n
        · subst ey
          have := one x (by omega) cx h2 h1
          rw [← swap]
          exact this
        · have hx : x < n := by omega
          have hy : y < n := by omega
          rw [ext_old (put_lt hx hc)] at h1
          rw [ext_old (put_lt hy hc)] at h2
          rw [ext_old (put_lt hy (put_lt hx hc))]
          exact f.loc c x y hc hx hy cx cy h1 h2
    · have nn : ∀ z, z < n + 1 → (b ||| 2 ^ n).testBit z = false → z < n := fun z hz cz => by
        rcases Nat.lt_or_ge z n with q | q
        · exact q
        · have : z = n := by omega
          subst this
          rw [put_bit, decide_eq_true rfl, Bool.or_true] at cz
          cases cz
      have hx := nn x hx cx
      have hy := nn y hy cy
      have bx := (bitb hx).mp cx
      have by_ := (bitb hy).mp cy
      have lx := put_lt hx hb
      have ly := put_lt hy hb
      have lxy := put_lt hy lx
      rw [swap, ext_new lx, ext_new hb] at h1
      rw [swap, ext_new ly, ext_new hb] at h2
      rw [swap, swap, ext_new lxy, ext_new hb]
      have sx := f.step b x hb hx bx
      have sy := f.step b y hb hy by_
      have l0 := h.le b hb
      by_cases exy : x = y
      · subst exy
        rw [put_put]
        exact h1
      have bxy : (b ||| 2 ^ x).testBit y = false := by
        rw [put_bit, by_, decide_eq_false exy]
        rfl
      have byx : (b ||| 2 ^ y).testBit x = false := by
        rw [put_bit, bx, decide_eq_false (fun q => exy q.symm)]
        rfl
      have dx := h.down (b ||| 2 ^ x) y lx hy bxy
      have dy := h.down (b ||| 2 ^ y) x ly hx byx
      have cm := put_comm b x y
      rcases sx with sx | sx
      · have idle : r (b ||| 2 ^ y ||| 2 ^ x) = r (b ||| 2 ^ y) := f.idle n9' ly (sub_put b y) hx byx sx
        have e1 := h.same (b ||| 2 ^ y) x ly hx byx idle
        rw [cm, idle, e1]
        omega
      · rcases sy with sy | sy
        · have idle : r (b ||| 2 ^ x ||| 2 ^ y) = r (b ||| 2 ^ x) := f.idle n9' lx (sub_put b x) hy bxy sy
          have e1 := h.same (b ||| 2 ^ x) y lx hy bxy idle
          rw [idle, e1]
          omega
        · have eb : e b = 1 := by omega
          have ex : e (b ||| 2 ^ x) = 0 := by omega
          have ey : e (b ||| 2 ^ y) = 0 := by omega
          have := h.both b x y hb hx hy bx by_ eb sx sy ex ey
          have m := (f.mono n9' lxy (sub_put (b ||| 2 ^ x) y)).1
          omega
theorem sure_ext {n : Nat} (r : Nat → Nat) : ExtOk n r fun _ => 1 :=
  ⟨fun _ _ => Nat.le_refl _, fun _ _ _ _ _ => Nat.le_refl _, fun _ _ _ _ _ _ => rfl, fun _ _ _ _ _ _ _ _ _ _ _ h => absurd h (by decide)⟩
/-- put freely to what a lot closes -/
def prinE (r : Nat → Nat) (L b : Nat) : Nat := if r b < r (b ||| L) then 1 else 0
theorem prin_ext {n : Nat} {r : Nat → Nat} {L : Nat} (n9 : n ≤ 9) (f : Rf n r) (hL : L < 2 ^ n) : ExtOk n r (prinE r L) := by
  have ol : ∀ {b}, b < 2 ^ n → b ||| L < 2 ^ n := fun hb => Nat.or_lt_two_pow hb hL
  have so : ∀ b, sub b (b ||| L) := fun b => sub_iff.mpr fun i hi => by rw [Nat.testBit_or, hi]; rfl
  have up : ∀ {b}, b < 2 ^ n → r b ≤ r (b ||| L) := fun {b} hb => (f.mono n9 (ol hb) (so b)).1
  have mv : ∀ b y : Nat, (b ||| 2 ^ y) ||| L = (b ||| L) ||| 2 ^ y := fun b y => by
    rw [Nat.or_assoc, Nat.or_comm (2 ^ y) L, ← Nat.or_assoc]
  have idl : ∀ b y, b < 2 ^ n → y < n → b.testBit y = false → r (b ||| 2 ^ y) = r b → r ((b ||| L) ||| 2 ^ y) = r (b ||| L) := fun b y hb hy by_ h => by
    cases q : (b ||| L).testBit y
    · exact f.idle n9 (ol hb) (so b) hy q h
    · rw [or_same q]
  have clo0 : ∀ b d, d < 2 ^ n → b < 2 ^ n → sub b d → r (b ||| L) = r b → r (d ||| L) = r d := fun b d hd hb hs h => by
    have s := f.sum n9 hd (ol hb)
    have e1 : d ||| (b ||| L) = d ||| L := by
      refine Nat.eq_of_testBit_eq fun i => ?_
      simp only [Nat.testBit_or]
      cases q : b.testBit i
      · rw [Bool.false_or]
      · rw [sub_iff.mp hs i q]
        rfl
    have e2 : sub b (d &&& (b ||| L)) := sub_and hs (so b)
    have m := (f.mono n9 (Nat.lt_of_le_of_lt Nat.and_le_left hd) e2).1
    have u := up hd
    rw [e1] at s
    omega
  have one : ∀ b, prinE r L b = 1 ↔ r b < r (b ||| L) := fun b => by unfold prinE; split <;> simp_all
  have nul : ∀ b, b < 2 ^ n → (prinE r L b = 0 ↔ r (b ||| L) = r b) := fun b hb => by
    have := up hb
    unfold prinE
    split
    · constructor
      · intro h; cases h
      · intro h; omega
    · constructor
      · intro _; omega
      · intro _; rfl
  have le1 : ∀ b, prinE r L b ≤ 1 := fun b => by unfold prinE; split <;> omega
  refine ⟨fun b _ => le1 b, fun b y hb hy by_ => ?_, fun b y hb hy by_ h => ?_, fun b y z hb hy hz by_ bz eb hy1 hz1 ey ez => ?_⟩
  · by_cases q : r (b ||| L) = r b
    · have := clo0 b (b ||| 2 ^ y) (put_lt hy hb) hb (sub_put b y) q
      rw [(nul _ (put_lt hy hb)).mpr this]
      exact Nat.zero_le _
    · have := up hb
      rw [(one b).mpr (by omega)]
      exact le1 _
  · unfold prinE
    rw [mv, idl b y hb hy by_ h, h]
  · have ey := (nul _ (put_lt hy hb)).mp ey
    have ez := (nul _ (put_lt hz hb)).mp ez
    have eb := (one b).mp eb
    rw [mv] at ey ez
    have m1 := (f.mono n9 (put_lt hy (ol hb)) (sub_put (b ||| L) y)).1
    have e1 : r (b ||| L) = r b + 1 := by omega
    have i1 : r ((b ||| L) ||| 2 ^ y) = r (b ||| L) := by omega
    have i2 : r ((b ||| L) ||| 2 ^ z) = r (b ||| L) := by omega
    have i3 : r ((b ||| L) ||| 2 ^ y ||| 2 ^ z) = r (b ||| L) := by
      cases q1 : (b ||| L).testBit y
      · cases q2 : (b ||| L).testBit z
        · exact f.loc _ y z (ol hb) hy hz q1 q2 i1 i2
        · rw [put_comm, or_same q2]
          exact i1
      · rw [or_same q1]
        exact i2
    have s : sub (b ||| 2 ^ y ||| 2 ^ z) ((b ||| L) ||| 2 ^ y ||| 2 ^ z) := put_mono z (put_mono y (so b))
    have := (f.mono n9 (put_lt hz (put_lt hy (ol hb))) s).1
    omega
/-! ### all lots of one size but those within blocks -/
def pavR (k : Nat) (B : List Nat) (c : Nat) : Nat := if sz c < k then sz c else if (B.any fun b => decide (c &&& b = c)) = true then k - 1 else k
structure PavOk (n k : Nat) (B : List Nat) : Prop where
  pos : 1 ≤ k
  lt : ∀ b ∈ B, b < 2 ^ n
  far : ∀ a ∈ B, ∀ b ∈ B, a = b ∨ sz (a &&& b) + 2 ≤ k
theorem pav_rf {n k : Nat} {B : List Nat} (n9 : n ≤ 9) (h : PavOk n k B) : Rf n (pavR k B) := by
  have inB : ∀ c, (B.any fun b => decide (c &&& b = c)) = true ↔ ∃ b ∈ B, sub c b := fun c => by
    rw [List.any_eq_true]
    simp only [decide_eq_true_eq]
    rfl
  have low : ∀ {c}, sz c < k → pavR k B c = sz c := fun hc => by unfold pavR; rw [if_pos hc]
  have inn : ∀ {c}, ¬ sz c < k → (∃ b ∈ B, sub c b) → pavR k B c = k - 1 := fun {c} hc hb => by
    unfold pavR
    rw [if_neg hc, if_pos ((inB c).mpr hb)]
  have out : ∀ {c}, ¬ sz c < k → ¬ (∃ b ∈ B, sub c b) → pavR k B c = k := fun {c} hc hb => by
    unfold pavR
    rw [if_neg hc, if_neg (fun q => hb ((inB c).mp q))]
  have szp : ∀ c x, c < 2 ^ n → x < n → c.testBit x = false → sz (c ||| 2 ^ x) = sz c + 1 := fun c x hc hx cx => sz_put (by omega) (lt512 n9 hc) cx
  have dn : ∀ {c x : Nat}, (∃ b ∈ B, sub (c ||| 2 ^ x) b) → ∃ b ∈ B, sub c b := fun {c x} ⟨b, hb, s⟩ => ⟨b, hb, sub_trans (sub_put c x) s⟩
  have pos := h.pos
  refine ⟨by rw [low (by rw [sz_zero]; omega)]; exact sz_zero, fun c x hc hx cx => ?_, fun c x y hc hx hy cx cy h1 h2 => ?_⟩
  · have e := szp c x hc hx cx
    by_cases q : sz c + 1 < k
    · rw [low (by omega), low (by omega)]
      exact .inr e
    · by_cases q2 : sz c < k
      · rw [low q2]
        by_cases w : ∃ b ∈ B, sub (c ||| 2 ^ x) b
        · rw [inn (by omega) w]
          exact .inl (by omega)
        · rw [out (by omega) w]
          exact .inr (by omega)
      · by_cases w : ∃ b ∈ B, sub (c ||| 2 ^ x) b
        · rw [inn (by omega) w, inn q2 (dn w)]
          exact .inl rfl
        · rw [out (by omega) w]
          by_cases w2 : ∃ b ∈ B, sub c b
          · rw [inn q2 w2]
            exact .inr (by omega)
          · rw [out q2 w2]
            exact .inl rfl
  · have ex := szp c x hc hx cx
    have ey := szp c y hc hy cy
    by_cases exy : x = y
    · subst exy
      rw [put_put]
      exact h1
    have bxy : (c ||| 2 ^ x).testBit y = false := by
      rw [put_bit, cy, decide_eq_false exy]
      rfl
    have e2 := szp _ y (put_lt hx hc) hy bxy
    by_cases q : sz c + 1 < k
    · rw [low (by omega), low (by omega)] at h1
      omega
    · by_cases w : ∃ b ∈ B, sub c b ∧ sub (c ||| 2 ^ x) b ∧ sub (c ||| 2 ^ y) b
      · obtain ⟨b, hb, s0, s1, s2⟩ := w
        have s3 : sub (c ||| 2 ^ x ||| 2 ^ y) b := put_sub s1 (sub_iff.mp s2 y (by rw [put_bit]; simp))
        rw [inn (by omega) ⟨b, hb, s3⟩]
        by_cases q2 : sz c < k
        · rw [low q2]
          omega
        · rw [inn q2 ⟨b, hb, s0⟩]
      · by_cases wx : ∃ b ∈ B, sub (c ||| 2 ^ x) b
        · by_cases wy : ∃ b ∈ B, sub (c ||| 2 ^ y) b
          · obtain ⟨a, ha, sa⟩ := wx
            obtain ⟨b, hb, sb⟩ := wy
            have ca := sub_trans (sub_put c x) sa
            have cb := sub_trans (sub_put c y) sb
            rcases h.far a ha b hb with rfl | far
            · exact absurd ⟨a, ha, ca, sa, sb⟩ w
            · have := sz_mono_all (sub_and ca cb)
              omega
          · rw [out (by omega) wy] at h2
            by_cases q2 : sz c < k
            · rw [low q2] at h2
              omega
            · rw [inn q2 (dn wx)] at h2
              omega
        · rw [out (by omega) wx] at h1
          rw [← h1]
          exact out (by omega) fun q => wx (dn q)
/-! ### things by other names -/
def plc (σ : Nat → Nat) (c : Nat) : Nat := codeN ((bl c).map σ)
structure PermOk (n : Nat) (σ : Nat → Nat) : Prop where
  lt : ∀ x, x < n → σ x < n
  inj : ∀ x y, x < n → y < n → σ x = σ y → x = y
  onto : ∀ y, y < n → ∃ x, x < n ∧ σ x = y
theorem plc_mem {n : Nat} {σ : Nat → Nat} (n9 : n ≤ 9) (h : PermOk n σ) {c : Nat} (hc : c < 2 ^ n) : plc σ c < 2 ^ n ∧ ∀ y, (plc σ c).testBit y = true ↔ ∃ x, x < n ∧ σ x = y ∧ c.testBit x = true := by
  have lx : ∀ x ∈ bl c, x < n := fun x hx => lt_of_bit hc (mem_bl.mp hx).2
  obtain ⟨h1, h2, _⟩ := codeN_ok n9 (L := (bl c).map σ) (List.pairwise_map.mpr (List.Pairwise.imp_of_mem (fun {a b} ha hb ne q => ne (h.inj a b (lx a ha) (lx b hb) q)) (bl_nodup c))) (fun y hy => by
    obtain ⟨x, hx, rfl⟩ := List.mem_map.mp hy
    exact h.lt x (lx x hx))
  refine ⟨h1, fun y => ?_⟩
  unfold plc
  rw [h2, decide_eq_true_eq, List.mem_map]
  constructor
  · rintro ⟨x, hx, e⟩
    exact ⟨x, lx x hx, e, (mem_bl.mp hx).2⟩
  · rintro ⟨x, hx, e, b⟩
    exact ⟨x, mem_bl.mpr ⟨by omega, b⟩, e⟩
theorem plc_bit {n : Nat} {σ : Nat → Nat} (n9 : n ≤ 9) (h : PermOk n σ) {c x : Nat} (hc : c < 2 ^ n) (hx : x < n) : (plc σ c).testBit (σ x) = c.testBit x := by
  rw [Bool.eq_iff_iff, (plc_mem n9 h hc).2]
  constructor
  · rintro ⟨y, hy, e, b⟩
    rw [← h.inj y x hy hx e]
    exact b
  · intro b
    exact ⟨x, hx, rfl, b⟩
theorem plc_put {n : Nat} {σ : Nat → Nat} (n9 : n ≤ 9) (h : PermOk n σ) {c x : Nat} (hc : c < 2 ^ n) (hx : x < n) : plc σ (c ||| 2 ^ x) = plc σ c ||| 2 ^ σ x := by
  refine Nat.eq_of_testBit_eq fun y => ?_
  rw [put_bit, Bool.eq_iff_iff, Bool.or_eq_true, decide_eq_true_eq, (plc_mem n9 h (put_lt hx hc)).2, (plc_mem n9 h hc).2]
  constructor
  · rintro ⟨z, hz, e, b⟩
    rw [put_bit, Bool.or_eq_true, decide_eq_true_eq] at b
    rcases b with b | rfl
    · exact .inl ⟨z, hz, e, b⟩
    · exact .inr e
  · rintro (⟨z, hz, e, b⟩ | e)
    · exact ⟨z, hz, e, by rw [put_bit, b]; rfl⟩
    · exact ⟨x, hx, e, by rw [put_bit]; simp⟩
theorem plc_onto {n : Nat} {σ : Nat → Nat} (n9 : n ≤ 9) (h : PermOk n σ) {d : Nat} (hd : d < 2 ^ n) : ∃ c, c < 2 ^ n ∧ plc σ c = d := by
  obtain ⟨c, hc, hb⟩ := code_of (fun x => d.testBit (σ x)) n
  refine ⟨c, hc, Nat.eq_of_testBit_eq fun y => ?_⟩
  rw [Bool.eq_iff_iff, (plc_mem n9 h hc).2]
  constructor
  · rintro ⟨x, hx, e, b⟩
    rw [hb, e, Bool.and_eq_true] at b
    exact b.2
  · intro b
    obtain ⟨x, hx, e⟩ := h.onto y (lt_of_bit hd b)
    exact ⟨x, hx, e, by rw [hb, e, b, decide_eq_true hx]; rfl⟩
theorem plc_inj {n : Nat} {σ : Nat → Nat} (n9 : n ≤ 9) (h : PermOk n σ) {c d : Nat} (hc : c < 2 ^ n) (hd : d < 2 ^ n) (e : plc σ c = plc σ d) : c = d := by
  refine Nat.eq_of_testBit_eq fun x => ?_
  by_cases hx : x < n
  · rw [← plc_bit n9 h hc hx, ← plc_bit n9 h hd hx, e]
  · rw [bit_high hc (by omega), bit_high hd (by omega)]
theorem ren_rf {n : Nat} {σ r g : Nat → Nat} (n9 : n ≤ 9) (h : PermOk n σ) (f : Rf n r) (e : ∀ c, c < 2 ^ n → g (plc σ c) = r c) : Rf n g := by
  have z : plc σ 0 = 0 := by
    unfold plc
    rw [show bl 0 = [] from by decide +kernel]
    rfl
  refine ⟨by rw [← z, e 0 (Nat.two_pow_pos n)]; exact f.zero, fun d y hd hy dy => ?_, fun d y y2 hd hy hy2 dy dy2 k1 k2 => ?_⟩
  · obtain ⟨c, hc, rfl⟩ := plc_onto n9 h hd
    obtain ⟨x, hx, rfl⟩ := h.onto y hy
    rw [plc_bit n9 h hc hx] at dy
    rw [← plc_put n9 h hc hx, e _ (put_lt hx hc), e c hc]
    exact f.step c x hc hx dy
  · obtain ⟨c, hc, rfl⟩ := plc_onto n9 h hd
    obtain ⟨x, hx, rfl⟩ := h.onto y hy
    obtain ⟨x2, hx2, rfl⟩ := h.onto y2 hy2
    rw [plc_bit n9 h hc hx] at dy
    rw [plc_bit n9 h hc hx2] at dy2
    rw [← plc_put n9 h hc hx, e _ (put_lt hx hc), e c hc] at k1
    rw [← plc_put n9 h hc hx2, e _ (put_lt hx2 hc), e c hc] at k2
    rw [← plc_put n9 h hc hx, ← plc_put n9 h (put_lt hx hc) hx2, e _ (put_lt hx2 (put_lt hx hc)), e c hc]
    exact f.loc c x x2 hc hx hx2 dy dy2 k1 k2
/-- a list of all things tells another name for each -/
theorem perm_ok {n : Nat} {L : List Nat} (h : L.Perm (List.range n)) : PermOk n fun x => L.getD x 0 := by
  have hl : L.length = n := by rw [h.length_eq, List.length_range]
  have nd : L.Nodup := h.nodup_iff.mpr List.nodup_range
  have at_ : ∀ x, (hx : x < L.length) → L.getD x 0 = L[x] := fun x hx => by rw [List.getD_eq_getElem?_getD, List.getElem?_eq_getElem hx]; rfl
  refine ⟨fun x hx => ?_, fun x y hx hy e => ?_, fun y hy => ?_⟩
  · show L.getD x 0 < n
    rw [at_ x (by omega)]
    exact List.mem_range.mp (h.mem_iff.mp (List.getElem_mem (by omega)))
  · have e : L.getD x 0 = L.getD y 0 := e
    rw [at_ x (by omega), at_ y (by omega)] at e
    exact (List.getElem_inj nd).mp e
  · obtain ⟨x, hx, e⟩ := List.getElem_of_mem (h.mem_iff.mpr (List.mem_range.mpr hy))
    exact ⟨x, by omega, by show L.getD x 0 = y; rw [at_ x hx, e]⟩
end PL
namespace PL
open PySem PySem.Spec L2 VS
open PyProof.Rows hiding St

theorem at_list {α : Type} (f : α → PyData) {L : List α} {i : Nat} (h : i < L.length) : L2.atI (L.map f) (i : Int) = some (f L[i]) := by
  rw [atI_nat, List.getElem?_map, List.getElem?_eq_getElem h]
  rfl
theorem rangeD_one (m : Nat) : rangeD 1 m = (List.range m).map fun i => intN (i + 1) := by
  unfold rangeD
  refine List.map_congr_left fun i _ => ?_
  show PyData.int (1 + (i : Int)) = .int (((i + 1 : Nat) : Int))
  congr 1
  omega
/-! ### columns as lists of numbers -/
def vec (q : Nat) (L : List Nat) : Vec (q + 1) := fun i => Fin.ofNat (q + 1) (L.getD i 0)
abbrev QOk (q : Nat) : Prop := q = 1 ∨ q = 2 ∨ q = 4
def mS (q k a b : Nat) : Nat := (((a : Int) - (k : Int) * (b : Int)) % ((q + 1 : Nat) : Int)).toNat
theorem conv0 : ∀ q ∈ [1, 2, 4], ∀ a < q + 1, ∀ b < q + 1, ∀ k < q + 1, mS q k a b < q + 1 ∧ ((a : Int) - (k : Int) * (b : Int)) % ((q + 1 : Nat) : Int) = ((mS q k a b : Nat) : Int) ∧ Fin.ofNat (q + 1) (mS q k a b) = Fin.ofNat (q + 1) a - Fin.ofNat (q + 1) k * Fin.ofNat (q + 1) b := by decide +kernel
theorem conv1 : ∀ q ∈ [1, 2, 4], ∀ a < q + 1, ∀ k < q + 1, Fin.ofNat (q + 1) (a * k % (q + 1)) = Fin.ofNat (q + 1) k * Fin.ofNat (q + 1) a := by decide +kernel
theorem conv2 : ∀ q ∈ [1, 2, 4], ∀ a < q + 1, (Fin.ofNat (q + 1) a = 0 ↔ a = 0) := by decide +kernel
theorem conv3 : ∀ q ∈ [1, 2, 4], ∀ a < q + 1, 0 < a → ((List.range q).filter fun i => decide ((i + 1) * a % (q + 1) = 1)) ≠ [] := by decide +kernel
theorem conv4 : ∀ q ∈ [1, 2, 4], ∀ a < q + 1, ∀ k < q + 1, k * a % (q + 1) = 1 → Fin.ofNat (q + 1) k * Fin.ofNat (q + 1) a = 1 := by decide +kernel
theorem QOk.mem {q : Nat} (h : QOk q) : q ∈ [1, 2, 4] := by simpa using h
theorem QOk.inv {q : Nat} (h : QOk q) : HasInv (q + 1) := by
  rcases h with rfl | rfl | rfl
  · exact inv2
  · exact inv3
  · exact inv5
theorem QOk.one {q : Nat} (h : QOk q) : (1 : Fin (q + 1)) ≠ 0 := by
  rcases h with rfl | rfl | rfl <;> decide
theorem vec_sub {q k : Nat} (hq : QOk q) (hk : k < q + 1) {S T : List Nat} (hl : S.length = T.length) (hS : ∀ a ∈ S, a < q + 1) (hT : ∀ a ∈ T, a < q + 1) (i : Nat) : vec q (List.zipWith (mS q k) S T) i = vec q S i - Fin.ofNat (q + 1) k * vec q T i := by
  unfold vec
  rw [List.getD_eq_getElem?_getD, List.getD_eq_getElem?_getD, List.getD_eq_getElem?_getD]
  by_cases h : i < S.length
  · have h2 : i < T.length := by omega
    rw [List.getElem?_zipWith, List.getElem?_eq_getElem h, List.getElem?_eq_getElem h2]
    exact (conv0 q hq.mem _ (hS _ (List.getElem_mem h)) _ (hT _ (List.getElem_mem h2)) k hk).2.2
  · rw [List.getElem?_zipWith, List.getElem?_eq_none (by omega), List.getElem?_eq_none (by omega)]
    show Fin.ofNat (q + 1) 0 = Fin.ofNat (q + 1) 0 - Fin.ofNat (q + 1) k * Fin.ofNat (q + 1) 0
    have e : Fin.ofNat (q + 1) 0 = 0 := rfl
    rw [e]
    grind
theorem vec_mul {q k : Nat} (hq : QOk q) (hk : k < q + 1) {S : List Nat} (hS : ∀ a ∈ S, a < q + 1) (i : Nat) : vec q (S.map fun a => a * k % (q + 1)) i = Fin.ofNat (q + 1) k * vec q S i := by
  unfold vec
  rw [List.getD_eq_getElem?_getD, List.getD_eq_getElem?_getD, List.getElem?_map]
  by_cases h : i < S.length
  · rw [List.getElem?_eq_getElem h]
    exact conv1 q hq.mem _ (hS _ (List.getElem_mem h)) k hk
  · rw [List.getElem?_eq_none (by omega)]
    show Fin.ofNat (q + 1) 0 = Fin.ofNat (q + 1) k * Fin.ofNat (q + 1) 0
    have e : Fin.ofNat (q + 1) 0 = 0 := rfl
    rw [e]
    grind
abbrev Stem : Type := List (Nat × List Nat)
def stpD (p : Nat × List Nat) : PyData := .tuple [intN p.1, .list (p.2.map intN)]
def stemD (F : Stem) : PyData := .list (F.map stpD)
def frV (q : Nat) (F : Stem) : FrV (q + 1) := F.map fun p => (p.1, vec q p.2)
structure StemOk (q h : Nat) (F : Stem) : Prop where
  rd : RedV (frV q F)
  each : ∀ p ∈ F, p.1 < h ∧ p.2.length = h ∧ ∀ a ∈ p.2, a < q + 1
def ColOk (q h : Nat) (C : List Nat) : Prop := C.length = h ∧ ∀ a ∈ C, a < q + 1
theorem StemOk.few {q h : Nat} (hq : QOk q) {F : Stem} (s : StemOk q h F) : F.length ≤ h := by
  have nd := redV_nodup s.rd hq.one
  have := nodup_le ((frV q F).map (·.1)) (List.range h) nd fun i hi => by
    obtain ⟨p, hp, rfl⟩ := List.mem_map.mp hi
    obtain ⟨p2, hp2, rfl⟩ := List.mem_map.mp hp
    exact List.mem_range.mpr (s.each p2 hp2).1
  rw [List.length_map, List.length_range] at this
  unfold frV at this
  rwa [List.length_map] at this
/-- a stem with one more column -/
def MoreOk (q h : Nat) (F : Stem) (C : List Nat) (G : Stem) : Prop := StemOk q h G ∧ ∀ (col : Nat → Vec (q + 1)) (c x : Nat), FvOk col c (frV q F) → col x = vec q C → FvOk col (c ||| 2 ^ x) (frV q G)
theorem more_same {q h : Nat} {F : Stem} {C : List Nat} (s : StemOk q h F) (z : ∀ i, redV (frV q F) (vec q C) i = 0) : MoreOk q h F C F :=
  ⟨s, fun col c x f e => f.in (by rw [e]; exact z)⟩
theorem zip_nats : ∀ S T : List Nat, zipD (S.map intN) (T.map intN) = (S.zip T).map fun p => PyData.tuple [intN p.1, intN p.2]
  | [], _ => by simp [zipD]
  | _ :: _, [] => by simp [zipD]
  | a :: S, b :: T => by
    have ih := zip_nats S T
    unfold zipD at ih ⊢
    simp only [List.map_cons, List.zipWith_cons_cons, List.zip_cons_cons, ih]
def sp_more : VSp := fun ds β P => ∃ (q h : Nat) (F : Stem) (C : List Nat), ds = [intN (q + 1), stemD F, .list (C.map intN)] ∧ QOk q ∧ h ≤ 9 ∧ StemOk q h F ∧ ColOk q h C ∧ ∀ G, MoreOk q h F C G → P (stemD G) β
theorem hd_more (ds : List PyData) (β : Bag) (Q : PyData → Bag → Prop) (hl : ds.length = 3) (h : sp_more ds β Q) : Wk.D__law_more  { nx := fun s => Q .none s.β, rt := Q } (initS 11 ds β) := by
  obtain ⟨q, h, F, C, rfl, hq, h9, hs, ⟨hC, cC⟩, k⟩ := h
  have few := hs.few hq
  have q5 : q + 1 ≤ 5 := by rcases hq with rfl | rfl | rfl <;> decide
  unfold Wk.D__law_more
  refine ⟨rfl, rfl, ?_⟩
  show if PyData.eqv (.int ((F.map stpD).length : Int)) (.int ((C.map intN).length : Int)) = true then _ else _
  rw [List.length_map, List.length_map, hC, show PyData.eqv (.int (F.length : Int)) (.int (h : Int)) = decide (F.length = h) from ne_intN _ _]
  by_cases hF : F.length = h
  · rw [if_pos (decide_eq_true hF)]
    refine k F (more_same hs fun i => ?_)
    have no := redV_no (vec q C) hs.rd
    by_cases hi : i < h
    · -- all places are taken
      have nd := redV_nodup hs.rd hq.one
      have e : i ∈ (frV q F).map (·.1) := by
        apply Classical.byContradiction
        intro ni
        have := nodup_le (i :: (frV q F).map (·.1)) (List.range h) (List.nodup_cons.mpr ⟨ni, nd⟩) fun j hj => by
          rcases List.mem_cons.mp hj with rfl | hj
          · exact List.mem_range.mpr hi
          · obtain ⟨p, hp, rfl⟩ := List.mem_map.mp hj
            obtain ⟨p2, hp2, rfl⟩ := List.mem_map.mp hp
            exact List.mem_range.mpr (hs.each p2 hp2).1
        rw [List.length_cons, List.length_map, List.length_range] at this
        unfold frV at this
        rw [List.length_map] at this
        omega
      obtain ⟨p, hp, rfl⟩ := List.mem_map.mp e
      exact no p hp
    · -- beyond the column
      have z : ∀ (G : Stem) (v : Vec (q + 1)), v i = 0 → (∀ p ∈ G, p.2.length = h) → redV (frV q G) v i = 0 := by
        intro G
        induction G with
        | nil => exact fun v hv _ => hv
        | cons p G ih =>
          intro v hv hG
          refine ih _ ?_ fun p2 h2 => hG p2 (List.mem_cons_of_mem _ h2)
          have hp := hG p (List.mem_cons_self ..)
          show v i - v p.1 * vec q p.2 i = 0
          have : vec q p.2 i = 0 := by
            unfold vec
            rw [List.getD_eq_getElem?_getD, List.getElem?_eq_none (by omega)]
            rfl
          rw [this, hv]
          grind
      refine z F _ ?_ fun p hp => (hs.each p hp).2.1
      unfold vec
      rw [List.getD_eq_getElem?_getD, List.getElem?_eq_none (by omega)]
      rfl
  rw [if_neg (by rw [decide_eq_false hF]; decide)]
  refine .inl (forW_L stpD (fun done rest s => ∃ (S : List Nat) (a b c d e : Slot), S.length = h ∧ (∀ x ∈ S, x < q + 1) ∧ (∀ i, vec q S i = redV (frV q done) (vec q C) i) ∧ s = ⟨[.sh (intN (q + 1)), .sh (stemD F), .sh (.list (C.map intN)), .sh (.list (S.map intN)), a, b, c, .un, d, .un, e], β⟩) F _ ⟨C, .un, .un, .un, .un, .un, hC, cC, fun i => rfl, rfl⟩ ?_ ?_)
  rotate_left
  · rintro done p rest _ e ⟨S, a, b, c, d, e', hS, cS, hv, rfl⟩ D' _ hD
    have hp : p ∈ F := by rw [e]; simp
    obtain ⟨p1, p2, p3⟩ := hs.each p hp
    have p1S : p.1 < S.length := by omega
    have ef : frV q (done ++ [p]) = frV q done ++ [(p.1, vec q p.2)] := by unfold frV; rw [List.map_append]; rfl
    have ek : Fin.ofNat (q + 1) S[p.1] = redV (frV q done) (vec q C) p.1 := by
      rw [← hv p.1]
      unfold vec
      rw [List.getD_eq_getElem?_getD, List.getElem?_eq_getElem p1S]
      rfl
    have nx : ∀ i, redV (frV q (done ++ [p])) (vec q C) i = vec q S i - Fin.ofNat (q + 1) S[p.1] * vec q p.2 i := fun i => by
      rw [ef, redV_snoc, ← hv i, ek]
    refine ⟨rfl, _, at_list intN p1S, ?_⟩
    show if decide ((0 : Int) < ((S[p.1] : Nat) : Int)) = true then _ else _
    have cb := cS _ (List.getElem_mem p1S)
    by_cases h0 : 0 < S[p.1]
    · rw [if_pos (decide_eq_true (by omega))]
      show lcW _ _ _ _ _ _ (zipD (S.map intN) (p.2.map intN)) _ _
      rw [zip_nats]
      refine lcW_m (fun p => PyData.tuple [intN p.1, intN p.2]) (fun w => intN (mS q S[p.1] w.1 w.2)) (S.zip p.2) (fun w hw R F2 z => ?_) (szN (by rw [List.length_zip]; omega)) ?_
      · obtain ⟨w1, w2⟩ := List.of_mem_zip hw
        refine ⟨rfl, ⟨.inl ⟨by omega, by omega⟩, (show (0 : Int) < ((q + 1 : Nat) : Int) by omega), ?_⟩⟩
        show R true _ (.int (((w.1 : Int) - ((S[p.1] : Nat) : Int) * (w.2 : Int)) % ((q + 1 : Nat) : Int))) _
        rw [(conv0 q hq.mem w.1 (cS _ w1) w.2 (p3 _ w2) S[p.1] cb).2.1]
        exact z ⟨_, _⟩
      · refine hD _ ⟨List.zipWith (mS q S[p.1]) S p.2, .sh (intN p.1), .sh (.list (p.2.map intN)), .sh (intN S[p.1]), d, e', by rw [List.length_zipWith]; omega, fun x hx => ?_, fun i => ?_, ?_⟩
        · obtain ⟨j, hj, rfl⟩ := List.getElem_of_mem hx
          rw [List.length_zipWith] at hj
          rw [List.getElem_zipWith]
          exact (conv0 q hq.mem _ (cS _ (List.getElem_mem (by omega))) _ (p3 _ (List.getElem_mem (by omega))) _ cb).1
        · rw [nx, vec_sub hq cb (by omega) cS p3]
        · rw [show (S.zip p.2).map (fun w => intN (mS q S[p.1] w.1 w.2)) = (List.zipWith (mS q S[p.1]) S p.2).map intN by rw [List.zip, List.map_zipWith, List.map_zipWith]]
          rfl
    · rw [if_neg (by rw [decide_eq_false (by omega)]; decide)]
      refine hD _ ⟨S, .sh (intN p.1), .sh (.list (p.2.map intN)), .sh (intN S[p.1]), d, e', hS, cS, fun i => ?_, rfl⟩
      rw [nx, show S[p.1] = 0 by omega]
      have : Fin.ofNat (q + 1) 0 = 0 := rfl
      rw [this]
      grind
  rintro _ ⟨S, a, b, c, d, e, hS, cS, hv, rfl⟩
  show lcW _ _ _ _ _ _ (enumD 0 (S.map intN)) _ _
  rw [enum_nats]
  refine lcW_km (fun p => PyData.tuple [intN p.2, intN p.1]) (fun p => intN p.2) (fun p => decide (0 < p.1)) (S.zipIdx 0) (fun w hw R F2 z => ?_) (szN (by rw [List.length_zipIdx]; omega)) ?_
  · refine ⟨rfl, ?_⟩
    show if decide ((0 : Int) < (w.1 : Int)) = true then _ else _
    rw [show decide ((0 : Int) < (w.1 : Int)) = decide (0 < w.1) by rw [Bool.eq_iff_iff, decide_eq_true_eq, decide_eq_true_eq]; omega]
    exact z ⟨_, _⟩
  cases hz : (S.zipIdx 0).filter (fun p => decide (0 < p.1)) with
  | nil =>
    refine ⟨(show 0 ≤ sizeLine by decide), rfl, rfl, ?_⟩
    show if PyData.eqv (.list []) (.list []) = true then _ else _
    rw [if_pos (by rfl)]
    refine k F (more_same hs fun i => ?_)
    rw [← hv i]
    unfold vec
    rw [List.getD_eq_getElem?_getD]
    by_cases hi : i < S.length
    · rw [List.getElem?_eq_getElem hi]
      have := List.filter_eq_nil_iff.mp hz (S[i], i) (List.mk_mem_zipIdx_iff_getElem?.mpr (List.getElem?_eq_getElem hi))
      have z0 : S[i] = 0 := by
        rw [decide_eq_true_eq] at this
        have : ¬ 0 < S[i] := this
        omega
      show Fin.ofNat (q + 1) S[i] = 0
      rw [z0]
      rfl
    · rw [List.getElem?_eq_none (by omega)]
      rfl
  | cons w M =>
    -- the first place that is not nought
    obtain ⟨a1, e1⟩ : ∃ as bs, S.zipIdx 0 = as ++ w :: bs ∧ ∀ y ∈ as, ¬ 0 < y.1 := by
      have := List.find?_eq_some_iff_append.mp (filt_cons hz)
      obtain ⟨_, as, bs, e, h⟩ := this
      refine ⟨as, bs, e, fun y hy => ?_⟩
      have := h y hy
      simpa using this
    obtain ⟨bs, es, low⟩ := e1
    obtain ⟨z1, z2, _, _⟩ := zip_split es
    have w1 : 0 < w.1 := by
      have := List.find?_some (filt_cons hz)
      simpa using this
    have wS : S[w.2]? = some w.1 := by
      have : (w.1, w.2) ∈ S.zipIdx 0 := by rw [es]; simp
      exact List.mk_mem_zipIdx_iff_getElem?.mp this
    have wS2 : S[w.2] = w.1 := by
      rw [List.getElem?_eq_getElem z2] at wS
      exact Option.some.inj wS
    have wp : w.1 < q + 1 := by rw [← wS2]; exact cS _ (List.getElem_mem z2)
    have lows : ∀ j, j < w.2 → (S.getD j 0) = 0 := fun j hj => by
      have hj2 : j < S.length := by omega
      have : (S.zipIdx 0)[j]? = some (S[j], j) := by rw [List.getElem?_zipIdx, List.getElem?_eq_getElem hj2]; simp
      rw [es, List.getElem?_append_left (by omega)] at this
      have := low _ (List.mem_of_getElem? this)
      rw [List.getD_eq_getElem?_getD, List.getElem?_eq_getElem hj2]
      show S[j] = 0
      have : ¬ 0 < S[j] := this
      omega
    refine ⟨(show 0 ≤ sizeLine by decide), (by have := shaped_nats ((w :: M).map (·.2)); rw [List.map_map] at this; exact this), rfl, ?_⟩
    show if PyData.eqv (.list ((w :: M).map fun p => intN p.2)) (.list []) = true then _ else _
    have en : PyData.eqv (.list ((w :: M).map fun p => intN p.2)) (.list []) = false := by
      have := ne_list ((w :: M).map fun p => intN p.2)
      simpa using this
    rw [en, if_neg (by decide)]
    -- its inverse
    refine ⟨⟨by decide, by decide, by omega, by omega⟩, ?_⟩
    show lcW _ _ _ _ _ _ (rangeD 1 (((q + 1 : Nat) : Int) - 1).toNat) _ _
    rw [show (((q + 1 : Nat) : Int) - 1).toNat = q by omega, rangeD_one]
    refine lcW_km (fun i => intN (i + 1)) (fun i => intN (i + 1)) (fun i => decide ((i + 1) * w.1 % (q + 1) = 1)) (List.range q) (fun i hi R F2 z => ?_) (szN (by rw [List.length_range]; omega)) ?_
    · refine ⟨intN w.2, at_0, intN w.1, (by rw [← wS2]; exact at_list intN z2), .inl ⟨by omega, by have := List.mem_range.mp hi; omega⟩, (show (0 : Int) < ((q + 1 : Nat) : Int) by omega), rfl, rfl, ?_⟩
      show if PyData.eqv (.int ((((i + 1 : Nat) : Int) * (w.1 : Int)) % ((q + 1 : Nat) : Int))) (intN 1) = true then _ else _
      rw [show ((((i + 1 : Nat) : Int) * (w.1 : Int)) % ((q + 1 : Nat) : Int)) = (((i + 1) * w.1 % (q + 1) : Nat) : Int) by rw [← Int.natCast_mul, ← Int.natCast_emod], ne_intN]
      exact z ⟨_, _⟩
    have nz := conv3 q hq.mem w.1 wp w1
    cases hk : (List.range q).filter (fun i => decide ((i + 1) * w.1 % (q + 1) = 1)) with
    | nil => exact absurd hk nz
    | cons g L2 =>
      have gm : g ∈ (List.range q).filter (fun i => decide ((i + 1) * w.1 % (q + 1) = 1)) := by rw [hk]; exact List.mem_cons_self ..
      obtain ⟨g1, g2⟩ := List.mem_filter.mp gm
      have g1 := List.mem_range.mp g1
      have g2 : (g + 1) * w.1 % (q + 1) = 1 := of_decide_eq_true g2
      refine ⟨_, at_0, ?_⟩
      have vl : vec q S w.2 = Fin.ofNat (q + 1) w.1 := by
        unfold vec
        rw [List.getD_eq_getElem?_getD, wS]
        rfl
      have ld : leadV (redV (frV q F) (vec q C)) w.2 := by
        refine ⟨?_, fun j hj => ?_⟩
        · rw [← hv, vl]
          intro e
          have := (conv2 q hq.mem w.1 wp).mp e
          omega
        · rw [← hv]
          unfold vec
          rw [lows j hj]
          rfl
      have hb : Fin.ofNat (q + 1) (g + 1) * redV (frV q F) (vec q C) w.2 = 1 := by
        rw [← hv, vl]
        exact conv4 q hq.mem w.1 wp (g + 1) (by omega) g2
      have hW : ∀ j, vec q (S.map fun a => a * (g + 1) % (q + 1)) j = Fin.ofNat (q + 1) (g + 1) * redV (frV q F) (vec q C) j := fun j => by
        rw [vec_mul hq (by omega) cS, hv]
      have eG : frV q (F ++ [(w.2, S.map fun a => a * (g + 1) % (q + 1))]) = frV q F ++ [(w.2, vec q (S.map fun a => a * (g + 1) % (q + 1)))] := by unfold frV; rw [List.map_append]; rfl
      have more : MoreOk q h F C (F ++ [(w.2, S.map fun a => a * (g + 1) % (q + 1))]) := by
        refine ⟨⟨?_, fun p hp => ?_⟩, fun col c x f e => ?_⟩
        · rw [eG]
          refine .snoc hs.rd (fun r hr => ?_) (by rw [hW, hb]) fun j hj => by rw [hW, ld.2 j hj]; grind
          rw [hW, redV_no (vec q C) hs.rd r hr]
          grind
        · rcases List.mem_append.mp hp with hp | hp
          · exact hs.each p hp
          · rw [List.mem_singleton] at hp
            subst hp
            refine ⟨by show w.2 < h; omega, by show (S.map _).length = h; rw [List.length_map, hS], fun a ha => ?_⟩
            obtain ⟨b, _, rfl⟩ := List.mem_map.mp ha
            exact Nat.mod_lt _ (by omega)
        · rw [eG]
          refine f.out (b := Fin.ofNat (q + 1) (g + 1)) ?_ ?_ fun j => ?_
          · rw [e]; exact ld
          · rw [e]; exact hb
          · rw [e]; exact hW j
      refine ⟨_, at_0, ?_⟩
      refine .inl (lcW_m intN (fun a => intN (a * (g + 1) % (q + 1))) S (fun a ha R F2 z => ?_) (szN (by omega)) ?_)
      · refine ⟨.inl ⟨by omega, by have := cS a ha; omega⟩, (show (0 : Int) < ((q + 1 : Nat) : Int) by omega), ?_⟩
        show R true _ (.int (((a : Int) * ((g + 1 : Nat) : Int)) % ((q + 1 : Nat) : Int))) _
        rw [show ((a : Int) * ((g + 1 : Nat) : Int)) % ((q + 1 : Nat) : Int) = ((a * (g + 1) % (q + 1) : Nat) : Int) by rw [← Int.natCast_mul, ← Int.natCast_emod]]
        exact z ⟨_, _⟩
      · refine ⟨(show 2 ≤ sizeLine by decide), (show 1 ≤ sizeLine by decide), szN (by rw [List.length_map]; show F.length + 1 ≤ _; omega), ?_⟩
        have := k _ more
        unfold stemD at this
        rw [List.map_append] at this
        have e2 : stpD (w.2, S.map fun a => a * (g + 1) % (q + 1)) = .tuple [intN w.2, .list (S.map fun a => intN (a * (g + 1) % (q + 1)))] := by
          unfold stpD
          rw [List.map_map]
          rfl
        rw [List.map_cons, List.map_nil, e2] at this
        exact this
end PL
namespace PL
open PySem PySem.Spec L2 VS
open PyProof.Rows hiding St

/-! ### drawn ranks -/
def sp_size : VSp := fun ds β P => ds = [bagD] ∧ GoodB β ∧ ∀ (n : Nat) (β' : Bag), n ≤ 9 → GoodB β' → P (intN n) β'
theorem hd_size (ds : List PyData) (β : Bag) (Q : PyData → Bag → Prop) (hl : ds.length = 1) (h : sp_size ds β Q) : Wk.D__law_size sp_pick { nx := fun s => Q .none s.β, rt := Q } (initS 1 ds β) := by
  obtain ⟨rfl, hb, k⟩ := h
  unfold Wk.D__law_size
  refine ⟨(show 26 ≤ sizeLine by decide), rfl, _, rfl, (show 0 < 26 by decide), (show 26 ≤ 1048576 by decide), hb, fun y hy β1 hb1 => ?_⟩
  obtain ⟨m, rfl, m9⟩ : ∃ m : Nat, y = intN m ∧ m ≤ 9 := by
    simp only [List.mem_cons, List.not_mem_nil, or_false] at hy
    have mk : ∀ m : Nat, m ≤ 9 → y = intN m → ∃ m : Nat, y = intN m ∧ m ≤ 9 := fun m h e => ⟨m, e, h⟩
    rcases hy with h | h | h | h | h | h | h | h | h | h | h | h | h | h | h | h | h | h | h | h | h | h | h | h | h | h
    · exact mk 0 (by decide) h
    · exact mk 1 (by decide) h
    · exact mk 2 (by decide) h
    · exact mk 2 (by decide) h
    · exact mk 3 (by decide) h
    · exact mk 3 (by decide) h
    · exact mk 3 (by decide) h
    · exact mk 4 (by decide) h
    · exact mk 4 (by decide) h
    · exact mk 4 (by decide) h
    · exact mk 4 (by decide) h
    · exact mk 5 (by decide) h
    · exact mk 5 (by decide) h
    · exact mk 5 (by decide) h
    · exact mk 5 (by decide) h
    · exact mk 6 (by decide) h
    · exact mk 6 (by decide) h
    · exact mk 6 (by decide) h
    · exact mk 6 (by decide) h
    · exact mk 7 (by decide) h
    · exact mk 7 (by decide) h
    · exact mk 7 (by decide) h
    · exact mk 8 (by decide) h
    · exact mk 8 (by decide) h
    · exact mk 9 (by decide) h
    · exact mk 9 (by decide) h
  exact k m β1 m9 hb1
theorem rowD_dbl {x : Nat} (f : Nat → Nat) : rowD (x + 1) f = .list (((List.range (2 ^ x)).map fun c => intN (f c)) ++ (List.range (2 ^ x)).map fun c => intN (f (c + 2 ^ x))) := by
  unfold rowD
  rw [range_dbl]
theorem ext_row {x : Nat} {r e : Nat → Nat} : rowD (x + 1) (extR x r e) = .list (((List.range (2 ^ x)).map fun c => intN (r c)) ++ (List.range (2 ^ x)).map fun c => intN (r c + e c)) := by
  rw [rowD_dbl]
  congr 2
  · exact List.map_congr_left fun c hc => by rw [ext_old (List.mem_range.mp hc)]
  · refine List.map_congr_left fun c hc => ?_
    rw [add_or (List.mem_range.mp hc), ext_new (List.mem_range.mp hc)]
def sp_grown : VSp := fun ds β P => ∃ n : Nat, ds = [bagD, intN n] ∧ n ≤ 9 ∧ GoodB β ∧ ∀ (r : Nat → Nat) (β' : Bag), Rf n r → GoodB β' → P (rowD n r) β'
theorem rf0 : Rf 0 fun _ => 0 := ⟨rfl, fun c x _ hx => absurd hx (by omega), fun c x y _ hx => absurd hx (by omega)⟩
theorem hd_grown (ds : List PyData) (β : Bag) (Q : PyData → Bag → Prop) (hl : ds.length = 2) (h : sp_grown ds β Q) : Wk.D__law_grown_row sp_draw { nx := fun s => Q .none s.β, rt := Q } (initS 9 ds β) := by
  obtain ⟨n, rfl, n9, hb, k⟩ := h
  unfold Wk.D__law_grown_row
  refine ⟨rfl, ((n + 1 : Nat) : Int), ?_, by omega, by omega, hb, fun su β1 su0 su1 hb1 => ⟨(show 1 ≤ sizeLine by decide), rfl, (show 2 ≤ sizeLine by decide), ?_⟩⟩
  · show [bagD, PyData.int ((n : Int) + 1)] = _
    rw [show (n : Int) + 1 = ((n + 1 : Nat) : Int) by omega]
  refine rg1 (by omega) (forW_L intN (fun done rest s => ∃ (r : Nat → Nat) (a b c d e : Slot) (β : Bag), Rf done.length r ∧ done.length + rest.length = n ∧ GoodB β ∧ s = ⟨[.sh bagD, .sh (intN n), .sh (.int su), .sh (rowD done.length r), a, b, c, d, e], β⟩) (List.range n) _ ⟨fun _ => 0, .un, .un, .un, .un, .un, β1, rf0, by simp, hb1, rfl⟩ ?_ ?_)
  · rintro _ ⟨r, _, _, _, _, _, β, f, _, hb, rfl⟩
    rw [List.length_range] at f ⊢
    exact k r β f hb
  · rintro done x rest _ e ⟨r, a, b, c, s7, s8, β, f, hl2, hb, rfl⟩ D' _ hD
    obtain ⟨rfl, hx⟩ := range_at e
    rw [List.length_cons] at hl2
    generalize hxd : done.length = x at *
    have x9 : x < 9 := by omega
    have p9 := pow9 (show x ≤ 9 by omega)
    have pp := Nat.two_pow_pos x
    have nx : ∀ (g : Nat → Nat) (w lot s7 s8 : Slot) (β : Bag), Rf (x + 1) g → GoodB β → D'.nx ⟨[.sh bagD, .sh (intN n), .sh (.int su), .sh (rowD (x + 1) g), .sh (intN x), w, lot, s7, s8], β⟩ := fun g w lot s7 s8 β hg hb => by
      refine hD _ ⟨g, .sh (intN x), w, lot, s7, s8, β, ?_, ?_, hb, ?_⟩
      · rw [List.length_append, List.length_singleton, hxd]; exact hg
      · rw [List.length_append, List.length_singleton]; omega
      · rw [List.length_append, List.length_singleton, hxd]
    have tail : ∀ (w : Int) (L : Nat) (β : Bag), L < 2 ^ x → GoodB β → (sIf (dTest (dOp dLt (dVar 4) (dVar 2))) (sAsg (dOp dAdd (dVar 3) (dLc [7] (dSeqI (dVar 3)) (bName 7) dYes (dOp dAdd (dVar 7) (dC (.int 1))))) (bName 3)) (sAsg (dOp dAdd (dVar 3) (dLc [8, 7] (dEnumI (dCons (dVar 3) dNil)) (bSeq 2 (bCons (bName 8) (bCons (bName 7) bNil))) dYes (dIf (dTest (dOp dGt (dOp dIx (dVar 3) (dOp dOr (dVar 8) (dVar 6))) (dVar 7))) (dOp dAdd (dVar 7) (dC (.int 1))) (dVar 7)))) (bName 3))) D' ⟨[.sh bagD, .sh (intN n), .sh (.int su), .sh (rowD x r), .sh (intN x), .sh (.int w), .sh (intN L), s7, s8], β⟩ := by
      intro w L β hL hb
      show if decide ((x : Int) < su) = true then _ else _
      split
      · refine .inl (lcW_m (fun c => intN (r c)) (fun c => intN (r c + 1)) (List.range (2 ^ x)) (fun c hc R F q => q ⟨_, _⟩) (szN (by rw [List.length_range]; omega)) ?_)
        refine ⟨szN (by rw [row_len, row_len]; omega), ?_⟩
        have := nx (extR x r fun _ => 1) (.sh (.int w)) (.sh (intN L)) s7 s8 β (ext_rf x9 f (sure_ext r)) hb
        rw [ext_row] at this
        exact this
      · show lcW _ _ _ _ _ _ (enumD 0 ((List.range (2 ^ x)).map fun c => intN (r c))) _ _
        rw [enum_map (2 ^ x) fun c => intN (r c)]
        refine lcW_m (fun c => PyData.tuple [intN c, intN (r c)]) (fun c => intN (r c + prinE r L c)) (List.range (2 ^ x)) (fun c hc R F q => ?_) (szN (by rw [List.length_range]; omega)) ?_
        · have hc := List.mem_range.mp hc
          refine ⟨rfl, ?_⟩
          show ∃ d, L2.atI ((List.range (2 ^ x)).map fun c => intN (r c)) (Builtin.bitOr (c : Int) (L : Int)) = some d ∧ _
          rw [bitOr_nat]
          refine ⟨_, at_map (fun c => intN (r c)) (Nat.or_lt_two_pow hc hL), ?_⟩
          show if decide (((r c : Nat) : Int) < ((r (c ||| L) : Nat) : Int)) = true then _ else _
          unfold prinE at q
          by_cases h : r c < r (c ||| L)
          · rw [if_pos (decide_eq_true (by omega))]
            simp only [if_pos h] at q
            exact q ⟨_, _⟩
          · rw [if_neg (by rw [decide_eq_false (by omega)]; decide)]
            simp only [if_neg h] at q
            exact q ⟨_, _⟩
        · refine ⟨szN (by rw [row_len, row_len]; omega), ?_⟩
          have := nx (extR x r (prinE r L)) (.sh (.int w)) (.sh (intN L)) s7 s8 β (ext_rf x9 f (prin_ext (by omega) f hL)) hb
          rw [ext_row] at this
          exact this
    have dl : ∀ {β : Bag} {P : PyData → Bag → Prop}, GoodB β → (∀ (a : Nat) (β' : Bag), a < 2 ^ x → GoodB β' → P (intN a) β') → sp_draw [bagD, .int (((List.range (2 ^ x)).map fun c => intN (r c)).length : Int)] β P := fun hb h => by
      rw [row_len]
      exact hd_drawN pp (by omega) hb h
    refine ⟨rfl, (9 : Int), rfl, by decide, by decide, hb, fun w β2 w0 w9 hb2 => ⟨rfl, dl hb2 fun L β3 hL hb3 => ⟨rfl, rfl, ?_⟩⟩⟩
    show if PyData.eqv (.int w) (.int 0) = true then _ else _
    split
    · exact tail w 0 β3 pp hb3
    · show if decide (w < 3) = true then _ else _
      have four : (sIf (dTest (dOp dLt (dVar 5) (dC (.int 5)))) (sAsg (dOp dSub (dCall dLen (dCons (dVar 3) dNil)) (dC (.int 1))) (bName 6)) (sIf (dTest (dOp dLt (dVar 5) (dC (.int 7)))) (sAsg (dOp dAnd (dVar 6) (dFn 2 sp_draw (dCons (dVar 0) (dCons (dCall dLen (dCons (dVar 3) dNil)) dNil)))) (bName 6)) sNext)) { nx := fun s => (sIf (dTest (dOp dLt (dVar 4) (dVar 2))) (sAsg (dOp dAdd (dVar 3) (dLc [7] (dSeqI (dVar 3)) (bName 7) dYes (dOp dAdd (dVar 7) (dC (.int 1))))) (bName 3)) (sAsg (dOp dAdd (dVar 3) (dLc [8, 7] (dEnumI (dCons (dVar 3) dNil)) (bSeq 2 (bCons (bName 8) (bCons (bName 7) bNil))) dYes (dIf (dTest (dOp dGt (dOp dIx (dVar 3) (dOp dOr (dVar 8) (dVar 6))) (dVar 7))) (dOp dAdd (dVar 7) (dC (.int 1))) (dVar 7)))) (bName 3))) D' s, ct := D'.ct, bk := D'.bk, rt := D'.rt } ⟨[.sh bagD, .sh (intN n), .sh (.int su), .sh (rowD x r), .sh (intN x), .sh (.int w), .sh (intN L), s7, s8], β3⟩ := by
        show if decide (w < 5) = true then _ else _
        split
        · have := tail w (2 ^ x - 1) β3 (by omega) hb3
          show (sIf (dTest (dOp dLt (dVar 4) (dVar 2))) (sAsg (dOp dAdd (dVar 3) (dLc [7] (dSeqI (dVar 3)) (bName 7) dYes (dOp dAdd (dVar 7) (dC (.int 1))))) (bName 3)) (sAsg (dOp dAdd (dVar 3) (dLc [8, 7] (dEnumI (dCons (dVar 3) dNil)) (bSeq 2 (bCons (bName 8) (bCons (bName 7) bNil))) dYes (dIf (dTest (dOp dGt (dOp dIx (dVar 3) (dOp dOr (dVar 8) (dVar 6))) (dVar 7))) (dOp dAdd (dVar 7) (dC (.int 1))) (dVar 7)))) (bName 3))) D' ⟨[.sh bagD, .sh (intN n), .sh (.int su), .sh (rowD x r), .sh (intN x), .sh (.int w), .sh (.int ((((List.range (2 ^ x)).map fun c => intN (r c)).length : Int) - 1)), s7, s8], β3⟩
          rw [row_len, show ((2 ^ x : Nat) : Int) - 1 = ((2 ^ x - 1 : Nat) : Int) by omega]
          exact this
        · show if decide (w < 7) = true then _ else _
          split
          · refine ⟨rfl, dl hb3 fun M β4 hM hb4 => ?_⟩
            have := tail w (L &&& M) β4 (Nat.lt_of_le_of_lt Nat.and_le_left hL) hb4
            show (sIf (dTest (dOp dLt (dVar 4) (dVar 2))) (sAsg (dOp dAdd (dVar 3) (dLc [7] (dSeqI (dVar 3)) (bName 7) dYes (dOp dAdd (dVar 7) (dC (.int 1))))) (bName 3)) (sAsg (dOp dAdd (dVar 3) (dLc [8, 7] (dEnumI (dCons (dVar 3) dNil)) (bSeq 2 (bCons (bName 8) (bCons (bName 7) bNil))) dYes (dIf (dTest (dOp dGt (dOp dIx (dVar 3) (dOp dOr (dVar 8) (dVar 6))) (dVar 7))) (dOp dAdd (dVar 7) (dC (.int 1))) (dVar 7)))) (bName 3))) D' ⟨[.sh bagD, .sh (intN n), .sh (.int su), .sh (rowD x r), .sh (intN x), .sh (.int w), .sh (.int (Builtin.bitAnd (L : Int) (M : Int))), s7, s8], β4⟩
            rw [bitAnd_nat]
            exact this
          · exact tail w L β3 hL hb3
      split
      · show if decide ((0 : Int) < (x : Int)) = true then _ else _
        split
        · rename_i hx0
          have hx0 := of_decide_eq_true hx0
          refine ⟨rfl, hd_drawN (by omega) (by omega) hb3 fun y β4 hy hb4 => ⟨cpow_one (by omega), ?_⟩⟩
          have := tail w (2 ^ y) β4 (Nat.pow_lt_pow_right (by decide) hy) hb4
          show (sIf (dTest (dOp dLt (dVar 4) (dVar 2))) (sAsg (dOp dAdd (dVar 3) (dLc [7] (dSeqI (dVar 3)) (bName 7) dYes (dOp dAdd (dVar 7) (dC (.int 1))))) (bName 3)) (sAsg (dOp dAdd (dVar 3) (dLc [8, 7] (dEnumI (dCons (dVar 3) dNil)) (bSeq 2 (bCons (bName 8) (bCons (bName 7) bNil))) dYes (dIf (dTest (dOp dGt (dOp dIx (dVar 3) (dOp dOr (dVar 8) (dVar 6))) (dVar 7))) (dOp dAdd (dVar 7) (dC (.int 1))) (dVar 7)))) (bName 3))) D' ⟨[.sh bagD, .sh (intN n), .sh (.int su), .sh (rowD x r), .sh (intN x), .sh (.int w), .sh (.int (1 * 2 ^ ((y : Int)).toNat)), s7, s8], β4⟩
          rw [shl_one]
          exact this
        · exact four
      · exact four
/-! ### columns -/
def sp_gcols : VSp := sp_grown
theorem hd_gcols (ds : List PyData) (β : Bag) (Q : PyData → Bag → Prop) (hl : ds.length = 2) (h : sp_gcols ds β Q) : Wk.D__law_columns_row sp_more sp_draw sp_pick { nx := fun s => Q .none s.β, rt := Q } (initS 11 ds β) := by
  obtain ⟨n, rfl, n9, hb, k⟩ := h
  unfold Wk.D__law_columns_row
  refine ⟨(show 4 ≤ sizeLine by decide), rfl, _, rfl, (show 0 < 4 by decide), (show 4 ≤ 1048576 by decide), hb, fun y hy β1 hb1 => ?_⟩
  obtain ⟨q, rfl, hq⟩ : ∃ q : Nat, y = intN (q + 1) ∧ QOk q := by
    simp only [List.mem_cons, List.not_mem_nil, or_false] at hy
    rcases hy with rfl | rfl | rfl | rfl
    · exact ⟨1, rfl, .inl rfl⟩
    · exact ⟨1, rfl, .inl rfl⟩
    · exact ⟨2, rfl, .inr (.inl rfl)⟩
    · exact ⟨4, rfl, .inr (.inr rfl)⟩
  refine ⟨rfl, hd_drawN (n := 4) (by decide) (by decide) hb1 fun u β2 hu hb2 => ⟨rfl, (show 2 ≤ sizeLine by decide), ?_⟩⟩
  have q4 : q ≤ 4 := by rcases hq with rfl | rfl | rfl <;> decide
  suffices go : ∀ (h : Nat), h = u + 1 → (sSeq (sPar [4, 5] (dmSh (dLst (dCons (dC (.int 0)) dNil)) (dmSh (dLst (dCons (dLst dNil) dNil)) dmNil))) (sSeq (sFor (dRange1 (dCons (dVar 1) dNil)) (bName 6) (sSeq (sAsg (dLc [9] (dRange1 (dCons (dVar 3) dNil)) (bName 9) dYes (dFn 2 sp_draw (dCons (dVar 0) (dCons (dVar 2) dNil)))) (bName 7)) (sSeq (sAsg (dLc [10] (dSeqI (dVar 5)) (bName 10) dYes (dFn 3 sp_more (dCons (dVar 2) (dCons (dVar 10) (dCons (dVar 7) dNil))))) (bName 8)) (sSeq (sAsg (dOp dAdd (dVar 4) (dLc [10] (dSeqI (dVar 8)) (bName 10) dYes (dCall dLen (dCons (dVar 10) dNil)))) (bName 4)) (sAsg (dOp dAdd (dVar 5) (dVar 8)) (bName 5)))))) (sRet (dVar 4)))) { nx := fun s => Q .none s.β, rt := Q } ⟨[.sh bagD, .sh (intN n), .sh (intN (q + 1)), .sh (intN h), .un, .un, .un, .un, .un, .un, .un], β2⟩ from by
    have := go _ rfl
    show (sSeq (sPar [4, 5] (dmSh (dLst (dCons (dC (.int 0)) dNil)) (dmSh (dLst (dCons (dLst dNil) dNil)) dmNil))) (sSeq (sFor (dRange1 (dCons (dVar 1) dNil)) (bName 6) (sSeq (sAsg (dLc [9] (dRange1 (dCons (dVar 3) dNil)) (bName 9) dYes (dFn 2 sp_draw (dCons (dVar 0) (dCons (dVar 2) dNil)))) (bName 7)) (sSeq (sAsg (dLc [10] (dSeqI (dVar 5)) (bName 10) dYes (dFn 3 sp_more (dCons (dVar 2) (dCons (dVar 10) (dCons (dVar 7) dNil))))) (bName 8)) (sSeq (sAsg (dOp dAdd (dVar 4) (dLc [10] (dSeqI (dVar 8)) (bName 10) dYes (dCall dLen (dCons (dVar 10) dNil)))) (bName 4)) (sAsg (dOp dAdd (dVar 5) (dVar 8)) (bName 5)))))) (sRet (dVar 4)))) { nx := fun s => Q .none s.β, rt := Q } ⟨[.sh bagD, .sh (intN n), .sh (intN (q + 1)), .sh (.int (1 + (u : Int))), .un, .un, .un, .un, .un, .un, .un], β2⟩
    rw [show 1 + (u : Int) = ((u + 1 : Nat) : Int) by omega]
    exact this
  intro h hh
  have h9 : h ≤ 9 := by omega
  refine ⟨(show 1 ≤ sizeLine by decide), (show 0 ≤ sizeLine by decide), (show 1 ≤ sizeLine by decide), rfl, (show 2 ≤ sizeLine by decide), ?_⟩
  refine rg1 (by omega) (forW_L intN (fun done rest s => ∃ (F : Nat → Stem) (col : Nat → Vec (q + 1)) (a b c d e : Slot) (β : Bag), (∀ c, c < 2 ^ done.length → StemOk q h (F c) ∧ FvOk col c (frV q (F c))) ∧ done.length + rest.length = n ∧ GoodB β ∧ s = ⟨[.sh bagD, .sh (intN n), .sh (intN (q + 1)), .sh (intN h), .sh (rowD done.length fun c => (F c).length), .sh (.list ((List.range (2 ^ done.length)).map fun c => stemD (F c))), a, b, c, d, e], β⟩) (List.range n) _ ⟨fun _ => [], fun _ _ => 0, .un, .un, .un, .un, .un, β2, ?_, by simp, hb2, rfl⟩ ?_ ?_)
  · intro c hc
    have : c = 0 := by
      have : c < 1 := hc
      omega
    subst this
    exact ⟨⟨.nil, fun _ hp => nomatch hp⟩, fv_zero _⟩
  · rintro _ ⟨F, col, _, _, _, _, _, β, hF, _, hb, rfl⟩
    rw [List.length_range] at hF ⊢
    refine k _ β (colV_rf hq.inv hq.one (col := col) fun c hc => ⟨frV q (F c), (hF c hc).2, ?_⟩) hb
    unfold frV
    rw [List.length_map]
  · rintro done x rest _ e ⟨F, col, _, _, s8, s9, s10, β, hF, hl2, hb, rfl⟩ D' _ hD
    obtain ⟨rfl, hx⟩ := range_at e
    rw [List.length_cons] at hl2
    generalize hxd : done.length = x at *
    have p9 := pow9 (show x ≤ 9 by omega)
    have pp := Nat.two_pow_pos x
    refine ⟨by omega, by omega, ?_⟩
    rw [Int.toNat_natCast, rangeD_nat]
    refine lcW_sts intN (fun d => ∃ a, d = intN a ∧ a < q + 1) (List.range h) [] β hb (fun y hy β hb R F z => ?_) ?_ fun out β3 ho hol hb3 => ?_
    · exact ⟨rfl, hd_drawN (by omega) (by omega) hb fun a β' ha hb' => z _ _ β' ⟨a, rfl, ha⟩ hb'⟩
    · rw [List.length_range, sizeL]; simp only [List.length_nil]; omega
    rw [List.nil_append]
    obtain ⟨C, rfl, cC⟩ := all_nat ho
    rw [List.length_map, List.length_range] at hol
    have few : ∀ c, c < 2 ^ x → (F c).length ≤ h := fun c hc => (hF c hc).1.few hq
    refine .inl (lcW_pw (fun c => stemD (F c)) (fun c y => ∃ G, y = stemD G ∧ MoreOk q h (F c) C G) (List.range (2 ^ x)) [] (fun c hc R F2 z => ?_) (by rw [List.length_range, sizeL]; simp only [List.length_nil]; omega) fun out ho => ?_)
    · exact ⟨rfl, q, h, F c, C, rfl, hq, h9, (hF c (List.mem_range.mp hc)).1, ⟨hol, cC⟩, fun G hG => z _ _ ⟨G, rfl, hG⟩⟩
    rw [List.nil_append]
    haveI : Inhabited PyData := ⟨.none⟩
    obtain ⟨f, rfl, hf⟩ := ho.fn (β := PyData) (xs := List.range (2 ^ x)) List.nodup_range
    have : ∃ G : Nat → Stem, ∀ c, c < 2 ^ x → f c = stemD (G c) ∧ MoreOk q h (F c) C (G c) := by
      have := fun c => Classical.em (c < 2 ^ x)
      refine ⟨fun c => if hc : c < 2 ^ x then Classical.choose (hf c (List.mem_range.mpr hc)) else [], fun c hc => ?_⟩
      simp only [dif_pos hc]
      exact Classical.choose_spec (hf c (List.mem_range.mpr hc))
    obtain ⟨G, hG⟩ := this
    have ef : (List.range (2 ^ x)).map f = (List.range (2 ^ x)).map fun c => stemD (G c) := List.map_congr_left fun c hc => (hG c (List.mem_range.mp hc)).1
    rw [ef]
    have gl : ∀ c, c < 2 ^ x → (G c).length ≤ h := fun c hc => (hG c hc).2.1.few hq
    refine .inl (lcW_m (fun c => stemD (G c)) (fun c => intN (G c).length) (List.range (2 ^ x)) (fun c hc R F2 z => ?_) (szN (by rw [List.length_range]; omega)) ?_)
    · show R true _ (.int (((G c).map stpD).length : Int)) _
      rw [List.length_map]
      exact z ⟨_, _⟩
    refine ⟨szN (by rw [row_len, row_len]; omega), szN (by rw [row_len, row_len]; omega), ?_⟩
    have lt_dbl : ∀ {c : Nat}, c < 2 ^ (x + 1) → c < 2 ^ x ∨ (¬ c < 2 ^ x ∧ c - 2 ^ x < 2 ^ x ∧ c = (c - 2 ^ x) ||| 2 ^ x) := fun {c} hc => by
      by_cases q : c < 2 ^ x
      · exact .inl q
      · have h1 : c - 2 ^ x < 2 ^ x := by rw [Nat.pow_succ] at hc; omega
        exact .inr ⟨q, h1, by rw [← add_or h1]; omega⟩
    refine hD _ ⟨fun c => if c < 2 ^ x then F c else G (c - 2 ^ x), fun y => if y = x then vec q C else col y, .sh (intN x), .sh (.list (C.map intN)), .sh (.list ((List.range (2 ^ x)).map fun c => stemD (G c))), s9, s10, β3, fun c hc => ?_, ?_, hb3, ?_⟩
    · rw [List.length_append, List.length_singleton, hxd] at hc
      have keep : ∀ b, b < 2 ^ x → FvOk (fun y => if y = x then vec q C else col y) b (frV q (F b)) := fun b hb => (hF b hb).2.same fun y hy => by
        rw [if_neg (by have := lt_of_bit hb hy; omega)]
      rcases lt_dbl hc with h1 | ⟨h1, h2, h3⟩
      · simp only [if_pos h1]
        exact ⟨(hF c h1).1, keep c h1⟩
      · simp only [if_neg h1]
        have := (hG _ h2).2.2 (fun y => if y = x then vec q C else col y) (c - 2 ^ x) x (keep _ h2) (by rw [if_pos rfl])
        rw [← h3] at this
        exact ⟨(hG _ h2).2.1, this⟩
    · rw [List.length_append, List.length_singleton]; omega
    · rw [List.length_append, List.length_singleton, hxd, rowD_dbl, range_dbl]
      have e1 : ∀ c ∈ List.range (2 ^ x), (if c < 2 ^ x then F c else G (c - 2 ^ x)) = F c := fun c hc => if_pos (List.mem_range.mp hc)
      have e2 : ∀ c, (if c + 2 ^ x < 2 ^ x then F (c + 2 ^ x) else G (c + 2 ^ x - 2 ^ x)) = G c := fun c => by rw [if_neg (by omega), Nat.add_sub_cancel]
      have a1 : (List.range (2 ^ x)).map (fun c => intN (if c < 2 ^ x then F c else G (c - 2 ^ x)).length) = (List.range (2 ^ x)).map fun c => intN (F c).length := List.map_congr_left fun c hc => by rw [e1 c hc]
      have a2 : (List.range (2 ^ x)).map (fun c => intN (if c + 2 ^ x < 2 ^ x then F (c + 2 ^ x) else G (c + 2 ^ x - 2 ^ x)).length) = (List.range (2 ^ x)).map fun c => intN (G c).length := List.map_congr_left fun c hc => by rw [e2 c]
      have a3 : (List.range (2 ^ x)).map (fun c => stemD (if c < 2 ^ x then F c else G (c - 2 ^ x))) = (List.range (2 ^ x)).map fun c => stemD (F c) := List.map_congr_left fun c hc => by rw [e1 c hc]
      have a4 : (List.range (2 ^ x)).map (fun c => stemD (if c + 2 ^ x < 2 ^ x then F (c + 2 ^ x) else G (c + 2 ^ x - 2 ^ x))) = (List.range (2 ^ x)).map fun c => stemD (G c) := List.map_congr_left fun c hc => by rw [e2 c]
      rw [a1, a2, a3, a4]
      rfl
end PL
namespace PL
open PySem PySem.Spec L2 VS
open PyProof.Rows hiding St

theorem rep_one (N : Nat) (d : PyData) : (List.replicate N [d]).flatten = (List.range N).map fun _ => d := by
  induction N with
  | zero => rfl
  | succ N ih =>
    rw [List.replicate_succ', List.flatten_append, ih, List.range_succ, List.map_append]
    rfl
theorem ix_some {N x : Nat} (h : x < N) : L2.ixN N (x : Int) = some x := by
  unfold L2.ixN
  rw [if_pos (by omega), if_pos (by omega), Int.toNat_natCast]
theorem iset {N x : Nat} (f : Nat → Nat) (v : Nat) (h : x < N) : ((List.range N).map fun c => intN (f c)).set x (intN v) = (List.range N).map fun d => intN (if d = x then v else f d) := by
  apply List.ext_getElem
  · simp
  · intro i h1 h2
    rw [List.getElem_set]
    simp only [List.getElem_map, List.getElem_range]
    by_cases e : x = i
    · subst e
      simp
    · rw [if_neg e, if_neg (fun q => e q.symm)]
/-! ### blocks -/
def sp_gblk : VSp := fun ds β P => ∃ n : Nat, ds = [bagD, intN n, rowD n sz] ∧ n ≤ 9 ∧ GoodB β ∧ ∀ (r : Nat → Nat) (β' : Bag), Rf n r → GoodB β' → P (rowD n r) β'
theorem hd_gblk (ds : List PyData) (β : Bag) (Q : PyData → Bag → Prop) (hl : ds.length = 3) (h : sp_gblk ds β Q) : Wk.D__law_blocks_row sp_draw { nx := fun s => Q .none s.β, rt := Q } (initS 11 ds β) := by
  obtain ⟨n, rfl, n9, hb, kk⟩ := h
  have p9 := pow9 n9
  have pp := Nat.two_pow_pos n
  have as : ∀ {c : Nat}, c < 2 ^ n → L2.atI ((List.range (2 ^ n)).map fun c => intN (sz c)) (c : Int) = some (intN (sz c)) := fun hc => at_map (fun c => intN (sz c)) hc
  unfold Wk.D__law_blocks_row
  refine ⟨rfl, rfl, ?_⟩
  show if PyData.eqv (intN n) (.int 0) = true then _ else _
  rw [show PyData.eqv (intN n) (.int 0) = decide (n = 0) from ne_intN n 0]
  by_cases hn : n = 0
  · rw [if_pos (decide_eq_true hn)]
    subst hn
    exact ⟨(show 1 ≤ sizeLine by decide), kk (fun _ => 0) β rf0 hb⟩
  rw [if_neg (by rw [decide_eq_false hn]; decide)]
  refine ⟨rfl, hd_drawN (by omega) (by omega) hb fun d β1 hd hb1 => ⟨(show 0 ≤ sizeLine by decide), (show 0 ≤ sizeLine by decide), rfl, (show 3 ≤ sizeLine by decide), ?_⟩⟩
  suffices go : ∀ k : Nat, k = d + 1 → (sSeq (sFor (dRange1 (dCons (dFn 2 sp_draw (dCons (dVar 0) (dCons (dC (.int 25)) dNil))) dNil)) (bName 6) (sSeq (sAsg (dFn 2 sp_draw (dCons (dVar 0) (dCons (dCall dLen (dCons (dVar 2) dNil)) dNil))) (bName 7)) (sIf (dAndT (dTest (dOp dLe (dVar 3) (dOp dIx (dVar 2) (dVar 7)))) (dAndT (dTest (dOp dLt (dOp dIx (dVar 2) (dVar 7)) (dVar 1))) (dTru (dCall dAllOf (dCons (dLcB [10] 4 (bName 10) dYes (dOp dLe (dOp dIx (dVar 2) (dOp dAnd (dVar 7) (dVar 10))) (dOp dSub (dVar 3) (dC (.int 2))))) dNil))))) (sDrop (dMeth "list" 4 mAppend (dCons (dVar 7) dNil))) sNext))) (sSeq (sFor (dEnumI (dCons (dVar 2) dNil)) (bSeq 2 (bCons (bName 8) (bCons (bName 9) bNil))) (sIf (dTest (dOp dLt (dVar 9) (dVar 3))) (sDrop (dMeth "list" 5 mAppend (dCons (dVar 9) dNil))) (sDrop (dMeth "list" 5 mAppend (dCons (dIf (dTru (dCall dAnyOf (dCons (dLcB [7] 4 (bName 7) dYes (dOp dEq (dOp dAnd (dVar 8) (dVar 7)) (dVar 8))) dNil))) (dOp dSub (dVar 3) (dC (.int 1))) (dVar 3)) dNil))))) (sRet (dVar 5)))) { nx := fun s => Q .none s.β, rt := Q } ⟨[.sh bagD, .sh (intN n), .sh (rowD n sz), .sh (intN k), .ow (.list []), .ow (.list []), .un, .un, .un, .un, .un], β1⟩ from by
    have := go _ rfl
    show (sSeq (sFor (dRange1 (dCons (dFn 2 sp_draw (dCons (dVar 0) (dCons (dC (.int 25)) dNil))) dNil)) (bName 6) (sSeq (sAsg (dFn 2 sp_draw (dCons (dVar 0) (dCons (dCall dLen (dCons (dVar 2) dNil)) dNil))) (bName 7)) (sIf (dAndT (dTest (dOp dLe (dVar 3) (dOp dIx (dVar 2) (dVar 7)))) (dAndT (dTest (dOp dLt (dOp dIx (dVar 2) (dVar 7)) (dVar 1))) (dTru (dCall dAllOf (dCons (dLcB [10] 4 (bName 10) dYes (dOp dLe (dOp dIx (dVar 2) (dOp dAnd (dVar 7) (dVar 10))) (dOp dSub (dVar 3) (dC (.int 2))))) dNil))))) (sDrop (dMeth "list" 4 mAppend (dCons (dVar 7) dNil))) sNext))) (sSeq (sFor (dEnumI (dCons (dVar 2) dNil)) (bSeq 2 (bCons (bName 8) (bCons (bName 9) bNil))) (sIf (dTest (dOp dLt (dVar 9) (dVar 3))) (sDrop (dMeth "list" 5 mAppend (dCons (dVar 9) dNil))) (sDrop (dMeth "list" 5 mAppend (dCons (dIf (dTru (dCall dAnyOf (dCons (dLcB [7] 4 (bName 7) dYes (dOp dEq (dOp dAnd (dVar 8) (dVar 7)) (dVar 8))) dNil))) (dOp dSub (dVar 3) (dC (.int 1))) (dVar 3)) dNil))))) (sRet (dVar 5)))) { nx := fun s => Q .none s.β, rt := Q } ⟨[.sh bagD, .sh (intN n), .sh (rowD n sz), .sh (.int (1 + (d : Int))), .ow (.list []), .ow (.list []), .un, .un, .un, .un, .un], β1⟩
    rw [show 1 + (d : Int) = ((d + 1 : Nat) : Int) by omega]
    exact this
  intro k hk
  refine ⟨rfl, hd_drawN (n := 25) (by decide) (by decide) hb1 fun m β2 hm hb2 => ?_⟩
  refine rg1 (by omega) (forW_L intN (fun done rest s => ∃ (B : List Nat) (a b c : Slot) (β : Bag), PavOk n k B ∧ B.length ≤ done.length ∧ done.length + rest.length = m ∧ GoodB β ∧ s = ⟨[.sh bagD, .sh (intN n), .sh (rowD n sz), .sh (intN k), .ow (.list (B.map intN)), .ow (.list []), a, b, .un, .un, c], β⟩) (List.range m) _ ⟨[], .un, .un, .un, β2, ⟨by omega, fun _ h => (nomatch h), fun _ h => (nomatch h)⟩, Nat.le_refl _, by simp, hb2, rfl⟩ ?_ ?_)
  · rintro _ ⟨B, a, b, c, β, hB, hl, _, hb, rfl⟩
    rw [List.length_range] at hl
    show forW _ _ _ (enumD 0 ((List.range (2 ^ n)).map fun c => intN (sz c))) _
    rw [enum_map (2 ^ n) fun c => intN (sz c)]
    refine forW_L (fun c => PyData.tuple [intN c, intN (sz c)]) (fun done rest s => done.length + rest.length = 2 ^ n ∧ ∃ (x y : Slot), s = ⟨[.sh bagD, .sh (intN n), .sh (rowD n sz), .sh (intN k), .ow (.list (B.map intN)), .ow (.list ((List.range done.length).map fun c => intN (pavR k B c))), a, b, x, y, c], β⟩) (List.range (2 ^ n)) _ ⟨by simp, _, _, rfl⟩ ?_ ?_
    · rintro _ ⟨_, _, _, rfl⟩
      rw [List.length_range]
      exact kk _ β (pav_rf n9 hB) hb
    · rintro done e rest _ ee ⟨hl2, _, _, rfl⟩ D' _ hD
      obtain ⟨rfl, he⟩ := range_at ee
      rw [List.length_cons] at hl2
      have put : ∀ (x y : Slot), D'.nx ⟨[.sh bagD, .sh (intN n), .sh (rowD n sz), .sh (intN k), .ow (.list (B.map intN)), .ow (.list (((List.range done.length).map fun c => intN (pavR k B c)) ++ [intN (pavR k B done.length)])), a, b, x, y, c], β⟩ := fun x y => by
        have e2 : ((List.range done.length).map fun c => intN (pavR k B c)) ++ [intN (pavR k B done.length)] = (List.range (done ++ [done.length]).length).map fun c => intN (pavR k B c) := by
          rw [List.length_append, List.length_singleton, List.range_succ, List.map_append]
          rfl
        rw [e2]
        exact hD _ ⟨by rw [List.length_append]; simp only [List.length_cons, List.length_nil]; omega, _, _, rfl⟩
      have szp : ((List.range done.length).map fun c => intN (pavR k B c)).length < sizeLine := by rw [List.length_map, List.length_range, sizeL]; omega
      refine ⟨rfl, ?_⟩
      show if decide (((sz done.length : Nat) : Int) < (k : Int)) = true then _ else _
      by_cases q : sz done.length < k
      · rw [if_pos (decide_eq_true (by omega))]
        have pv : pavR k B done.length = sz done.length := if_pos q
        have e := put (.sh (intN done.length)) (.sh (intN (sz done.length)))
        rw [pv] at e
        exact ⟨⟨_, rfl, rfl⟩, _, rfl, szp, e⟩
      · rw [if_neg (by rw [decide_eq_false (by omega)]; decide)]
        refine ⟨⟨_, rfl, rfl⟩, ?_⟩
        refine lcW_m intN (fun b => .bool (decide (done.length &&& b = done.length))) B (fun b hb R F z => ?_) (szN (by omega)) ?_
        · refine ⟨rfl, rfl, ?_⟩
          show R true _ (.bool (PyData.eqv (.int (Builtin.bitAnd (done.length : Int) (b : Int))) (intN done.length))) _
          rw [bitAnd_nat, ne_intN]
          exact z ⟨_, _⟩
        · dsimp only [dCall, dCons, dNil]
          refine anyOf B (fun b => decide (done.length &&& b = done.length)) ?_
          have pv : pavR k B done.length = if (B.any fun b => decide (done.length &&& b = done.length)) = true then k - 1 else k := by
            unfold pavR
            rw [if_neg q]
          show if (B.any fun b => decide (done.length &&& b = done.length)) = true then _ else _
          have kp := hB.pos
          split
          · rename_i w
            rw [if_pos w] at pv
            refine ⟨_, rfl, szp, ?_⟩
            show D'.nx ⟨[.sh bagD, .sh (intN n), .sh (rowD n sz), .sh (intN k), .ow (.list (B.map intN)), .ow (.list (((List.range done.length).map fun c => intN (pavR k B c)) ++ [PyData.int ((k : Int) - 1)])), a, b, .sh (intN done.length), .sh (intN (sz done.length)), c], β⟩
            rw [show (k : Int) - 1 = ((pavR k B done.length : Nat) : Int) by omega]
            exact put _ _
          · rename_i w
            rw [if_neg w] at pv
            refine ⟨_, rfl, szp, ?_⟩
            have := put (.sh (intN done.length)) (.sh (intN (sz done.length)))
            rw [pv] at this
            exact this
  · rintro done i rest _ _ ⟨B, a, b, c, β, hB, hl, hl2, hb, rfl⟩ D' _ hD
    rw [List.length_cons] at hl2
    have skip : ∀ (x y c : Slot) (β : Bag), GoodB β → D'.nx ⟨[.sh bagD, .sh (intN n), .sh (rowD n sz), .sh (intN k), .ow (.list (B.map intN)), .ow (.list []), x, y, .un, .un, c], β⟩ := fun x y c β hb => hD _ ⟨B, x, y, c, β, hB, by rw [List.length_append]; omega, by rw [List.length_append]; simp only [List.length_cons, List.length_nil]; omega, hb, rfl⟩
    refine ⟨rfl, ?_⟩
    show sp_draw [bagD, .int (((List.range (2 ^ n)).map fun c => intN (sz c)).length : Int)] β _
    rw [row_len]
    refine hd_drawN pp (by omega) hb fun bk β3 hbk hb3 => ⟨_, as hbk, ?_⟩
    show if decide ((k : Int) ≤ ((sz bk : Nat) : Int)) = true then _ else _
    split
    · refine ⟨_, as hbk, ?_⟩
      show if decide (((sz bk : Nat) : Int) < (n : Int)) = true then _ else _
      split
      · refine lcW_m intN (fun b => .bool (decide (sz (bk &&& b) + 2 ≤ k))) B (fun b hb R F z => ?_) (szN (by omega)) ?_
        · show ∃ d, L2.atI ((List.range (2 ^ n)).map fun c => intN (sz c)) (Builtin.bitAnd (bk : Int) (b : Int)) = some d ∧ _
          rw [bitAnd_nat]
          refine ⟨_, as (Nat.lt_of_le_of_lt Nat.and_le_left hbk), ?_⟩
          show R true _ (.bool (decide (((sz (bk &&& b) : Nat) : Int) ≤ (k : Int) - 2))) _
          rw [show decide (((sz (bk &&& b) : Nat) : Int) ≤ (k : Int) - 2) = decide (sz (bk &&& b) + 2 ≤ k) by rw [Bool.eq_iff_iff, decide_eq_true_eq, decide_eq_true_eq]; omega]
          exact z ⟨_, _⟩
        · dsimp only [dCall, dCons, dNil]
          refine allOf B (fun b => decide (sz (bk &&& b) + 2 ≤ k)) ?_
          show if (B.all fun b => decide (sz (bk &&& b) + 2 ≤ k)) = true then _ else _
          split
          · rename_i far
            rw [List.all_eq_true] at far
            refine ⟨⟨_, rfl, rfl⟩, _, rfl, by rw [List.length_map, sizeL]; omega, ?_⟩
            refine hD _ ⟨B ++ [bk], .sh (intN i), .sh (intN bk), c, β3, ⟨hB.pos, fun x hx => ?_, fun x hx y hy => ?_⟩, ?_, ?_, hb3, ?_⟩
            · rcases List.mem_append.mp hx with hx | hx
              · exact hB.lt x hx
              · rw [List.mem_singleton] at hx
                subst hx
                exact hbk
            · have fr : ∀ z ∈ B, sz (bk &&& z) + 2 ≤ k := fun z hz => of_decide_eq_true (far z hz)
              rcases List.mem_append.mp hx with hx1 | hx1
              · rcases List.mem_append.mp hy with hy1 | hy1
                · exact hB.far x hx1 y hy1
                · rw [List.mem_singleton] at hy1
                  rw [hy1, Nat.and_comm]
                  exact .inr (fr x hx1)
              · rw [List.mem_singleton] at hx1
                rw [hx1]
                rcases List.mem_append.mp hy with hy1 | hy1
                · exact .inr (fr y hy1)
                · rw [List.mem_singleton] at hy1
                  exact .inl hy1.symm
            · rw [List.length_append, List.length_append]; simp only [List.length_cons, List.length_nil]; omega
            · rw [List.length_append]; simp only [List.length_cons, List.length_nil]; omega
            · rw [List.map_append]; rfl
          · exact skip _ _ _ β3 hb3
      · exact skip _ _ _ β3 hb3
    · exact skip _ _ _ β3 hb3
/-! ### things by other names -/
def sp_renm : VSp := fun ds β P => ∃ (n : Nat) (r : Nat → Nat), ds = [bagD, intN n, rowD n r] ∧ n ≤ 9 ∧ Rf n r ∧ GoodB β ∧ ∀ (g : Nat → Nat) (β' : Bag), Rf n g → GoodB β' → P (rowD n g) β'
theorem plc_dbl {S : List Nat} {y c : Nat} (h9 : S.length < 9) (hc : c < 2 ^ S.length) : plc (fun x => (S ++ [y]).getD x 0) c = plc (fun x => S.getD x 0) c ∧ plc (fun x => (S ++ [y]).getD x 0) (c + 2 ^ S.length) = plc (fun x => S.getD x 0) c + 2 ^ y := by
  have same : ∀ x ∈ bl c, (S ++ [y]).getD x 0 = S.getD x 0 := fun x hx => by
    have := lt_of_bit hc (mem_bl.mp hx).2
    rw [List.getD_eq_getElem?_getD, List.getD_eq_getElem?_getD, List.getElem?_append_left this]
  have last : (S ++ [y]).getD S.length 0 = y := by
    rw [List.getD_eq_getElem?_getD, List.getElem?_append_right (Nat.le_refl _), Nat.sub_self]
    rfl
  unfold plc
  refine ⟨by rw [List.map_congr_left same], ?_⟩
  rw [bl_dbl h9 hc, List.map_append, List.map_congr_left same]
  unfold codeN
  rw [List.map_append, List.sum_append, List.map_cons, last]
  simp
theorem hd_renm (ds : List PyData) (β : Bag) (Q : PyData → Bag → Prop) (hl : ds.length = 3) (h : sp_renm ds β Q) : Wk.D__law_renamed_row sp_draw { nx := fun s => Q .none s.β, rt := Q } (initS 10 ds β) := by
  obtain ⟨n, r, rfl, n9, f, hb, k⟩ := h
  have p9 := pow9 n9
  have pp := Nat.two_pow_pos n
  unfold Wk.D__law_renamed_row
  refine ⟨rgOk n (by omega), (show 1 ≤ sizeLine by decide), (show 1 ≤ sizeLine by decide), ?_⟩
  show -(2 ^ 63) ≤ (((List.range (2 ^ n)).map fun c => intN (r c)).length : Int) ∧ (((List.range (2 ^ n)).map fun c => intN (r c)).length : Int) < 2 ^ 63 ∧ 1 * ((((List.range (2 ^ n)).map fun c => intN (r c)).length : Int)).toNat ≤ sizeLine ∧ (3 = 3 ∧ 3 ≤ sizeLine ∧ (sSeq (sFor (dRange1 (dCons (dVar 1) dNil)) (bName 6) (sSeq (sAsg (dOp dShl (dC (.int 1)) (dMeth "list" 3 mPopAt (dCons (dFn 2 sp_draw (dCons (dVar 0) (dCons (dLenB 3) dNil))) dNil))) (bName 7)) (sAsg (dOp dAdd (dVar 4) (dLc [8] (dSeqI (dVar 4)) (bName 8) dYes (dOp dAdd (dVar 8) (dVar 7)))) (bName 4)))) (sSeq (sFor (dEnumI (dCons (dVar 4) dNil)) (bSeq 2 (bCons (bName 9) (bCons (bName 8) bNil))) (sItem (dOp dIx (dVar 2) (dVar 9)) 5 (dVar 8))) (sRet (dVar 5)))) { nx := fun s => Q .none s.β, rt := Q } ⟨[.sh bagD, .sh (intN n), .sh (rowD n r), .ow (.list (rgD 0 (n : Int))), .sh (.list [.int 0]), .ow (.list (List.replicate ((((List.range (2 ^ n)).map fun c => intN (r c)).length : Int)).toNat [PyData.int 0]).flatten), .un, .un, .un, .un], β⟩)
  rw [row_len, Int.toNat_natCast, rep_one, rg_nat]
  refine ⟨by omega, by omega, szN (by omega), rfl, (show 3 ≤ sizeLine by decide), ?_⟩
  refine rg1 (by omega) (forW_L intN (fun done rest s => ∃ (S R : List Nat) (a b c d : Slot) (β : Bag), (S ++ R).Perm (List.range n) ∧ S.length = done.length ∧ done.length + rest.length = n ∧ GoodB β ∧ s = ⟨[.sh bagD, .sh (intN n), .sh (rowD n r), .ow (.list (R.map intN)), .sh (.list ((List.range (2 ^ done.length)).map fun c => intN (plc (fun x => S.getD x 0) c))), .ow (.list ((List.range (2 ^ n)).map fun _ => intN 0)), a, b, c, d], β⟩) (List.range n) _ ⟨[], List.range n, .un, .un, .un, .un, β, List.Perm.refl _, rfl, by simp, hb, ?_⟩ ?_ ?_)
  · have : plc (fun x => ([] : List Nat).getD x 0) 0 = 0 := by decide +kernel
    show S.mk _ _ = S.mk [_, _, _, _, .sh (.list [intN (plc (fun x => ([] : List Nat).getD x 0) 0)]), _, _, _, _, _] _
    rw [this]
    rfl
  · rintro _ ⟨S, R, a, b, c, d, β, hp, hS, hR, hb, rfl⟩
    rw [List.length_range] at hS ⊢
    have R0 : R = [] := by
      have := hp.length_eq
      rw [List.length_append, List.length_range] at this
      exact List.length_eq_zero_iff.mp (by omega)
    subst R0
    rw [List.append_nil] at hp
    have po := perm_ok hp
    show forW _ _ _ (enumD 0 ((List.range (2 ^ n)).map fun c => intN (plc (fun x => S.getD x 0) c))) _
    rw [enum_map (2 ^ n) fun c => intN (plc (fun x => S.getD x 0) c)]
    refine forW_L (fun c => PyData.tuple [intN c, intN (plc (fun x => S.getD x 0) c)]) (fun done rest s => ∃ (g : Nat → Nat) (c d : Slot), (∀ x, x < done.length → g (plc (fun x => S.getD x 0) x) = r x) ∧ s = ⟨[.sh bagD, .sh (intN n), .sh (rowD n r), .ow (.list (([] : List Nat).map intN)), .sh (.list ((List.range (2 ^ n)).map fun c => intN (plc (fun x => S.getD x 0) c))), .ow (.list ((List.range (2 ^ n)).map fun d => intN (g d))), a, b, c, d], β⟩) (List.range (2 ^ n)) _ ⟨fun _ => 0, _, _, fun _ h => absurd h (Nat.not_lt_zero _), rfl⟩ ?_ ?_
    · rintro _ ⟨g, _, _, hg, rfl⟩
      rw [List.length_range] at hg
      exact k g β (ren_rf n9 po f hg) hb
    · rintro done e rest _ ee ⟨g, _, _, hg, rfl⟩ D' _ hD
      obtain ⟨rfl, he⟩ := range_at ee
      have pl := (plc_mem n9 po he).1
      refine ⟨rfl, _, at_map (fun c => intN (r c)) he, ⟨_, rfl⟩, _, _, plc (fun x => S.getD x 0) done.length, rfl, rfl, by rw [row_len]; exact ix_some pl, ?_⟩
      rw [iset _ _ pl]
      refine hD _ ⟨_, _, _, fun x hx => ?_, rfl⟩
      rw [List.length_append, List.length_singleton] at hx
      show (if plc (fun x => S.getD x 0) x = plc (fun x => S.getD x 0) done.length then r done.length else g (plc (fun x => S.getD x 0) x)) = r x
      by_cases q : x = done.length
      · subst q
        rw [if_pos rfl]
      · rw [if_neg (fun z => q (plc_inj n9 po (by omega) he z))]
        exact hg x (by omega)
  · rintro done x rest _ e ⟨S, R, _, _, s8, s9, β, hp, hS, hl2, hb, rfl⟩ D' _ hD
    obtain ⟨rfl, hx⟩ := range_at e
    rw [List.length_cons] at hl2
    have hRl : S.length + R.length = n := by
      have := hp.length_eq
      rw [List.length_append, List.length_range] at this
      exact this
    have hpos : 0 < R.length := by omega
    refine ⟨⟨_, rfl, rfl⟩, rfl, ?_⟩
    show sp_draw [bagD, .int (((R.map intN).length : Nat) : Int)] β _
    rw [List.length_map]
    refine hd_drawN hpos (by omega) hb fun j β2 hj hb2 => ⟨_, rfl, by omega, by omega, intN R[j], ?_, ?_⟩
    · rw [Int.toNat_natCast, List.getElem?_map, List.getElem?_eq_getElem hj]
      rfl
    have hy9 : R[j] < n := List.mem_range.mp (hp.mem_iff.mp (List.mem_append_right _ (List.getElem_mem hj)))
    refine ⟨cpow_one (by omega), ?_⟩
    have hp2 : (S ++ [R[j]] ++ R.eraseIdx j).Perm (List.range n) := by
      refine List.Perm.trans ?_ hp
      have := perm_pop (L := S) hj
      simpa using this
    have en : (R.map intN).eraseIdx ((j : Int)).toNat = (R.eraseIdx j).map intN := by rw [Int.toNat_natCast]; exact (erase_map ..).symm
    have hre : (R.eraseIdx j).length + 1 = R.length := by rw [List.length_eraseIdx_of_lt hj]; omega
    generalize hyd : R[j] = y at *
    have p2 := pow9 (show done.length ≤ 9 by omega)
    have go : (sAsg (dOp dAdd (dVar 4) (dLc [8] (dSeqI (dVar 4)) (bName 8) dYes (dOp dAdd (dVar 8) (dVar 7)))) (bName 4)) D' ⟨[.sh bagD, .sh (intN n), .sh (rowD n r), .ow (.list ((R.eraseIdx j).map intN)), .sh (.list ((List.range (2 ^ done.length)).map fun c => intN (plc (fun x => S.getD x 0) c))), .ow (.list ((List.range (2 ^ n)).map fun _ => intN 0)), .sh (intN done.length), .sh (intN (2 ^ y)), s8, s9], β2⟩ := by
      refine .inl (lcW_m (fun c => intN (plc (fun x => S.getD x 0) c)) (fun c => intN (plc (fun x => S.getD x 0) c + 2 ^ y)) (List.range (2 ^ done.length)) (fun c hc R F z => z ⟨_, _⟩) (szN (by rw [List.length_range]; omega)) ?_)
      refine ⟨szN (by rw [List.length_map, List.length_map, List.length_range]; omega), ?_⟩
      refine hD _ ⟨S ++ [y], R.eraseIdx j, .sh (intN done.length), .sh (intN (2 ^ y)), s8, s9, β2, hp2, by rw [List.length_append, List.length_append, hS]; rfl, by rw [List.length_append, List.length_singleton]; omega, hb2, ?_⟩
      rw [List.length_append, List.length_singleton, range_dbl]
      have a1 : (List.range (2 ^ done.length)).map (fun c => intN (plc (fun x => (S ++ [y]).getD x 0) c)) = (List.range (2 ^ done.length)).map fun c => intN (plc (fun x => S.getD x 0) c) := List.map_congr_left fun c hc => by rw [(plc_dbl (S := S) (y := y) (by omega) (by rw [hS]; exact List.mem_range.mp hc)).1]
      have a2 : (List.range (2 ^ done.length)).map (fun c => intN (plc (fun x => (S ++ [y]).getD x 0) (c + 2 ^ done.length))) = (List.range (2 ^ done.length)).map fun c => intN (plc (fun x => S.getD x 0) c + 2 ^ y) := List.map_congr_left fun c hc => by
        have := (plc_dbl (S := S) (y := y) (c := c) (by omega) (by rw [hS]; exact List.mem_range.mp hc)).2
        rw [hS] at this
        rw [this]
      rw [a1, a2]
      rfl
    have g2 : (sAsg (dOp dAdd (dVar 4) (dLc [8] (dSeqI (dVar 4)) (bName 8) dYes (dOp dAdd (dVar 8) (dVar 7)))) (bName 4)) D' ⟨[.sh bagD, .sh (intN n), .sh (rowD n r), .ow (.list ((R.eraseIdx j).map intN)), .sh (.list ((List.range (2 ^ done.length)).map fun c => intN (plc (fun x => S.getD x 0) c))), .ow (.list ((List.range (2 ^ n)).map fun _ => intN 0)), .sh (intN done.length), .sh (.int (1 * 2 ^ ((y : Int)).toNat)), s8, s9], β2⟩ := by
      rw [shl_one]
      exact go
    rw [en]
    exact g2
end PL
namespace PL
open PySem PySem.Spec L2 VS
open PyProof.Rows hiding St

/-! ### a drawn row -/
theorem min_row {m : Nat} {r : Nat → Nat} (c : Nat) : (if (m : Int) < ((r c : Nat) : Int) then (m : Int) else ((r c : Nat) : Int)) = ((cutR m r c : Nat) : Int) := min_int (r c) m
def sp_grow : VSp := fun ds β P => ∃ n : Nat, ds = [bagD, intN n, rowD n sz] ∧ n ≤ 9 ∧ GoodB β ∧ ∀ (r : Nat → Nat) (β' : Bag), Rf n r → GoodB β' → P (rowD n r) β'
theorem hd_grow (ds : List PyData) (β : Bag) (Q : PyData → Bag → Prop) (hl : ds.length = 3) (h : sp_grow ds β Q) : Wk.D__law_row sp_renm sp_draw sp_grown sp_gcols sp_gblk { nx := fun s => Q .none s.β, rt := Q } (initS 8 ds β) := by
  obtain ⟨n, rfl, n9, hb, k⟩ := h
  have p9 := pow9 n9
  have pp := Nat.two_pow_pos n
  unfold Wk.D__law_row
  have t4 : ∀ (r : Nat → Nat) (a b c d : Slot) (β : Bag), Rf n r → GoodB β → (sRet (dFn 3 sp_renm (dCons (dVar 0) (dCons (dVar 1) (dCons (dVar 4) dNil))))) { nx := fun s => Q .none s.β, rt := Q } ⟨[.sh bagD, .sh (intN n), .sh (rowD n sz), a, .sh (rowD n r), b, c, d], β⟩ := fun r a b c d β f hb => ⟨rfl, n, r, rfl, n9, f, hb, fun g β1 hg hb1 => k g β1 hg hb1⟩
  have t3 : ∀ (r : Nat → Nat) (a c d : Slot) (β : Bag), Rf n r → GoodB β → (sSeq (sIf (dTest (dOp dEq (dFn 2 sp_draw (dCons (dVar 0) (dCons (dC (.int 6)) dNil))) (dC (.int 0)))) (sSeq (sAsg (dFn 2 sp_draw (dCons (dVar 0) (dCons (dOp dAdd (dOp dIx (dVar 4) (dNeg (dC (.int 1)))) (dC (.int 1))) dNil))) (bName 5)) (sAsg (dLc [7] (dSeqI (dVar 4)) (bName 7) dYes (dCall dMin2 (dCons (dVar 7) (dCons (dVar 5) dNil)))) (bName 4))) sNext) (sRet (dFn 3 sp_renm (dCons (dVar 0) (dCons (dVar 1) (dCons (dVar 4) dNil)))))) { nx := fun s => Q .none s.β, rt := Q } ⟨[.sh bagD, .sh (intN n), .sh (rowD n sz), a, .sh (rowD n r), .un, c, d], β⟩ := fun r a c d β f hb => by
    refine ⟨rfl, (6 : Int), rfl, by decide, by decide, hb, fun u β1 u0 u6 hb1 => ⟨rfl, rfl, ?_⟩⟩
    show if PyData.eqv (.int u) (.int 0) = true then _ else _
    split
    · refine ⟨_, atI_lastR (fun c => intN (r c)) pp, rfl, ?_⟩
      show sp_draw [bagD, .int (((r (2 ^ n - 1) : Nat) : Int) + 1)] β1 _
      rw [show ((r (2 ^ n - 1) : Nat) : Int) + 1 = ((r (2 ^ n - 1) + 1 : Nat) : Int) by omega]
      have := f.le n9 (show 2 ^ n - 1 < 2 ^ n by omega)
      have := bl_len (2 ^ n - 1)
      have e : sz (2 ^ n - 1) = (bl (2 ^ n - 1)).length := rfl
      refine hd_drawN (by omega) (by omega) hb1 fun m β2 hm hb2 => .inl (lcW_m (fun c => intN (r c)) (fun c => intN (cutR m r c)) (List.range (2 ^ n)) (fun c hc R F q => ?_) (szN (by rw [List.length_range]; omega)) (t4 _ _ _ _ _ β2 (cut_rf f) hb2))
      show R true _ (.int (if (m : Int) < ((r c : Nat) : Int) then (m : Int) else ((r c : Nat) : Int))) _
      rw [min_row]
      exact q ⟨_, _⟩
    · exact t4 r _ _ _ _ β1 f hb1
  have t2 : ∀ (r : Nat → Nat) (a : Slot) (β : Bag), Rf n r → GoodB β → (sSeq (sIf (dTest (dOp dEq (dFn 2 sp_draw (dCons (dVar 0) (dCons (dC (.int 4)) dNil))) (dC (.int 0)))) (sAsg (dLc [6] (dRange1 (dCons (dCall dLen (dCons (dVar 4) dNil)) dNil)) (bName 6) dYes (dOp dAdd (dOp dSub (dOp dIx (dVar 2) (dVar 6)) (dOp dIx (dVar 4) (dNeg (dC (.int 1))))) (dOp dIx (dVar 4) (dOp dSub (dOp dSub (dCall dLen (dCons (dVar 4) dNil)) (dC (.int 1))) (dVar 6))))) (bName 4)) sNext) (sSeq (sIf (dTest (dOp dEq (dFn 2 sp_draw (dCons (dVar 0) (dCons (dC (.int 6)) dNil))) (dC (.int 0)))) (sSeq (sAsg (dFn 2 sp_draw (dCons (dVar 0) (dCons (dOp dAdd (dOp dIx (dVar 4) (dNeg (dC (.int 1)))) (dC (.int 1))) dNil))) (bName 5)) (sAsg (dLc [7] (dSeqI (dVar 4)) (bName 7) dYes (dCall dMin2 (dCons (dVar 7) (dCons (dVar 5) dNil)))) (bName 4))) sNext) (sRet (dFn 3 sp_renm (dCons (dVar 0) (dCons (dVar 1) (dCons (dVar 4) dNil))))))) { nx := fun s => Q .none s.β, rt := Q } ⟨[.sh bagD, .sh (intN n), .sh (rowD n sz), a, .sh (rowD n r), .un, .un, .un], β⟩ := fun r a β f hb => by
    refine ⟨rfl, (4 : Int), rfl, by decide, by decide, hb, fun u β1 u0 u4 hb1 => ⟨rfl, rfl, ?_⟩⟩
    show if PyData.eqv (.int u) (.int 0) = true then _ else _
    split
    · show -(2 ^ 62) ≤ (((List.range (2 ^ n)).map fun c => intN (r c)).length : Int) ∧ (((List.range (2 ^ n)).map fun c => intN (r c)).length : Int) < 2 ^ 62 ∧ lcW _ _ _ _ _ _ (rangeD 0 (((List.range (2 ^ n)).map fun c => intN (r c)).length : Int).toNat) _ _
      rw [row_len]
      refine rgc (by omega) (lcW_m intN (fun c => intN (dualR n r c)) (List.range (2 ^ n)) (fun c hc R F q => ?_) (szN (by rw [List.length_range]; omega)) (t3 _ _ _ _ β1 (dual_rf n9 f) hb1))
      have hc := List.mem_range.mp hc
      have ec : ((2 ^ n : Nat) : Int) - 1 - (c : Int) = ((2 ^ n - 1 - c : Nat) : Int) := by omega
      refine ⟨_, at_map (fun c => intN (sz c)) hc, _, atI_lastR (fun c => intN (r c)) pp, ?_⟩
      show ∃ d, L2.atI ((List.range (2 ^ n)).map fun c => intN (r c)) ((((List.range (2 ^ n)).map fun c => intN (r c)).length : Int) - 1 - (c : Int)) = some d ∧ _
      rw [row_len, ec]
      refine ⟨_, at_map (fun c => intN (r c)) (Nat.lt_of_le_of_lt (Nat.sub_le _ _) (show 2 ^ n - 1 < 2 ^ n by omega)), ?_⟩
      show R true _ (.int ((sz c : Int) - (r (2 ^ n - 1) : Int) + (r (2 ^ n - 1 - c) : Int))) _
      rw [dual_int n9 f hc]
      exact q ⟨_, _⟩
    · exact t3 r _ _ _ β1 f hb1
  refine ⟨rfl, (6 : Int), rfl, by decide, by decide, hb, fun u β1 u0 u6 hb1 => ?_⟩
  show if decide (u < 3) = true then _ else _
  split
  · exact ⟨rfl, n, rfl, n9, hb1, fun r β2 f hb2 => t2 r _ β2 f hb2⟩
  · show if decide (u < 5) = true then _ else _
    split
    · exact ⟨rfl, n, rfl, n9, hb1, fun r β2 f hb2 => t2 r _ β2 f hb2⟩
    · exact ⟨rfl, n, rfl, n9, hb1, fun r β2 f hb2 => t2 r _ β2 f hb2⟩
/-! ### the table, the closures -/
def sp_ltab : VSp := fun ds β P => ∃ (n : Nat) (r : Nat → Nat), ds = [intN n, lotsN n, rowD n r] ∧ n ≤ 9 ∧ P (tabR n r) β
theorem hd_ltab (ds : List PyData) (β : Bag) (Q : PyData → Bag → Prop) (hl : ds.length = 3) (h : sp_ltab ds β Q) : Wk.D__law_table  { nx := fun s => Q .none s.β, rt := Q } (initS 6 ds β) := by
  obtain ⟨n, r, rfl, n9, k⟩ := h
  have p9 := pow9 n9
  have pp := Nat.two_pow_pos n
  unfold Wk.D__law_table
  refine ⟨_, atI_lastR (fun c => intN (r c)) pp, ?_⟩
  show -(2 ^ 62) ≤ (((List.range (2 ^ n)).map fun c => intN (r c)).length : Int) ∧ (((List.range (2 ^ n)).map fun c => intN (r c)).length : Int) < 2 ^ 62 ∧ lcW _ _ _ _ _ _ (rangeD 0 (((List.range (2 ^ n)).map fun c => intN (r c)).length : Int).toNat) _ _
  rw [row_len]
  refine rgc (by omega) (lcW_keep intN (fun c => PyData.eqv (intN (r c)) (intN (r (2 ^ n - 1))) && PyData.eqv (intN (sz c)) (intN (r (2 ^ n - 1)))) (List.range (2 ^ n)) (fun c hc R F q => ?_) (szN (by rw [List.length_range]; omega)) ?_)
  · have hc := List.mem_range.mp hc
    refine ⟨_, at_map (fun c => intN (r c)) hc, rfl, rfl, ?_⟩
    show if PyData.eqv (intN (r c)) (intN (r (2 ^ n - 1))) = true then _ else _
    refine if_go (ite_and (q ⟨_, _⟩)) (fun q2 => ⟨_, at_map (fun c => lotD (bl c)) hc, rfl, rfl, ?_⟩) fun e => e
    show if PyData.eqv (.int (((bl c).map fun (x : Nat) => PyData.int (x : Int)).length : Int)) (intN (r (2 ^ n - 1))) = true then _ else _
    rw [List.length_map]
    exact q2
  · show (sRet (dTup (dCons (dVar 0) (dCons (dCall dTupOf (dCons (dCall dSorted (dCons (dLc [5] (dSeqI (dVar 4)) (bName 5) dYes (dOp dIx (dVar 1) (dVar 5))) dNil)) dNil)) dNil)))) { nx := fun s => Q .none s.β, rt := Q } ⟨[.sh (intN n), .sh (lotsN n), .sh (rowD n r), .sh (intN (r (2 ^ n - 1))), .sh (.list ((baseL n r).map intN)), .un], β⟩
    have few : (baseL n r).length ≤ 512 := (base_cd n9 r).few
    refine .inl (lcW_m intN (fun c => lotD (bl c)) (baseL n r) (fun c hc R F q => ?_) (szN (by omega)) ?_)
    · exact ⟨_, at_map (fun c => lotD (bl c)) ((baseL_mem c).mp hc).1.1, q ⟨_, _⟩⟩
    have so := sortD_lots ((baseL n r).map bl)
    rw [List.map_map] at so
    refine .inl ⟨_, rfl, ?_, ?_, ?_⟩
    · have := shaped_lots ((baseL n r).map bl)
      rw [List.map_map] at this
      exact this
    · have := sortOk_lots ((baseL n r).map bl)
      rw [List.map_map] at this
      exact this
    rw [show sortD ((baseL n r).map fun c => lotD (bl c)) = (sortLots ((baseL n r).map bl)).map lotD from so]
    exact ⟨(show 2 ≤ sizeLine by decide), k⟩
def sp_lclo : VSp := fun ds β P => ∃ (n : Nat) (r : Nat → Nat), ds = [intN n, rowD n r] ∧ n ≤ 9 ∧ P (rowD n (clo n r)) β
theorem hd_lclo (ds : List PyData) (β : Bag) (Q : PyData → Bag → Prop) (hl : ds.length = 2) (h : sp_lclo ds β Q) : Wk.D__law_closures  { nx := fun s => Q .none s.β, rt := Q } (initS 8 ds β) := by
  obtain ⟨n, r, rfl, n9, k⟩ := h
  have p9 := pow9 n9
  unfold Wk.D__law_closures
  refine rgc (by omega) (lcW_m intN (fun x => intN (2 ^ x)) (List.range n) (fun x hx R F q => ?_) (szN (by rw [List.length_range]; omega)) ?_)
  · have hx := List.mem_range.mp hx
    refine ⟨cpow_one (by omega), ?_⟩
    show R true _ (.int (1 * 2 ^ ((x : Int)).toNat)) _
    rw [shl_one]
    exact q ⟨_, _⟩
  refine ⟨(show 0 ≤ sizeLine by decide), rfl, (show 2 ≤ sizeLine by decide), ?_⟩
  show forW _ _ _ (enumD 0 ((List.range (2 ^ n)).map fun c => intN (r c))) _
  rw [enum_map (2 ^ n) fun c => intN (r c)]
  refine forW_L (fun c => PyData.tuple [intN c, intN (r c)]) (fun done rest s => done.length + rest.length = 2 ^ n ∧ ∃ a b, s = ⟨[.sh (intN n), .sh (rowD n r), .sh (.list ((List.range n).map fun x => intN (2 ^ x))), .ow (.list ((List.range done.length).map fun c => intN (clo n r c))), a, b, .un, .un], β⟩) (List.range (2 ^ n)) _ ⟨by simp, .un, .un, rfl⟩ ?_ ?_
  · rintro _ ⟨_, a, b, rfl⟩
    rw [List.length_range]
    exact k
  · rintro done c rest _ e ⟨hl2, a, b, rfl⟩ D' _ hD
    obtain ⟨rfl, hc⟩ := range_at e
    rw [List.length_cons] at hl2
    refine ⟨rfl, ⟨_, rfl, rfl⟩, ?_⟩
    refine .inl (lcW_keep (fun x => intN (2 ^ x)) (fun x => decide (r (done.length ||| 2 ^ x) = r done.length)) (List.range n) (fun x hx R F q => ?_) (szN (by rw [List.length_range]; omega)) ?_)
    · have hx := List.mem_range.mp hx
      show ∃ d, L2.atI ((List.range (2 ^ n)).map fun c => intN (r c)) (Builtin.bitOr (done.length : Int) ((2 ^ x : Nat) : Int)) = some d ∧ _
      rw [bitOr_nat]
      refine ⟨_, at_map (fun c => intN (r c)) (put_lt hx hc), rfl, rfl, ?_⟩
      show if PyData.eqv (intN (r (done.length ||| 2 ^ x))) (intN (r done.length)) = true then _ else _
      rw [ne_intN]
      exact q ⟨_, _⟩
    · dsimp only [dCall, dCons, dNil]
      refine sumOf ?_
      refine ⟨_, rfl, by rw [List.length_map, List.length_range, sizeL]; omega, hD _ ⟨by rw [List.length_append]; simp only [List.length_cons, List.length_nil]; omega, .sh (intN done.length), .sh (intN (r done.length)), ?_⟩⟩
      have e2 : (List.range (done ++ [done.length]).length).map (fun c => intN (clo n r c)) = (List.range done.length).map (fun c => intN (clo n r c)) ++ [intN (clo n r done.length)] := by
        rw [List.length_append, List.length_singleton, List.range_succ, List.map_append]
        rfl
      rw [e2]
      rfl
end PL
namespace PL
open PySem PySem.Spec L2 VS
open PyProof.Rows hiding St

theorem var_sh {i : Nat} {s : S} {P : PyData → S → Prop} {d : PyData} (h : s.ρ[i]? = some (.sh d)) (k : P d s) : dVar i s P := by
  unfold dVar
  rw [h]
  exact k
/-! ### dicts of codes -/
theorem mem_putD {κ : Type} [DecidableEq κ] {m : List (κ × PyData)} {k : κ} {d : PyData} {p : κ × PyData} (h : p ∈ putD m k d) : p ∈ m ∨ p = (k, d) := by
  unfold putD at h
  split at h
  · obtain ⟨q, hq, e⟩ := List.mem_map.mp h
    by_cases z : q.1 = k
    · rw [if_pos z] at e
      exact .inr (by rw [← e, z])
    · rw [if_neg z] at e
      exact .inl (e ▸ hq)
  · rcases List.mem_append.mp h with h | h
    · exact .inl h
    · exact .inr (List.mem_singleton.mp h)
theorem mem_mergeD {κ : Type} [DecidableEq κ] {p : κ × PyData} : ∀ {ps m : List (κ × PyData)}, p ∈ mergeD m ps → p ∈ m ∨ p ∈ ps
  | [], m, h => .inl h
  | q :: ps, m, h => by
    rcases mem_mergeD (ps := ps) (m := putD m q.1 q.2) h with h | h
    · rcases mem_putD h with h | h
      · exact .inl h
      · exact .inr (by rw [h]; exact List.mem_cons_self ..)
    · exact .inr (List.mem_cons_of_mem _ h)
theorem key_mergeD {κ : Type} [DecidableEq κ] {k : κ} : ∀ {ps m : List (κ × PyData)}, k ∈ (mergeD m ps).map (·.1) ↔ k ∈ m.map (·.1) ∨ k ∈ ps.map (·.1)
  | [], m => by
    show k ∈ m.map (·.1) ↔ _
    simp
  | q :: ps, m => by
    show k ∈ (mergeD (putD m q.1 q.2) ps).map (·.1) ↔ _
    rw [key_mergeD, keys_put, List.map_cons, List.mem_cons]
    split
    · rename_i h
      constructor
      · rintro (h1 | h1)
        · exact .inl h1
        · exact .inr (.inr h1)
      · rintro (h1 | h1 | h1)
        · exact .inl h1
        · exact .inl (h1 ▸ h)
        · exact .inr h1
    · rw [List.mem_append, List.mem_singleton]
      constructor
      · rintro ((h1 | h1) | h1)
        · exact .inl h1
        · exact .inr (.inl h1)
        · exact .inr (.inr h1)
      · rintro (h1 | h1 | h1)
        · exact .inl (.inl h1)
        · exact .inl (.inr h1)
        · exact .inr h1
theorem look_of {κ : Type} [DecidableEq κ] {m : List (κ × PyData)} {k : κ} {d : PyData} (h : k ∈ m.map (·.1)) (a : ∀ p ∈ m, p.1 = k → p.2 = d) : lookD m k = some d := by
  unfold lookD
  cases e : m.find? fun p => decide (p.1 = k) with
  | none =>
    obtain ⟨p, hp, q⟩ := List.mem_map.mp h
    have := List.find?_eq_none.mp e p hp
    exact absurd (decide_eq_true q) this
  | some p =>
    have h1 := List.mem_of_find?_eq_some e
    have h2 := List.find?_some e
    rw [Option.map_some, a p h1 (of_decide_eq_true h2)]
def codP (L : List (List Nat)) : List (Key × PyData) := L.map fun l => (Sum.inl ((codeN l : Nat) : Int), intN l.length)
theorem codP_pairs (L : List (List Nat)) : (L.map fun l => PyData.tuple [intN (codeN l), intN l.length]) = pairK (codP L) := by
  unfold pairK codP
  rw [List.map_map]
  rfl
/-! ### free lots, by ranks -/
theorem fr_code {n : Nat} {r : Nat → Nat} (n9 : n ≤ 9) {l : List Nat} (h : fr (sortLots ((baseL n r).map bl)) l) : ∃ c, c < 2 ^ n ∧ l = bl c ∧ frB (baseL n r) c = true := by
  have p9 := pow9 n9
  obtain ⟨b, hb, hs⟩ := id h
  obtain ⟨b0, h1, rfl⟩ := List.mem_map.mp (mem_sortLots.mp hb)
  have lt := ((baseL_mem b0).mp h1).1.1
  obtain ⟨c, rfl⟩ : ∃ c, l = bl c := by
    unfold bl at hs
    obtain ⟨q, _, rfl⟩ := (subs_filter _ _ _).mp hs
    obtain ⟨c, _, h3⟩ := code_of q 9
    refine ⟨c, ?_⟩
    unfold bl
    refine List.filter_congr fun i hi => ?_
    rw [h3, decide_eq_true (List.mem_range.mp hi), Bool.true_and]
  have c5 : c % 512 < 512 := Nat.mod_lt _ (by decide)
  have ec : bl c = bl (c % 512) := by
    unfold bl
    refine List.filter_congr fun i hi => ?_
    have := List.mem_range.mp hi
    rw [show 512 = 2 ^ 9 from rfl, Nat.testBit_mod_two_pow, decide_eq_true this]
    rfl
  rw [ec] at hs h
  exact ⟨c % 512, sub_lt ((subs_bl c5).mp hs) lt, ec, (frB_iff c5).mp h⟩
theorem miss_of {b c : Nat} (hne : b &&& c ≠ c) : ∃ x, c.testBit x = true ∧ b.testBit x = false := by
  apply Classical.byContradiction
  intro no
  refine hne (Nat.eq_of_testBit_eq fun i => ?_)
  rw [Nat.testBit_and]
  cases z : c.testBit i
  · simp
  · cases w : b.testBit i
    · exact absurd ⟨i, z, w⟩ no
    · rfl
theorem free_rank {n : Nat} {r : Nat → Nat} (n9 : n ≤ 9) (f : Rf n r) {c : Nat} (hc : c < 2 ^ n) : frB (baseL n r) c = true ↔ r c = sz c := by
  obtain ⟨ne, e⟩ := rank_row n9 f hc
  obtain ⟨⟨b, hb, h1⟩, h2⟩ := rkN_rk ne c
  rw [e] at h1 h2
  have p9 := pow9 n9
  have lt := ((baseL_mem b).mp hb).1.1
  unfold frB
  rw [List.any_eq_true]
  constructor
  · rintro ⟨d, hd, q⟩
    have q : c &&& d = c := by simpa using q
    have := h2 d hd
    rw [Nat.and_comm, q] at this
    have := f.le n9 hc
    omega
  · intro h
    refine ⟨b, hb, ?_⟩
    have q : b &&& c = c := by
      refine Classical.byContradiction fun ne => ?_
      obtain ⟨x, hx, hbx⟩ := miss_of ne
      have := sz_lt_of_ex (lt512 n9 hc) (show sub (b &&& c) c from sub_iff.mpr fun i hi => by
        rw [Nat.testBit_and, Bool.and_eq_true] at hi
        exact hi.2) hx (by rw [Nat.testBit_and, hbx]; rfl)
      omega
    rw [Nat.and_comm, q]
    exact beq_self_eq_true c
theorem best_less {n : Nat} {r : Nat → Nat} (n9 : n ≤ 9) (f : Rf n r) {c : Nat} (hc : c < 2 ^ n) (h : r c ≠ sz c) : ∃ x ∈ (List.range n).filter fun x => c.testBit x, r (c - 2 ^ x) = r c := by
  obtain ⟨ne, e⟩ := rank_row n9 f hc
  obtain ⟨⟨b, hb, h1⟩, h2⟩ := rkN_rk ne c
  rw [e] at h1 h2
  have p9 := pow9 n9
  have lt := ((baseL_mem b).mp hb).1.1
  have hne : b &&& c ≠ c := fun q => h (by rw [← h1, q])
  obtain ⟨x, hx, hbx⟩ := miss_of hne
  have xn := lt_of_bit hc hx
  have cl : c - 2 ^ x < 2 ^ n := Nat.lt_of_le_of_lt (Nat.sub_le _ _) hc
  have mb : ∀ i, (c - 2 ^ x).testBit i = (c.testBit i && decide (i ≠ x)) := fun i => minus_bit (by omega) (by omega) hx i
  refine ⟨x, List.mem_filter.mpr ⟨List.mem_range.mpr xn, hx⟩, ?_⟩
  have s1 : sub (c - 2 ^ x) c := sub_iff.mpr fun i hi => by
    rw [mb, Bool.and_eq_true] at hi
    exact hi.1
  have m1 := (f.mono n9 hc s1).1
  obtain ⟨_, e'⟩ := rank_row n9 f cl
  obtain ⟨_, h3⟩ := rkN_rk ne (c - 2 ^ x)
  rw [e'] at h3
  have h4 := h3 b hb
  have e5 : b &&& (c - 2 ^ x) = b &&& c := Nat.eq_of_testBit_eq fun i => by
    rw [Nat.testBit_and, Nat.testBit_and, mb]
    by_cases q : i = x
    · subst q
      rw [hbx]
      rfl
    · rw [decide_eq_true q, Bool.and_true]
  rw [e5, h1] at h4
  omega

theorem xor_all : ∀ x : Nat, x < 9 → ∀ c : Nat, c < 512 → c.testBit x = true → Builtin.bitXor (c : Int) ((2 ^ x : Nat) : Int) = ((c - 2 ^ x : Nat) : Int) ∧ c - 2 ^ x < c := by decide +kernel
def sp_ranks : VSp := fun ds β P => ∃ (n : Nat) (r : Nat → Nat), ds = [tabR n r] ∧ n ≤ 9 ∧ Rf n r ∧ P (rowD n r) β
theorem hd_ranks (ds : List PyData) (β : Bag) (Q : PyData → Bag → Prop) (hl : ds.length = 1) (h : sp_ranks ds β Q) : Wk.D_code_ranks sp_free sp_code { nx := fun s => Q .none s.β, rt := Q } (initS 7 ds β) := by
  obtain ⟨n, r, rfl, n9, f, k⟩ := h
  have p9 := pow9 n9
  have pp := Nat.two_pow_pos n
  unfold Wk.D_code_ranks
  refine .inr ⟨rfl, n, sortLots ((baseL n r).map bl), rfl, tab_ok n9 (base_cd n9 r).few, fun L hL hl => ?_⟩
  have cod : ∀ l ∈ L, ∃ c, c < 2 ^ n ∧ l = bl c ∧ r c = sz c := fun l hl => by
    obtain ⟨c, hc, e, h⟩ := fr_code n9 ((hL l).mp hl)
    exact ⟨c, hc, e, (free_rank n9 f hc).mp h⟩
  refine lcW_m lotD (fun l => PyData.tuple [intN (codeN l), intN l.length]) L (fun l hl R F q => ?_) (szN (by omega)) ?_
  · obtain ⟨c, hc, rfl, _⟩ := cod l hl
    refine ⟨rfl, c, rfl, by omega, (show 2 ≤ sizeLine by decide), ?_⟩
    have e : (.tuple [intN (codeN (bl c)), intN (bl c).length] : PyData) = .tuple [intN c, .int (((bl c).map fun (x : Nat) => PyData.int (x : Int)).length : Int)] := by
      rw [codeN_bl n9 hc, List.length_map]
    rw [e] at q
    exact q ⟨_, _⟩
  rw [codP_pairs]
  refine ⟨codP L, rfl, ?_⟩
  have hm : ∀ c : Nat, c < 2 ^ n → (hasD (mergeD [] (codP L)) (Sum.inl (c : Int) : Key) = true ↔ r c = sz c) := fun c hc => by
    rw [has_true, key_mergeD]
    constructor
    · rintro (h | h)
      · cases h
      · obtain ⟨p, hp, e⟩ := List.mem_map.mp h
        obtain ⟨l, hl, rfl⟩ := List.mem_map.mp hp
        obtain ⟨c', hc', rfl, z⟩ := cod l hl
        have e : (Sum.inl ((codeN (bl c') : Nat) : Int) : Key) = Sum.inl (c : Int) := e
        rw [codeN_bl n9 hc'] at e
        have e := Sum.inl.inj e
        have e : c' = c := by omega
        exact e ▸ z
    · intro h
      refine .inr (List.mem_map.mpr ⟨(Sum.inl ((codeN (bl c) : Nat) : Int), intN (bl c).length), List.mem_map.mpr ⟨bl c, (hL _).mpr ((frB_iff (by omega)).mpr ((free_rank n9 f hc).mpr h)), rfl⟩, ?_⟩)
      show (Sum.inl ((codeN (bl c) : Nat) : Int) : Key) = _
      rw [codeN_bl n9 hc]
  have hk : ∀ c : Nat, c < 2 ^ n → r c = sz c → lookD (mergeD [] (codP L)) (Sum.inl (c : Int) : Key) = some (intN (r c)) := fun c hc h => by
    refine look_of (has_true.mp ((hm c hc).mpr h)) fun p hp e => ?_
    rcases mem_mergeD hp with h1 | h1
    · cases h1
    · obtain ⟨l, hl, rfl⟩ := List.mem_map.mp h1
      obtain ⟨c', hc', rfl, z⟩ := cod l hl
      have e : (Sum.inl ((codeN (bl c') : Nat) : Int) : Key) = Sum.inl (c : Int) := e
      rw [codeN_bl n9 hc'] at e
      have e := Sum.inl.inj e
      have e : c' = c := by omega
      subst e
      show intN (bl c').length = _
      rw [h]
      rfl
  generalize mergeD [] (codP L) = M at hm hk
  refine ⟨(show 0 ≤ sizeLine by decide), ⟨_, rfl, cpow_one (by omega), ?_⟩⟩
  show -(2 ^ 62) ≤ (1 : Int) * 2 ^ ((n : Int)).toNat ∧ (1 : Int) * 2 ^ ((n : Int)).toNat < 2 ^ 62 ∧ forW _ _ _ (rangeD 0 ((1 : Int) * 2 ^ ((n : Int)).toNat).toNat) _
  rw [shl_one]
  refine rg1 (by omega) (forW_L intN (fun done rest s => done.length + rest.length = 2 ^ n ∧ ∃ a b, s = ⟨[.sh (tabR n r), .sh (dictK (toK M)), .ow (.list ((List.range done.length).map fun c => intN (r c))), a, b, .un, .un], β⟩) (List.range (2 ^ n)) _ ⟨by simp, .un, .un, rfl⟩ ?_ ?_)
  · rintro _ ⟨_, a, b, rfl⟩
    rw [List.length_range]
    exact k
  · rintro done c rest _ e ⟨hl2, a, b, rfl⟩ D' _ hD
    obtain ⟨rfl, hc⟩ := range_at e
    rw [List.length_cons] at hl2
    generalize hxd : done.length = c at *
    have c5 : c < 512 := by omega
    refine ⟨_, rfl, rgc (by omega) (lcW_km intN (fun x => intN (r (c - 2 ^ x))) (fun x => c.testBit x) (List.range n) (fun x hx R F q => ?_) (szN (by rw [List.length_range]; omega)) ?_)⟩
    · have hx := List.mem_range.mp hx
      refine ⟨by omega, rfl, rfl, ?_⟩
      show if PyData.eqv (.int (Builtin.bitAnd ((c : Int) / 2 ^ ((x : Int)).toNat) 1)) (.int 1) = true then _ else _
      rw [shr_one]
      cases hb : c.testBit x
      · rw [if_neg (by decide)]
        simp only [hb, Bool.false_eq_true, if_false] at q
        exact q ⟨_, _⟩
      · rw [if_pos rfl]
        simp only [hb, if_true] at q
        obtain ⟨e1, e2⟩ := xor_all x (by omega) c c5 hb
        refine ⟨cpow_one (by omega), ?_⟩
        show ∃ d, L2.atI ((List.range c).map fun c => intN (r c)) (Builtin.bitXor (c : Int) (1 * 2 ^ ((x : Int)).toNat)) = some d ∧ _
        rw [shl_one, e1]
        exact ⟨_, at_map (fun c => intN (r c)) e2, q ⟨_, _⟩⟩
    · have fin : ∀ a b : Slot, D'.nx ⟨[.sh (tabR n r), .sh (dictK (toK M)), .ow (.list ((List.range c).map (fun c => intN (r c)) ++ [intN (r c)])), a, b, .un, .un], β⟩ := fun a b => by
        refine hD _ ⟨by rw [List.length_append, List.length_singleton]; omega, a, b, ?_⟩
        rw [List.length_append, List.length_singleton, hxd, List.range_succ, List.map_append]
        rfl
      refine ⟨⟨_, rfl, rfl⟩, .inr (.inr (.inr ⟨Sum.inl (c : Int), M, rfl, rfl, ?_⟩))⟩
      show if hasD M (Sum.inl (c : Int) : Key) = true then _ else _
      by_cases z : r c = sz c
      · rw [if_pos ((hm c hc).mpr z)]
        exact ⟨M, Sum.inl (c : Int), intN (r c), rfl, rfl, hk c hc z, _, rfl, by rw [List.length_map, List.length_range, sizeL]; omega, fin _ _⟩
      · rw [if_neg (fun h => z ((hm c hc).mp h))]
        dsimp only [dCall, dCons, dNil]
        refine var_sh (d := .list (((List.range n).filter fun x => c.testBit x).map fun x => intN (r (c - 2 ^ x)))) rfl ?_
        obtain ⟨x, hx, e⟩ := best_less n9 f hc z
        refine maxOf _ (fun x => r (c - 2 ^ x)) (List.ne_nil_of_mem hx) fun m hm' hmax => ?_
        obtain ⟨y, hy, ey⟩ := hm'
        have hy2 := List.mem_filter.mp hy
        have h1 := hmax x hx
        have ym := List.mem_range.mp hy2.1
        have hs : sub (c - 2 ^ y) c := sub_iff.mpr fun i hi => by
          rw [minus_bit (by omega) c5 hy2.2, Bool.and_eq_true] at hi
          exact hi.1
        have h2 := (f.mono n9 hc hs).1
        have em : m = r c := by omega
        subst em
        exact ⟨_, rfl, by rw [List.length_map, List.length_range, sizeL]; omega, fin _ _⟩
end PL
namespace PL
open PySem PySem.Spec L2 VS
open PyProof.Rows hiding St

/-! ### the program's flats -/
theorem or_up {a b : Nat} (h : sub a b) : a ||| b = b := Nat.eq_of_testBit_eq fun i => by
  rw [Nat.testBit_or]
  cases q : a.testBit i
  · rfl
  · rw [sub_iff.mp h i q]
    rfl
def sp_hull : VSp := fun ds β P => ∃ (n : Nat) (r : Nat → Nat) (c : Nat), ds = [intN n, rowD n r, intN c] ∧ n ≤ 9 ∧ Rf n r ∧ c < 2 ^ n ∧ P (intN (clo n r c)) β
theorem hd_hull (ds : List PyData) (β : Bag) (Q : PyData → Bag → Prop) (hl : ds.length = 3) (h : sp_hull ds β Q) : Wk.D_hull_code  { nx := fun s => Q .none s.β, rt := Q } (initS 4 ds β) := by
  obtain ⟨n, r, c, rfl, n9, f, hc, k⟩ := h
  have p9 := pow9 n9
  unfold Wk.D_hull_code
  refine rgc (by omega) (lcW_km intN (fun x => intN (2 ^ x)) (fun x => decide (r (c ||| 2 ^ x) = r c)) (List.range n) (fun x hx R F q => ?_) (szN (by rw [List.length_range]; omega)) ?_)
  · have hx := List.mem_range.mp hx
    refine ⟨cpow_one (by omega), ?_⟩
    show ∃ d, L2.atI ((List.range (2 ^ n)).map fun c => intN (r c)) (Builtin.bitOr (c : Int) (1 * 2 ^ ((x : Int)).toNat)) = some d ∧ _
    rw [shl_one, bitOr_nat]
    refine ⟨_, at_map (fun c => intN (r c)) (put_lt hx hc), _, at_map (fun c => intN (r c)) hc, rfl, rfl, ?_⟩
    show if PyData.eqv (intN (r (c ||| 2 ^ x))) (intN (r c)) = true then _ else _
    rw [ne_intN]
    refine if_go (q ⟨_, _⟩) (fun q2 => ⟨cpow_one (by omega), ?_⟩) fun e => e
    show R _ (.int (1 * 2 ^ ((x : Int)).toNat)) _
    rw [shl_one]
    exact q2
  · dsimp only [dCall, dCons, dNil]
    refine sumOf ?_
    show Q (.int (Builtin.bitOr (c : Int) ((clo n r c : Nat) : Int))) β
    rw [bitOr_nat, or_up (f.clo_rank n9 hc).1]
    exact k
def sp_least : VSp := fun ds β P => ∃ (n : Nat) (r : Nat → Nat) (c : Nat), ds = [tabR n r, lotD (bl c)] ∧ n ≤ 9 ∧ Rf n r ∧ c < 2 ^ n ∧ P (lotD (bl (clo n r c))) β
theorem hd_least (ds : List PyData) (β : Bag) (Q : PyData → Bag → Prop) (hl : ds.length = 2) (h : sp_least ds β Q) : Wk.D_least_flat sp_uncode sp_hull sp_ranks sp_code { nx := fun s => Q .none s.β, rt := Q } (initS 2 ds β) := by
  obtain ⟨n, r, c, rfl, n9, f, hc, k⟩ := h
  have p9 := pow9 n9
  have := (clo_ok n9 r c).1
  unfold Wk.D_least_flat
  exact ⟨_, rfl, rfl, n, r, rfl, n9, f, rfl, c, rfl, by omega, rfl, n, r, c, rfl, n9, f, hc, rfl, clo n r c, rfl, by omega, k⟩
def flatB (n : Nat) (r : Nat → Nat) (c : Nat) : Bool := decide (clo n r c = c)
def sp_isflat : VSp := fun ds β P => ∃ (n : Nat) (r : Nat → Nat) (c : Nat), ds = [tabR n r, lotD (bl c)] ∧ n ≤ 9 ∧ Rf n r ∧ c < 2 ^ n ∧ P (.bool (flatB n r c)) β
theorem hd_isflat (ds : List PyData) (β : Bag) (Q : PyData → Bag → Prop) (hl : ds.length = 2) (h : sp_isflat ds β Q) : Wk.D_is_flat sp_least { nx := fun s => Q .none s.β, rt := Q } (initS 2 ds β) := by
  obtain ⟨n, r, c, rfl, n9, f, hc, k⟩ := h
  have lt := (clo_ok n9 r c).1
  unfold Wk.D_is_flat
  refine ⟨rfl, n, r, c, rfl, n9, f, hc, shaped_lot _, shaped_lot _, ?_⟩
  show Q (.bool (PyData.eqv (lotD (bl (clo n r c))) (lotD (bl c)))) β
  rw [eqv_lot]
  have e : decide (bl (clo n r c) = bl c) = flatB n r c := by
    unfold flatB
    rw [Bool.eq_iff_iff, decide_eq_true_eq, decide_eq_true_eq]
    exact ⟨fun h => code_inj n9 lt hc h, fun h => by rw [h]⟩
  rw [e]
  exact k
def flatL (n : Nat) (r : Nat → Nat) : List Nat := (List.range (2 ^ n)).filter (flatB n r)
abbrev parD (r : Nat → Nat) (c : Nat) : PyData := .tuple [lotD (bl c), intN (r c)]
theorem sort_par {n : Nat} (n9 : n ≤ 9) (r : Nat → Nat) (p : Nat → Bool) : sortD (((List.range (2 ^ n)).filter p).map (parD r)) = ((CO n).filter p).map (parD r) := by
  have e : sortD (((List.range (2 ^ n)).filter p).map (parD r)) = (((List.range (2 ^ n)).filter p).mergeSort fun a b => PySem.W.dataLe false id (lotD (bl a)) (lotD (bl b))).map (parD r) := by
    unfold sortD
    refine (List.map_mergeSort (f := parD r) (s := PySem.W.dataLe false id) (r := fun a b => PySem.W.dataLe false id (lotD (bl a)) (lotD (bl b))) fun a ha b hb => ?_).symm
    have ha := List.mem_range.mp (List.mem_filter.mp ha).1
    have hb := List.mem_range.mp (List.mem_filter.mp hb).1
    show (!PyProof.Rows.lexLt PyProof.Rows.itemOrd (PySem.W.keyToks (lotD (bl b))) (PySem.W.keyToks (lotD (bl a)))) = !PyProof.Rows.lexLt PyProof.Rows.itemOrd (PySem.W.keyToks (parD r b)) (PySem.W.keyToks (parD r a))
    by_cases e : a = b
    · subst e
      rw [PyProof.Rows.lex_irrefl, PyProof.Rows.lex_irrefl]
    · have ne : bl b ≠ bl a := fun q => e (code_inj n9 ha hb q.symm)
      have tk : ∀ c, PySem.W.keyToks (parD r c) = Sum.inl 1 :: (PySem.W.keyToks (lotD (bl c)) ++ PySem.W.keyToksAll [intN (r c)]) := fun c => rfl
      rw [tk, tk, PyProof.Rows.lex_cons, lex_lots _ _ _ _ ne]
      have : PyProof.Rows.itemOrd.blt (Sum.inl 1) (Sum.inl 1) = false := PyProof.Rows.itemOrd.irrefl _
      rw [this]
      simp
  rw [e]
  congr 1
  have := sort_part n9 p
  have e2 : sortLots (((List.range (2 ^ n)).filter p).map bl) = (((List.range (2 ^ n)).filter p).mergeSort fun a b => PySem.W.dataLe false id (lotD (bl a)) (lotD (bl b))).map bl := by
    unfold sortLots
    exact (List.map_mergeSort (f := bl) (s := fun a b => PySem.W.dataLe false id (lotD a) (lotD b)) (r := fun a b => PySem.W.dataLe false id (lotD (bl a)) (lotD (bl b))) fun a _ b _ => rfl).symm
  rw [e2] at this
  have cn : ∀ L : List Nat, (∀ c ∈ L, c < 2 ^ n) → L = (L.map bl).map codeN := fun L hL => by
    rw [List.map_map]
    conv => lhs; rw [← List.map_id L]
    exact List.map_congr_left fun c hc => (codeN_bl n9 (hL c hc)).symm
  rw [cn _ (fun c hc => List.mem_range.mp (List.mem_filter.mp (List.mem_mergeSort.mp hc)).1), this, ← cn _ (fun c hc => CO_mem.mp (List.mem_filter.mp hc).1)]
theorem par_ok (r : Nat → Nat) (L : List Nat) : SeqAt.shaped (.list (L.map (parD r))) = true ∧ VT.SortOk (L.map (parD r)) := by
  have lay : ∀ L : List Nat, PyData.canLayAll0 (L.map (parD r)) = true := fun L => by
    induction L with
    | nil => rfl
    | cons c L ih =>
      have h1 : (lotD (bl c)).canLay0 = true := nats_lay _
      have h3 : (parD r c).canLay0 = true := by
        show PyData.canLayAll0 [lotD (bl c), intN (r c)] = true
        simp [PyData.canLayAll0, h1]
        rfl
      simp [PyData.canLayAll0, h3, ih]
  have dp : ∀ c, (parD r c).depth = 2 := fun c => by
    simp [PyData.depth, PyData.depthAll, lot_depth]
  have dpt : ∀ L : List Nat, PyData.depthAll (L.map (parD r)) ≤ 2 := fun L => by
    induction L with
    | nil => simp [PyData.depthAll]
    | cons c L ih =>
      rw [List.map_cons, PyData.depthAll, dp]
      omega
  refine ⟨?_, ?_, .inl ?_, ?_⟩
  · unfold SeqAt.shaped
    rw [Bool.and_eq_true]
    refine ⟨lay L, decide_eq_true ?_⟩
    have := dpt L
    simp only [PyData.depth]
    omega
  · intro d hd d' hd'
    obtain ⟨a, _, rfl⟩ := List.mem_map.mp hd
    obtain ⟨b, _, rfl⟩ := List.mem_map.mp hd'
    have := alike_nats (bl a) (bl b)
    simp [PySem.W.alike, PySem.W.alikeAll, lotD, this]
  · intro d hd
    obtain ⟨a, _, rfl⟩ := List.mem_map.mp hd
    exact ⟨_, rfl⟩
  · intro d hd
    obtain ⟨a, _, rfl⟩ := List.mem_map.mp hd
    rw [dp]
    decide
/-- the flats in the order of the lots -/
def flatC (n : Nat) (r : Nat → Nat) : List Nat := (CO n).filter (flatB n r)
theorem flatC_few {n : Nat} (n9 : n ≤ 9) (r : Nat → Nat) : (flatC n r).length ≤ 512 := by
  refine Nat.le_trans (List.length_filter_le _ _) ?_
  rw [CO_len]
  exact pow9 n9
def sp_rflats : VSp := fun ds β P => ∃ (n : Nat) (r : Nat → Nat), ds = [tabR n r] ∧ n ≤ 9 ∧ Rf n r ∧ P (.list ((flatC n r).map (parD r))) β
theorem hd_rflats (ds : List PyData) (β : Bag) (Q : PyData → Bag → Prop) (hl : ds.length = 1) (h : sp_rflats ds β Q) : Wk.D_ranked_flats sp_hull sp_uncode sp_ranks { nx := fun s => Q .none s.β, rt := Q } (initS 5 ds β) := by
  obtain ⟨n, r, rfl, n9, f, k⟩ := h
  have p9 := pow9 n9
  unfold Wk.D_ranked_flats
  refine ⟨rfl, n, r, rfl, n9, f, (show 0 ≤ sizeLine by decide), rfl, (show 2 ≤ sizeLine by decide), ?_⟩
  show forW _ _ _ (enumD 0 ((List.range (2 ^ n)).map fun c => intN (r c))) _
  rw [enum_map (2 ^ n) fun c => intN (r c)]
  refine forW_L (fun c => PyData.tuple [intN c, intN (r c)]) (fun done rest s => done.length + rest.length = 2 ^ n ∧ ∃ a b, s = ⟨[.sh (tabR n r), .sh (rowD n r), .ow (.list (((List.range done.length).filter (flatB n r)).map (parD r))), a, b], β⟩) (List.range (2 ^ n)) _ ⟨by simp, .un, .un, rfl⟩ ?_ ?_
  · rintro _ ⟨_, a, b, rfl⟩
    rw [List.length_range]
    obtain ⟨h1, h2⟩ := par_ok r ((List.range (2 ^ n)).filter (flatB n r))
    refine .inl ⟨_, rfl, h1, h2, ?_⟩
    show Q (.list (sortD (((List.range (2 ^ n)).filter (flatB n r)).map (parD r)))) β
    rw [sort_par n9 r]
    exact k
  · rintro done c rest _ e ⟨hl2, a, b, rfl⟩ D' _ hD
    obtain ⟨rfl, hc⟩ := range_at e
    rw [List.length_cons] at hl2
    generalize hxd : done.length = c at *
    have lt := (clo_ok n9 r c).1
    have fin : ∀ a b : Slot, D'.nx ⟨[.sh (tabR n r), .sh (rowD n r), .ow (.list (((List.range c).filter (flatB n r)).map (parD r) ++ if flatB n r c = true then [parD r c] else [])), a, b], β⟩ := fun a b => by
      refine hD _ ⟨by rw [List.length_append, List.length_singleton]; omega, a, b, ?_⟩
      rw [List.length_append, List.length_singleton, hxd, List.range_succ, List.filter_append, List.map_append]
      cases z : flatB n r c <;> simp [z]
    refine ⟨rfl, _, rfl, rfl, n, r, c, rfl, n9, f, hc, rfl, rfl, ?_⟩
    show if PyData.eqv (intN (clo n r c)) (intN c) = true then _ else _
    rw [ne_intN, show decide (clo n r c = c) = flatB n r c from rfl]
    cases z : flatB n r c
    · rw [if_neg (by decide)]
      have := fin (.sh (intN c)) (.sh (intN (r c)))
      rw [z, if_neg (by decide), List.append_nil] at this
      exact this
    · rw [if_pos rfl]
      have := fin (.sh (intN c)) (.sh (intN (r c)))
      rw [z, if_pos rfl] at this
      have few := Nat.le_trans (List.length_filter_le (flatB n r) (List.range c)) (by rw [List.length_range]; exact Nat.le_of_lt hc)
      exact ⟨⟨_, rfl, rfl⟩, rfl, c, rfl, by omega, (show 2 ≤ sizeLine by decide), _, rfl, by rw [List.length_map, sizeL]; omega, this⟩
def sp_aflats : VSp := fun ds β P => ∃ (n : Nat) (r : Nat → Nat), ds = [tabR n r] ∧ n ≤ 9 ∧ Rf n r ∧ P (.tuple ((flatC n r).map fun c => lotD (bl c))) β
theorem hd_aflats (ds : List PyData) (β : Bag) (Q : PyData → Bag → Prop) (hl : ds.length = 1) (h : sp_aflats ds β Q) : Wk.D_all_flats sp_rflats { nx := fun s => Q .none s.β, rt := Q } (initS 3 ds β) := by
  obtain ⟨n, r, rfl, n9, f, k⟩ := h
  have few := flatC_few n9 r
  unfold Wk.D_all_flats
  refine .inl ⟨rfl, n, r, rfl, n9, f, lcW_m (parD r) (fun c => lotD (bl c)) (flatC n r) (fun c hc R F q => ⟨rfl, q ⟨_, _⟩⟩) (szN (by omega)) k⟩
def sp_frank : VSp := fun ds β P => ∃ (n : Nat) (r : Nat → Nat) (m : Nat), ds = [tabR n r, intN m] ∧ n ≤ 9 ∧ Rf n r ∧ P (.tuple (((flatC n r).filter fun c => decide (r c = m)).map fun c => lotD (bl c))) β
theorem hd_frank (ds : List PyData) (β : Bag) (Q : PyData → Bag → Prop) (hl : ds.length = 2) (h : sp_frank ds β Q) : Wk.D_flats_of_rank sp_rflats { nx := fun s => Q .none s.β, rt := Q } (initS 4 ds β) := by
  obtain ⟨n, r, m, rfl, n9, f, k⟩ := h
  have few := flatC_few n9 r
  unfold Wk.D_flats_of_rank
  refine .inl ⟨rfl, n, r, rfl, n9, f, lcW_km (parD r) (fun c => lotD (bl c)) (fun c => decide (r c = m)) (flatC n r) (fun c hc R F q => ?_) (szN (by omega)) k⟩
  refine ⟨rfl, rfl, rfl, ?_⟩
  show if PyData.eqv (intN (r c)) (intN m) = true then _ else _
  rw [ne_intN]
  exact q ⟨_, _⟩
end PL
namespace PL
open PySem PySem.Spec L2 VS
open PyProof.Rows hiding St

/-! ### how great a value is -/
structure Vb (k m : Nat) (d : PyData) : Prop where
  pl : plainD d = true
  sm : PL.sm (VS.strip d) = true
  dp : (VS.strip d).depth ≤ k
  wt : PL.wt (VS.strip d) ≤ m
theorem Vb.up {k m k' m' : Nat} {d : PyData} (h : Vb k m d) (h1 : k ≤ k' := by decide) (h2 : m ≤ m' := by decide) : Vb k' m' d := ⟨h.pl, h.sm, Nat.le_trans h.dp h1, Nat.le_trans h.wt h2⟩
theorem vb_all {k m : Nat} : ∀ {zs : List PyData}, (∀ z ∈ zs, Vb k m z) → plainAll zs = true ∧ smAll (stripAll zs) = true ∧ PyData.depthAll (stripAll zs) ≤ k ∧ wtAll (stripAll zs) ≤ zs.length * (m + 2)
  | [], _ => ⟨rfl, rfl, Nat.zero_le _, Nat.zero_le _⟩
  | z :: zs, h => by
    have hz := h z (List.mem_cons_self ..)
    obtain ⟨h1, h2, h3, h4⟩ := vb_all fun x hx => h x (List.mem_cons_of_mem _ hx)
    refine ⟨by simp [plainAll, hz.pl, h1], by simp [stripAll, smAll, hz.sm, h2], ?_, ?_⟩
    · have := hz.dp
      simp only [stripAll, PyData.depthAll]
      omega
    · have := hz.wt
      simp only [stripAll, wtAll, List.length_cons, Nat.add_mul]
      omega
theorem vb_tup {k m : Nat} (j : Nat) {zs : List PyData} (h : ∀ z ∈ zs, Vb k m z) (hl : zs.length ≤ j) : Vb (k + 1) (3 + j * (m + 2)) (.tuple zs) := by
  obtain ⟨h1, h2, h3, h4⟩ := vb_all h
  have hm : zs.length * (m + 2) ≤ j * (m + 2) := Nat.mul_le_mul_right _ hl
  refine ⟨h1, h2, ?_, ?_⟩
  · simp only [VS.strip, PyData.depth]; omega
  · simp only [VS.strip, wt]; omega
theorem vb_lst {k m : Nat} (j : Nat) {zs : List PyData} (h : ∀ z ∈ zs, Vb k m z) (hl : zs.length ≤ j) : Vb (k + 1) (3 + j * (m + 2)) (.list zs) := by
  obtain ⟨h1, h2, h3, h4⟩ := vb_all h
  have hm : zs.length * (m + 2) ≤ j * (m + 2) := Nat.mul_le_mul_right _ hl
  refine ⟨h1, h2, ?_, ?_⟩
  · simp only [VS.strip, PyData.depth]; omega
  · simp only [VS.strip, wt]; omega
theorem vb_none : Vb 0 700 .none := ⟨rfl, rfl, by decide, by decide⟩
theorem vb_bool (b : Bool) : Vb 0 700 (.bool b) := ⟨rfl, rfl, by simp [VS.strip, PyData.depth], by simp [VS.strip, wt]⟩
theorem vb_int {i : Int} (h : okI i = true) : Vb 0 700 (.int i) := ⟨rfl, h, by simp [VS.strip, PyData.depth], by simp only [VS.strip, wt]; have := wI_le i; omega⟩
theorem vb_str {x : Str} (h : okS x = true) : Vb 0 700 (.str x) := ⟨rfl, h, by simp [VS.strip, PyData.depth], by simp [VS.strip, wt]⟩
theorem Vb.rd {k m : Nat} {d : PyData} (h : Vb k m d) (h1 : k ≤ 30 := by decide) (h2 : m ≤ 12000000 := by decide) : Rd_ d := ⟨h.pl, h.sm, Nat.le_trans h.dp h1, Nat.le_trans h.wt h2⟩
theorem vb_nat {x : Nat} (h : x < 600) : Vb 0 700 (intN x) := vb_int (ok_sm (by omega))
theorem vb_lot (c : Nat) : Vb 1 8000 (lotD (bl c)) := by
  have h9 := bl_len c
  have zl : ((bl c).map fun (x : Nat) => PyData.int (x : Int)).length = (bl c).length := List.length_map _
  refine (vb_tup (k := 0) (m := 700) 9 (fun z hz => ?_) (by omega)).up
  obtain ⟨x, hx, rfl⟩ := List.mem_map.mp hz
  exact vb_nat (by have := (mem_bl.mp hx).1; omega)
theorem vb_lots (L : List Nat) (h : L.length ≤ 512) : Vb 2 4100000 (.tuple (L.map fun c => lotD (bl c))) :=
  (vb_tup (k := 1) (m := 8000) 512 (fun z hz => by
    obtain ⟨c, _, rfl⟩ := List.mem_map.mp hz
    exact vb_lot c) (by rw [List.length_map]; exact h)).up
theorem vb_of {d : PyData} {k m : Nat} (h1 : plainD d = true) (h2 : VS.strip d = d) (h3 : sm d = true) (h4 : d.depth ≤ k) (h5 : wt d ≤ m) : Vb k m d := ⟨h1, by rw [h2]; exact h3, by rw [h2]; exact h4, by rw [h2]; exact h5⟩
theorem vb_tabR {n : Nat} (n9 : n ≤ 9) (r : Nat → Nat) : Vb 5 400000 (tabR n r) := by
  obtain ⟨h1, h2, h3, h4, h5⟩ := tab_small (base_cd n9 r)
  exact vb_of h1 h2 h3 h4 h5
theorem rf {d : PyData} (h : Rd_ d) : plainD d = true ∧ (VS.strip d).showable = true ∧ (VS.strip d).depth ≤ 32 ∧ (VS.strip d).shown.length ≤ sizeLine := by
  obtain ⟨h1, _, h3⟩ := shown_up _ h.sm
  have := h.wt
  have := h.dp
  exact ⟨h.pl, h3, by omega, by rw [sizeL]; omega⟩
/-! ### the same in type and worth -/
def EltOk (d : PyData) : Prop := typed d ∧ ∃ b, kitB (tyD d) "tuple" = some b
def IsOk (d : PyData) : Prop := (∃ b, d = .bool b) ∨ ∃ xs, d = .tuple xs ∧ xs.length ≤ 1000 ∧ ∀ x ∈ xs, EltOk x
def sp_is : VSp := fun ds β P => ∃ d : PyData, ds = [d, d] ∧ Rd_ d ∧ IsOk d ∧ P (.bool true) β
theorem elt_nat (x : Nat) : EltOk (intN x) := ⟨trivial, _, rfl⟩
theorem elt_lot (l : List Nat) : EltOk (lotD l) := ⟨trivial, _, rfl⟩
theorem is_lot (c : Nat) : IsOk (lotD (bl c)) := .inr ⟨_, rfl, by have := bl_len c; rw [List.length_map]; omega, fun x hx => by
  obtain ⟨y, _, rfl⟩ := List.mem_map.mp hx
  exact elt_nat y⟩
theorem is_lots (L : List Nat) (h : L.length ≤ 512) : IsOk (.tuple (L.map fun c => lotD (bl c))) := .inr ⟨_, rfl, by rw [List.length_map]; omega, fun x hx => by
  obtain ⟨y, _, rfl⟩ := List.mem_map.mp hx
  exact elt_lot _⟩
theorem zip_same : ∀ xs : List PyData, zipD xs xs = xs.map fun x => PyData.tuple [x, x]
  | [] => rfl
  | x :: xs => by
    show PyData.tuple [x, x] :: zipD xs xs = _
    rw [zip_same xs]
    rfl
theorem hd_is (ds : List PyData) (β : Bag) (Q : PyData → Bag → Prop) (hl : ds.length = 2) (h : sp_is ds β Q) : Wk.D__law_is  { nx := fun s => Q .none s.β, rt := Q } (initS 4 ds β) := by
  obtain ⟨d, rfl, rd, ok, k⟩ := h
  unfold Wk.D__law_is
  refine ⟨_, rfl, (rf rd).1, (rf rd).2.1, (rf rd).2.2.1, (rf rd).2.2.2, ⟨_, rfl, (rf rd).1, (rf rd).2.1, (rf rd).2.2.1, (rf rd).2.2.2, ⟨sh_tx rd, sh_tx rd, ?_⟩⟩⟩
  show if (!PyData.eqv (.str (txD d)) (.str (txD d))) = true then _ else _
  rw [eqv_str, if_neg (by decide)]
  rcases ok with ⟨b, rfl⟩ | ⟨xs, rfl, hl, he⟩
  · refine ⟨false, rfl, trivial, ?_⟩
    refine ⟨_, rfl, (rf rd).1, (rf rd).2.1, (rf rd).2.2.1, (rf rd).2.2.2, (show 3 ≤ sizeLine by decide), _, [PySem.Str.ofString "True", PySem.Str.ofString "False", PySem.Str.ofString "None"], rfl, rfl, ?_⟩
    cases b
    · exact k
    · exact k
  · refine ⟨true, rfl, trivial, true, rfl, trivial, ?_⟩
    show lcW _ _ _ _ _ _ (zipD xs xs) _ _
    rw [zip_same]
    refine lcW_m (fun x => PyData.tuple [x, x]) (fun _ => .bool true) xs (fun x hx R F q => ?_) (szN (by omega)) ?_
    · obtain ⟨ht, b, hb⟩ := he x hx
      refine ⟨rfl, b, hb, ht, b, hb, ht, rfl, rfl, ?_⟩
      show R true _ (.bool (PyData.eqv (.bool b) (.bool b))) _
      have e : PyData.eqv (.bool b) (.bool b) = true := by cases b <;> rfl
      rw [e]
      exact q ⟨_, _⟩
    · dsimp only [dCall, dCons, dNil]
      refine allOf xs (fun _ => true) ?_
      rw [show xs.all (fun _ => true) = true by simp]
      exact k
/-! ### what is asked -/
def sp_asked : VSp := fun ds β P => ∃ (n : Nat) (L : List Nat), ds = [bagD, intN n, .list (L.map intN)] ∧ n ≤ 9 ∧ L ≠ [] ∧ L.length ≤ 512 ∧ (∀ c ∈ L, c < 2 ^ n) ∧ GoodB β ∧ ∀ (M : List Nat) (β' : Bag), (∀ c ∈ M, c < 2 ^ n) → M.length ≤ 1000 → GoodB β' → P (.list (M.map intN)) β'
theorem hd_asked (ds : List PyData) (β : Bag) (Q : PyData → Bag → Prop) (hl : ds.length = 3) (h : sp_asked ds β Q) : Wk.D__law_asked sp_draw sp_pick { nx := fun s => Q .none s.β, rt := Q } (initS 9 ds β) := by
  obtain ⟨n, L, rfl, n9, ne, few, hL, hb, k⟩ := h
  have p9 := pow9 n9
  have pp := Nat.two_pow_pos n
  unfold Wk.D__law_asked
  refine ⟨cpow_one (by omega), ?_⟩
  show if decide ((n : Int) < 4) = true then RgOk 0 ((1 : Int) * 2 ^ ((n : Int)).toNat) ∧ Q (.list (rgD 0 ((1 : Int) * 2 ^ ((n : Int)).toNat))) β else _
  rw [shl_one]
  split
  · refine ⟨rgOk _ (by omega), ?_⟩
    rw [rg_nat]
    exact k (List.range (2 ^ n)) β (fun c hc => List.mem_range.mp hc) (by rw [List.length_range]; omega) hb
  rename_i h4
  have h4 : 4 ≤ n := by
    have := of_decide_eq_false (Bool.eq_false_iff.mpr h4)
    omega
  refine ⟨(show 2 ≤ sizeLine by decide), (show -(2 ^ 62) ≤ (8 : Int) by decide), (show (8 : Int) < 2 ^ 62 by decide), ?_⟩
  show forW _ _ _ (rangeD 0 (((8 : Nat) : Int)).toNat) ⟨[_, _, _, .sh (.int (1 * 2 ^ ((n : Int)).toNat)), .ow (.list [.int 0, .int (1 * 2 ^ ((n : Int)).toNat - 1)]), .un, .un, .un, .un], β⟩
  rw [shl_one, Int.toNat_natCast, rangeD_nat]
  refine forW_L intN (fun done rest s => done.length + rest.length = 8 ∧ ∃ (M : List Nat) (a b c e : Slot) (β : Bag), (∀ c ∈ M, c < 2 ^ n) ∧ M.length = done.length + 2 ∧ GoodB β ∧ s = ⟨[.sh bagD, .sh (intN n), .sh (.list (L.map intN)), .sh (intN (2 ^ n)), .ow (.list (M.map intN)), a, b, c, e], β⟩) (List.range 8) _ ⟨by simp, [0, 2 ^ n - 1], .un, .un, .un, .un, β, ?_, rfl, hb, ?_⟩ ?_ ?_
  · intro c hc
    rcases List.mem_cons.mp hc with rfl | hc
    · exact pp
    · rw [List.mem_singleton] at hc
      omega
  · show (⟨_, β⟩ : S) = ⟨[_, _, _, _, .ow (.list [.int 0, .int ((2 ^ n - 1 : Nat) : Int)]), _, _, _, _], β⟩
    rw [show ((2 ^ n - 1 : Nat) : Int) = ((2 ^ n : Nat) : Int) - 1 by omega]
  · rintro _ ⟨_, M, a, b, c, e, β, hM, hl2, hb, rfl⟩
    rw [List.length_range] at hl2
    exact k M β hM (by omega) hb
  · rintro done x rest _ e ⟨hl2, M, s5, s6, s7, s8, β, hM, hl3, hb, rfl⟩ D' _ hD
    rw [List.length_cons] at hl2
    have fin : ∀ (c : Nat) (s5 s6 s7 s8 : Slot) (β : Bag), c < 2 ^ n → GoodB β → D'.nx ⟨[.sh bagD, .sh (intN n), .sh (.list (L.map intN)), .sh (intN (2 ^ n)), .ow (.list (M.map intN ++ [intN c])), s5, s6, s7, s8], β⟩ := fun c s5 s6 s7 s8 β hc hb => by
      refine hD _ ⟨by rw [List.length_append, List.length_singleton]; omega, M ++ [c], s5, s6, s7, s8, β, fun d hd => ?_, by rw [List.length_append, List.length_append, List.length_singleton, List.length_singleton]; omega, hb, by rw [List.map_append]; rfl⟩
      rcases List.mem_append.mp hd with h | h
      · exact hM d h
      · rw [List.mem_singleton.mp h]; exact hc
    have room : (M.map intN).length + 1 ≤ sizeLine := by rw [List.length_map, sizeL]; omega
    refine ⟨rfl, (4 : Int), rfl, by decide, by decide, hb, fun u β1 u0 u4 hb1 => ?_⟩
    refine ⟨rfl, L.map intN, rfl, by rw [List.length_map]; exact List.length_pos_iff.mpr ne, by rw [List.length_map]; omega, hb1, fun d hd β2 hb2 => ?_⟩
    obtain ⟨f, hf, rfl⟩ := List.mem_map.mp hd
    have hf := hL f hf
    refine ⟨rfl, hd_drawN (by omega) (by omega) hb2 fun y β3 hy hb3 => ⟨cpow_one (by omega), rfl, (show 3 ≤ sizeLine by decide), ?_⟩⟩
    refine ⟨rfl, rfl, ?_⟩
    show if PyData.eqv (.int u) (.int 0) = true then _ else _
    have py := Nat.pow_lt_pow_right (show 1 < 2 by decide) hy
    split
    · exact ⟨⟨_, rfl, rfl⟩, _, rfl, room, fin f _ _ _ _ β3 hf hb3⟩
    · refine ⟨rfl, rfl, ?_⟩
      show if PyData.eqv (.int u) (.int 1) = true then _ else _
      split
      · refine ⟨⟨_, rfl, rfl⟩, _, rfl, room, ?_⟩
        show D'.nx ⟨[_, _, _, _, .ow (.list (M.map intN ++ [.int (Builtin.bitAnd (f : Int) (((2 ^ n : Nat) : Int) - 1 - 1 * 2 ^ ((y : Int)).toNat))])), _, _, _, _], β3⟩
        rw [shl_one, show ((2 ^ n : Nat) : Int) - 1 - ((2 ^ y : Nat) : Int) = ((2 ^ n - 1 - 2 ^ y : Nat) : Int) by omega, bitAnd_nat]
        exact fin _ _ _ _ _ β3 (Nat.lt_of_le_of_lt Nat.and_le_left hf) hb3
      · refine ⟨rfl, rfl, ?_⟩
        show if PyData.eqv (.int u) (.int 2) = true then _ else _
        split
        · refine ⟨⟨_, rfl, rfl⟩, _, rfl, room, ?_⟩
          show D'.nx ⟨[_, _, _, _, .ow (.list (M.map intN ++ [.int (Builtin.bitOr (f : Int) (1 * 2 ^ ((y : Int)).toNat))])), _, _, _, _], β3⟩
          rw [shl_one, bitOr_nat]
          exact fin _ _ _ _ _ β3 (put_lt hy hf) hb3
        · exact ⟨⟨_, rfl, rfl⟩, rfl, hd_drawN pp (by omega) hb3 fun m β4 hm hb4 => ⟨_, rfl, room, fin m _ _ _ _ β4 hm hb4⟩⟩
def sp_askr : VSp := fun ds β P => ∃ n m : Nat, ds = [bagD, intN n, intN m] ∧ m ≤ 9 ∧ GoodB β ∧ ∀ (M : List Nat) (β' : Bag), M.length ≤ 1000 → GoodB β' → P (.list (M.map intN)) β'
theorem hd_askr (ds : List PyData) (β : Bag) (Q : PyData → Bag → Prop) (hl : ds.length = 3) (h : sp_askr ds β Q) : Wk.D__law_asked_ranks sp_draw { nx := fun s => Q .none s.β, rt := Q } (initS 3 ds β) := by
  obtain ⟨n, m, rfl, m9, hb, k⟩ := h
  unfold Wk.D__law_asked_ranks
  show if decide ((n : Int) < 8) = true then RgOk 0 ((m : Int) + 1) ∧ Q (.list (rgD 0 ((m : Int) + 1))) β else _
  rw [show (m : Int) + 1 = ((m + 1 : Nat) : Int) by omega]
  split
  · refine ⟨rgOk _ (by omega), ?_⟩
    rw [rg_nat]
    exact k (List.range (m + 1)) β (by rw [List.length_range]; omega) hb
  · refine ⟨rfl, ((m + 1 : Nat) : Int), ?_, by omega, by omega, hb, fun u β1 u0 u1 hb1 => ⟨(show 4 ≤ sizeLine by decide), ?_⟩⟩
    · show [bagD, PyData.int ((m : Int) + 1)] = _
      rw [show (m : Int) + 1 = ((m + 1 : Nat) : Int) by omega]
    show Q (.list [.int 0, intN m, .int (if (m : Int) - 1 > 0 then (m : Int) - 1 else 0), .int u]) β1
    have e : (.list [.int 0, intN m, .int (if (m : Int) - 1 > 0 then (m : Int) - 1 else 0), .int u] : PyData) = .list (([0, m, m - 1, u.toNat] : List Nat).map intN) := by
      show PyData.list [.int 0, intN m, .int (if (m : Int) - 1 > 0 then (m : Int) - 1 else 0), .int u] = .list [.int ((0 : Nat) : Int), intN m, .int ((m - 1 : Nat) : Int), .int ((u.toNat : Nat) : Int)]
      have e1 : (if (m : Int) - 1 > 0 then (m : Int) - 1 else 0) = ((m - 1 : Nat) : Int) := by split <;> omega
      rw [e1, Int.toNat_of_nonneg u0]
      rfl
    rw [e]
    exact k _ β1 (by simp) hb1
def sp_told : VSp := fun ds β P => ∃ (n : Nat) (p : Nat → Bool), ds = [lotsN n, .list (((List.range (2 ^ n)).filter p).map intN)] ∧ n ≤ 9 ∧ P (.tuple (((CO n).filter p).map fun c => lotD (bl c))) β
theorem hd_told (ds : List PyData) (β : Bag) (Q : PyData → Bag → Prop) (hl : ds.length = 2) (h : sp_told ds β Q) : Wk.D__law_told  { nx := fun s => Q .none s.β, rt := Q } (initS 3 ds β) := by
  obtain ⟨n, p, rfl, n9, k⟩ := h
  have p9 := pow9 n9
  have few := Nat.le_trans (List.length_filter_le p (List.range (2 ^ n))) (by rw [List.length_range]; exact p9)
  unfold Wk.D__law_told
  refine .inl (lcW_m intN (fun c => lotD (bl c)) ((List.range (2 ^ n)).filter p) (fun c hc R F q => ?_) (szN (by omega)) ?_)
  · exact ⟨_, at_map (fun c => lotD (bl c)) (List.mem_range.mp (List.mem_filter.mp hc).1), q ⟨_, _⟩⟩
  have so := sortD_lots (((List.range (2 ^ n)).filter p).map bl)
  rw [List.map_map, sort_part n9, List.map_map] at so
  refine .inl ⟨_, rfl, ?_, ?_, ?_⟩
  · have := shaped_lots (((List.range (2 ^ n)).filter p).map bl)
    rw [List.map_map] at this
    exact this
  · have := sortOk_lots (((List.range (2 ^ n)).filter p).map bl)
    rw [List.map_map] at this
    exact this
  rw [show sortD (((List.range (2 ^ n)).filter p).map fun c => lotD (bl c)) = _ from so]
  exact k
/-! ### the least flat -/
theorem clo_up {n : Nat} {r : Nat → Nat} (n9 : n ≤ 9) (f : Rf n r) {c g : Nat} (hg : g < 2 ^ n) (hs : sub c g) (h : clo n r g = g) : sub (clo n r c) g := by
  refine sub_iff.mpr fun x hx => ?_
  rw [(clo_ok n9 r c).2, Bool.and_eq_true, decide_eq_true_eq, decide_eq_true_eq] at hx
  cases q : g.testBit x
  · have := f.idle n9 hg hs hx.1 q hx.2
    have z : (clo n r g).testBit x = true := by
      rw [(clo_ok n9 r g).2, decide_eq_true hx.1, decide_eq_true this]
      rfl
    rw [h, q] at z
    cases z
  · rfl
def sp_aright : VSp := fun ds β P => ∃ (n : Nat) (r : Nat → Nat) (c : Nat) (F : List Nat) (nm : Bool), ds = [tabR n r, lotsN n, intN (clo n r c), .list (F.map intN), intN c, .bool nm] ∧ n ≤ 9 ∧ Rf n r ∧ c < 2 ^ n ∧ F.length ≤ 512 ∧ (∀ g ∈ F, g < 2 ^ n ∧ clo n r g = g) ∧ P (.bool true) β
theorem hd_aright (ds : List PyData) (β : Bag) (Q : PyData → Bag → Prop) (hl : ds.length = 6) (h : sp_aright ds β Q) : Wk.D__law_are_least_right sp_is sp_isflat sp_least { nx := fun s => Q .none s.β, rt := Q } (initS 11 ds β) := by
  obtain ⟨n, r, c, F, nm, rfl, n9, f, hc, few, hF, k⟩ := h
  have p9 := pow9 n9
  have lt := (clo_ok n9 r c).1
  unfold Wk.D__law_are_least_right
  refine ⟨_, at_map (fun c => lotD (bl c)) hc, ?_⟩
  have mid : ∀ β : Bag, (∀ β : Bag, True) → Q (.bool true) β → (sSeq (sIf (dOrT (dNotT (dTru (dFn 2 sp_is (dCons (dOp dIx (dVar 7) (dC (.int 0))) (dCons (dOp dEq (dVar 2) (dVar 4)) dNil))))) (dNotT (dTru (dFn 2 sp_is (dCons (dOp dIx (dVar 7) (dC (.int 1))) (dCons (dOp dIx (dVar 1) (dVar 2)) dNil)))))) (sRet (dC (.bool false))) sNext) (sSeq (sAsg (dCall dSumOf (dCons (dLc [9] (dSeqI (dOp dIx (dVar 7) (dC (.int 1)))) (bName 9) dYes (dOp dShl (dC (.int 1)) (dVar 9))) dNil)) (bName 8)) (sRet (dAndV (dOp dEq (dOp dAnd (dVar 8) (dVar 4)) (dVar 4)) (dCall dAllOf (dCons (dLc [10] (dSeqI (dVar 3)) (bName 10) dYes (dOrV (dOp dNe (dOp dAnd (dVar 10) (dVar 4)) (dVar 4)) (dOp dEq (dOp dAnd (dVar 10) (dVar 8)) (dVar 8)))) dNil)))))) { nx := fun s => Q .none s.β, rt := Q } ⟨[.sh (tabR n r), .sh (lotsN n), .sh (intN (clo n r c)), .sh (.list (F.map intN)), .sh (intN c), .sh (.bool nm), .sh (lotD (bl c)), .sh (.list [.bool (flatB n r c), lotD (bl (clo n r c))]), .un, .un, .un], β⟩ := fun β _ k => by
    refine ⟨_, rfl, rfl, rfl, rfl, .bool (flatB n r c), ?_, (vb_bool _).rd, .inl ⟨_, rfl⟩, ?_⟩
    · show [PyData.bool (flatB n r c), PyData.bool (PyData.eqv (intN (clo n r c)) (intN c))] = _
      rw [ne_intN]
      rfl
    refine ⟨_, rfl, _, at_map (fun c => lotD (bl c)) lt, rfl, lotD (bl (clo n r c)), rfl, (vb_lot _).rd, is_lot _, ?_⟩
    have bz := bl_len (clo n r c)
    refine .inr ⟨_, rfl, lc_pow (fun _ => rfl) (fun x hx => (mem_bl.mp hx).1) (by omega) ?_⟩
    refine ⟨(bl (clo n r c)).map fun x : Nat => ((2 ^ x : Nat) : Int), by rw [List.map_map]; rfl, ?_⟩
    rw [sum_cast, codeN_bl n9 lt]
    have sb : c &&& clo n r c = c := (f.clo_rank n9 hc).1
    generalize hz : clo n r c = z at *
    refine ⟨rfl, rfl, ?_⟩
    show if PyData.eqv (.int (Builtin.bitAnd (z : Int) (c : Int))) (intN c) = true then _ else _
    rw [bitAnd_nat, ne_intN, Nat.and_comm, decide_eq_true sb, if_pos rfl]
    refine .inl (lcW_m intN (fun _ => .bool true) F (fun g hg R F q => ?_) (szN (by omega)) ?_)
    · obtain ⟨g1, g2⟩ := hF g hg
      refine ⟨rfl, rfl, ?_⟩
      show if (!PyData.eqv (.int (Builtin.bitAnd (g : Int) (c : Int))) (intN c)) = true then R true _ (.bool true) _ else _
      rw [bitAnd_nat, ne_intN]
      by_cases h : g &&& c = c
      · rw [decide_eq_true h, if_neg (by decide)]
        refine ⟨rfl, rfl, ?_⟩
        show R true _ (.bool (PyData.eqv (.int (Builtin.bitAnd (g : Int) (z : Int))) (intN z))) _
        have e : z &&& g = z := hz ▸ clo_up n9 f g1 (show c &&& g = c by rw [Nat.and_comm]; exact h) g2
        rw [bitAnd_nat, ne_intN, Nat.and_comm, decide_eq_true e]
        exact q ⟨_, _⟩
      · rw [decide_eq_false h, if_pos (by decide)]
        exact q ⟨_, _⟩
    · dsimp only [dCall, dCons, dNil]
      refine allOf F (fun _ => true) ?_
      rw [show F.all (fun _ => true) = true by simp]
      exact k
  show if nm = true then _ else _
  split
  · refine ⟨rfl, rfl, rfl, n, r, c, rfl, n9, f, hc, rfl, rfl, rfl, n, r, c, rfl, n9, f, hc, (show 2 ≤ sizeLine by decide), mid β (fun _ => trivial) k⟩
  · refine ⟨rfl, n, r, c, rfl, n9, f, hc, rfl, n, r, c, rfl, n9, f, hc, (show 2 ≤ sizeLine by decide), mid β (fun _ => trivial) k⟩
end PL
namespace PL
open PySem PySem.Spec L2 VS
open PyProof.Rows hiding St

theorem enum_mem : ∀ (xs : List PyData) (k : Nat), ∀ d ∈ enumD k xs, ∃ (i : Nat) (e : PyData), d = .tuple [intN i, e] ∧ e ∈ xs
  | [], _, d, h => nomatch h
  | x :: xs, k, d, h => by
    have h : d ∈ PyData.tuple [.int (k : Int), x] :: enumD (k + 1) xs := h
    rcases List.mem_cons.mp h with rfl | h
    · exact ⟨k, x, rfl, List.mem_cons_self ..⟩
    · obtain ⟨i, e, h1, h2⟩ := enum_mem xs (k + 1) d h
      exact ⟨i, e, h1, List.mem_cons_of_mem _ h2⟩
/-! ### the law -/
abbrev flD (n : Nat) (r : Nat → Nat) : PyData := .list ((flatL n r).map intN)
abbrev fcD (n : Nat) (r : Nat → Nat) : PyData := .tuple ((flatC n r).map fun c => lotD (bl c))
theorem flatL_ok {n : Nat} {r : Nat → Nat} (n9 : n ≤ 9) (f : Rf n r) : flatL n r ≠ [] ∧ (flatL n r).length ≤ 512 ∧ (∀ c ∈ flatL n r, c < 2 ^ n ∧ clo n r c = c) := by
  have p9 := pow9 n9
  have pp := Nat.two_pow_pos n
  refine ⟨?_, ?_, fun c hc => ?_⟩
  · have hc : 2 ^ n - 1 < 2 ^ n := by omega
    have e : clo n r (2 ^ n - 1) = 2 ^ n - 1 := by
      have h1 := (clo_ok n9 r (2 ^ n - 1)).1
      have h2 : (2 ^ n - 1) &&& clo n r (2 ^ n - 1) = 2 ^ n - 1 := (f.clo_rank n9 hc).1
      have h3 : (2 ^ n - 1) &&& clo n r (2 ^ n - 1) ≤ clo n r (2 ^ n - 1) := Nat.and_le_right
      omega
    refine List.ne_nil_of_mem (a := 2 ^ n - 1) (List.mem_filter.mpr ⟨List.mem_range.mpr hc, ?_⟩)
    unfold flatB
    exact decide_eq_true e
  · refine Nat.le_trans (List.length_filter_le _ _) ?_
    rw [List.length_range]
    exact p9
  · obtain ⟨h1, h2⟩ := List.mem_filter.mp hc
    exact ⟨List.mem_range.mp h1, of_decide_eq_true h2⟩
theorem fc_vals {n : Nat} (n9 : n ≤ 9) (r : Nat → Nat) (p : Nat → Bool) : Rd_ (.tuple (((flatC n r).filter p).map fun c => lotD (bl c))) ∧ IsOk (.tuple (((flatC n r).filter p).map fun c => lotD (bl c))) := by
  have few := Nat.le_trans (List.length_filter_le p (flatC n r)) (flatC_few n9 r)
  exact ⟨(vb_lots _ few).rd, is_lots _ few⟩
theorem fc_val {n : Nat} (n9 : n ≤ 9) (r : Nat → Nat) : Rd_ (fcD n r) ∧ IsOk (fcD n r) := ⟨(vb_lots _ (flatC_few n9 r)).rd, is_lots _ (flatC_few n9 r)⟩
theorem filt_two (n : Nat) (r : Nat → Nat) (p : Nat → Bool) : ((flatL n r).filter p).map intN = ((List.range (2 ^ n)).filter fun c => p c && flatB n r c).map intN ∧ (CO n).filter (fun c => p c && flatB n r c) = (flatC n r).filter p := by
  refine ⟨?_, ?_⟩
  · show (((List.range (2 ^ n)).filter (flatB n r)).filter p).map intN = _
    rw [List.filter_filter]
  · show _ = ((CO n).filter (flatB n r)).filter p
    rw [List.filter_filter]
def sp_law : VSp := fun ds β P => ∃ ns : List Int, ds = [scrD ns] ∧ ns.length ≤ 63 ∧ β.on = false ∧ ∀ β', P (.bool true) β'
theorem hd_law (ds : List PyData) (β : Bag) (Q : PyData → Bag → Prop) (hl : ds.length = 1) (h : sp_law ds β Q) : Wk.D_law sp_is sp_aflats sp_asked sp_aright sp_draw sp_frank sp_told sp_askr sp_lclo sp_ltab sp_renm sp_grow sp_llots sp_size sp_own { nx := fun s => Q .none s.β, rt := Q } (initS 23 ds β) := by
  obtain ⟨ns, rfl, hn, off, k⟩ := h
  unfold Wk.D_law
  have last : ∀ (n : Nat) (r g : Nat → Nat) (s5 s6 s12 s14 s15 s16 s17 s18 : Slot) (β : Bag), n ≤ 9 → Rf n r → Rf n g → Rd_ (.list [tabR n r, tabR n g]) → GoodB β → (sSeq (sIf (dNotT (dTru (dFn 2 sp_is (dCons (dFnK sp_aflats [0] 0 1 1 dNil (dCons (dOp dIx (dVar 8) (dC (.int 0))) dNil)) (dCons (dOp dIx (dVar 13) (dC (.int 0))) dNil))))) (sRet (dC (.bool false))) sNext) (sRet (dOp dEq (dCall dReprX (dCons (dVar 8) dNil)) (dVar 9)))) { nx := fun s => Q .none s.β, rt := Q } ⟨[.sh (scrD ns), .sh bagD, .sh (intN n), .sh (lotsN n), .sh (rowD n sz), s5, s6, .sh (.list [rowD n r, rowD n g]), .sh (.list [tabR n r, tabR n g]), .sh (.str (txD (.list [tabR n r, tabR n g]))), .sh (.list [rowD n (clo n r), rowD n (clo n g)]), .sh (.list [flD n r, flD n g]), s12, .sh (.list [fcD n r, fcD n g]), s14, s15, s16, s17, s18, .un, .un, .un, .un], β⟩ := by
    intro n r g s5 s6 s12 s14 s15 s16 s17 s18 β n9 f h gd hb
    refine ⟨_, rfl, rfl, rfl, rfl, n, r, rfl, n9, f, _, rfl, rfl, fcD n r, rfl, (fc_val n9 r).1, (fc_val n9 r).2, ?_⟩
    refine ⟨_, rfl, (rf gd).1, (rf gd).2.1, (rf gd).2.2.1, (rf gd).2.2.2, ⟨sh_tx gd, sh_tx gd, ?_⟩⟩
    show Q (.bool (PyData.eqv (.str (txD (.list [tabR n r, tabR n g]))) (.str (txD (.list [tabR n r, tabR n g]))))) β
    rw [eqv_str]
    exact k β
  have asks : ∀ (n : Nat) (r g : Nat → Nat) (s5 s6 s12 s14 s15 s16 s17 s18 : Slot) (β : Bag), n ≤ 9 → Rf n r → Rf n g → Rd_ (.list [tabR n r, tabR n g]) → GoodB β → (sSeq (sFor (dEnumI (dCons (dFn 3 sp_asked (dCons (dVar 1) (dCons (dVar 2) (dCons (dOp dIx (dVar 11) (dC (.int 0))) dNil)))) dNil)) (bSeq 2 (bCons (bName 17) (bCons (bName 12) bNil))) (sSeq (sAsg (dFn 2 sp_draw (dCons (dVar 1) (dCons (dC (.int 2)) dNil))) (bName 18)) (sSeq (sIf (dNotT (dTru (dFn 6 sp_aright (dCons (dOp dIx (dVar 8) (dVar 18)) (dCons (dVar 3) (dCons (dOp dIx (dOp dIx (dVar 10) (dVar 18)) (dVar 12)) (dCons (dOp dIx (dVar 11) (dVar 18)) (dCons (dVar 12) (dCons (dOp dGt (dVar 17) (dC (.int 4))) dNil))))))))) (sRet (dC (.bool false))) sNext) (sSeq (sAsg (dIf (dTest (dOp dLt (dVar 17) (dC (.int 2)))) (dOp dIx (dVar 11) (dOp dSub (dC (.int 1)) (dVar 18))) (dLst dNil)) (bName 14)) (sIf (dNotT (dTru (dFn 6 sp_aright (dCons (dOp dIx (dVar 8) (dOp dSub (dC (.int 1)) (dVar 18))) (dCons (dVar 3) (dCons (dOp dIx (dOp dIx (dVar 10) (dOp dSub (dC (.int 1)) (dVar 18))) (dVar 12)) (dCons (dVar 14) (dCons (dVar 12) (dCons (dOp dLt (dVar 17) (dC (.int 3))) dNil))))))))) (sRet (dC (.bool false))) sNext))))) (sSeq (sIf (dNotT (dTru (dFn 2 sp_is (dCons (dFnK sp_aflats [0] 0 1 1 dNil (dCons (dOp dIx (dVar 8) (dC (.int 0))) dNil)) (dCons (dOp dIx (dVar 13) (dC (.int 0))) dNil))))) (sRet (dC (.bool false))) sNext) (sRet (dOp dEq (dCall dReprX (dCons (dVar 8) dNil)) (dVar 9))))) { nx := fun s => Q .none s.β, rt := Q } ⟨[.sh (scrD ns), .sh bagD, .sh (intN n), .sh (lotsN n), .sh (rowD n sz), s5, s6, .sh (.list [rowD n r, rowD n g]), .sh (.list [tabR n r, tabR n g]), .sh (.str (txD (.list [tabR n r, tabR n g]))), .sh (.list [rowD n (clo n r), rowD n (clo n g)]), .sh (.list [flD n r, flD n g]), s12, .sh (.list [fcD n r, fcD n g]), s14, s15, s16, s17, s18, .un, .un, .un, .un], β⟩ := by
    intro n r g s5 s6 s12 s14 s15 s16 s17 s18 β n9 f h gd hb
    have p9 := pow9 n9
    obtain ⟨l1, l2, l3⟩ := flatL_ok n9 f
    refine ⟨_, rfl, rfl, n, flatL n r, rfl, n9, l1, l2, fun c hc => (l3 c hc).1, hb, fun M β1 hM hl1 hb1 => ?_⟩
    refine forW_d (fun s => ∃ (s12 s14 s17 s18 : Slot) (β : Bag), GoodB β ∧ s = ⟨[.sh (scrD ns), .sh bagD, .sh (intN n), .sh (lotsN n), .sh (rowD n sz), s5, s6, .sh (.list [rowD n r, rowD n g]), .sh (.list [tabR n r, tabR n g]), .sh (.str (txD (.list [tabR n r, tabR n g]))), .sh (.list [rowD n (clo n r), rowD n (clo n g)]), .sh (.list [flD n r, flD n g]), s12, .sh (.list [fcD n r, fcD n g]), s14, s15, s16, s17, s18, .un, .un, .un, .un], β⟩) (enumD 0 (M.map intN)) _ ⟨_, _, _, _, β1, hb1, rfl⟩ ?_ ?_
    · rintro _ ⟨s12, s14, s17, s18, β, hb, rfl⟩
      exact last n r g s5 s6 s12 s14 s15 s16 s17 s18 β n9 f h gd hb
    · rintro d hd _ ⟨s12, s14, s17, s18, β, hb, rfl⟩ D' _ hD
      obtain ⟨i, e, rfl, he⟩ := enum_mem _ 0 d hd
      obtain ⟨c, hc, rfl⟩ := List.mem_map.mp he
      have hc := hM c hc
      refine ⟨rfl, rfl, (2 : Int), rfl, by decide, by decide, hb, fun u β1 u0 u2 hb1 => ?_⟩
      obtain ⟨x, y, fx, fy, ix⟩ : ∃ x y : Nat → Nat, Rf n x ∧ Rf n y ∧ ∀ F : (Nat → Nat) → PyData, L2.atI [F r, F g] u = some (F x) ∧ L2.atI [F r, F g] (1 - u) = some (F y) := by
        rcases (show u = 0 ∨ u = 1 by omega) with rfl | rfl
        · exact ⟨r, g, f, h, fun F => ⟨rfl, rfl⟩⟩
        · exact ⟨g, r, h, f, fun F => ⟨rfl, rfl⟩⟩
      obtain ⟨x1, x2, x3⟩ := flatL_ok n9 fx
      obtain ⟨y1, y2, y3⟩ := flatL_ok n9 fy
      refine ⟨_, (ix (tabR n)).1, _, (ix fun x => rowD n (clo n x)).1, _, at_map (fun c => intN (clo n x c)) hc, _, (ix (flD n)).1, rfl, n, x, c, flatL n x, _, rfl, n9, fx, hc, x2, x3, ?_⟩
      have fin : ∀ F : List Nat, F.length ≤ 512 → (∀ g ∈ F, g < 2 ^ n ∧ clo n y g = g) → (sIf (dNotT (dTru (dFn 6 sp_aright (dCons (dOp dIx (dVar 8) (dOp dSub (dC (.int 1)) (dVar 18))) (dCons (dVar 3) (dCons (dOp dIx (dOp dIx (dVar 10) (dOp dSub (dC (.int 1)) (dVar 18))) (dVar 12)) (dCons (dVar 14) (dCons (dVar 12) (dCons (dOp dLt (dVar 17) (dC (.int 3))) dNil))))))))) (sRet (dC (.bool false))) sNext) D' ⟨[.sh (scrD ns), .sh bagD, .sh (intN n), .sh (lotsN n), .sh (rowD n sz), s5, s6, .sh (.list [rowD n r, rowD n g]), .sh (.list [tabR n r, tabR n g]), .sh (.str (txD (.list [tabR n r, tabR n g]))), .sh (.list [rowD n (clo n r), rowD n (clo n g)]), .sh (.list [flD n r, flD n g]), .sh (intN c), .sh (.list [fcD n r, fcD n g]), .sh (.list (F.map intN)), s15, s16, .sh (intN i), .sh (.int u), .un, .un, .un, .un], β1⟩ := fun F hF1 hF2 => by
        refine ⟨_, (ix (tabR n)).2, _, (ix fun x => rowD n (clo n x)).2, _, at_map (fun c => intN (clo n y c)) hc, rfl, n, y, c, F, _, rfl, n9, fy, hc, hF1, hF2, ?_⟩
        exact hD _ ⟨_, _, _, _, β1, hb1, rfl⟩
      show if decide ((i : Int) < 2) = true then _ else _
      split
      · exact ⟨_, (ix (flD n)).2, fin _ y2 y3⟩
      · exact ⟨(show 0 ≤ sizeLine by decide), fin [] (by decide) (fun _ h => nomatch h)⟩
  have second : ∀ (n : Nat) (r g : Nat → Nat) (s5 s6 s12 s14 s15 s16 s17 s18 : Slot) (β : Bag), n ≤ 9 → Rf n r → Rf n g → Rd_ (.list [tabR n r, tabR n g]) → GoodB β → (sSeq (sAsg (dFn 2 sp_draw (dCons (dVar 1) (dCons (dOp dAdd (dOp dIx (dOp dIx (dVar 7) (dC (.int 1))) (dNeg (dC (.int 1)))) (dC (.int 1))) dNil))) (bName 15)) (sSeq (sAsg (dFn 2 sp_told (dCons (dVar 3) (dCons (dLc [12] (dSeqI (dOp dIx (dVar 11) (dC (.int 1)))) (bName 12) (dTest (dOp dEq (dOp dIx (dOp dIx (dVar 7) (dC (.int 1))) (dVar 12)) (dVar 15))) (dVar 12)) dNil))) (bName 16)) (sSeq (sIf (dNotT (dTru (dFn 2 sp_is (dCons (dFnK sp_frank [0, 1] 0 2 2 dNil (dCons (dOp dIx (dVar 8) (dC (.int 1))) (dCons (dVar 15) dNil))) (dCons (dVar 16) dNil))))) (sRet (dC (.bool false))) sNext) (sSeq (sFor (dEnumI (dCons (dFn 3 sp_asked (dCons (dVar 1) (dCons (dVar 2) (dCons (dOp dIx (dVar 11) (dC (.int 0))) dNil)))) dNil)) (bSeq 2 (bCons (bName 17) (bCons (bName 12) bNil))) (sSeq (sAsg (dFn 2 sp_draw (dCons (dVar 1) (dCons (dC (.int 2)) dNil))) (bName 18)) (sSeq (sIf (dNotT (dTru (dFn 6 sp_aright (dCons (dOp dIx (dVar 8) (dVar 18)) (dCons (dVar 3) (dCons (dOp dIx (dOp dIx (dVar 10) (dVar 18)) (dVar 12)) (dCons (dOp dIx (dVar 11) (dVar 18)) (dCons (dVar 12) (dCons (dOp dGt (dVar 17) (dC (.int 4))) dNil))))))))) (sRet (dC (.bool false))) sNext) (sSeq (sAsg (dIf (dTest (dOp dLt (dVar 17) (dC (.int 2)))) (dOp dIx (dVar 11) (dOp dSub (dC (.int 1)) (dVar 18))) (dLst dNil)) (bName 14)) (sIf (dNotT (dTru (dFn 6 sp_aright (dCons (dOp dIx (dVar 8) (dOp dSub (dC (.int 1)) (dVar 18))) (dCons (dVar 3) (dCons (dOp dIx (dOp dIx (dVar 10) (dOp dSub (dC (.int 1)) (dVar 18))) (dVar 12)) (dCons (dVar 14) (dCons (dVar 12) (dCons (dOp dLt (dVar 17) (dC (.int 3))) dNil))))))))) (sRet (dC (.bool false))) sNext))))) (sSeq (sIf (dNotT (dTru (dFn 2 sp_is (dCons (dFnK sp_aflats [0] 0 1 1 dNil (dCons (dOp dIx (dVar 8) (dC (.int 0))) dNil)) (dCons (dOp dIx (dVar 13) (dC (.int 0))) dNil))))) (sRet (dC (.bool false))) sNext) (sRet (dOp dEq (dCall dReprX (dCons (dVar 8) dNil)) (dVar 9)))))))) { nx := fun s => Q .none s.β, rt := Q } ⟨[.sh (scrD ns), .sh bagD, .sh (intN n), .sh (lotsN n), .sh (rowD n sz), s5, s6, .sh (.list [rowD n r, rowD n g]), .sh (.list [tabR n r, tabR n g]), .sh (.str (txD (.list [tabR n r, tabR n g]))), .sh (.list [rowD n (clo n r), rowD n (clo n g)]), .sh (.list [flD n r, flD n g]), s12, .sh (.list [fcD n r, fcD n g]), s14, s15, s16, s17, s18, .un, .un, .un, .un], β⟩ := by
    intro n r g s5 s6 s12 s14 s15 s16 s17 s18 β n9 f h gd hb
    have p9 := pow9 n9
    have pp := Nat.two_pow_pos n
    obtain ⟨l1, l2, l3⟩ := flatL_ok n9 h
    have hr : g (2 ^ n - 1) ≤ 9 := Nat.le_trans (h.le n9 (by omega)) (bl_len _)
    refine ⟨_, rfl, _, atI_lastR (fun c => intN (g c)) pp, ?_⟩
    show [bagD, PyData.int (((g (2 ^ n - 1) : Nat) : Int) + 1)].length = 2 ∧ sp_draw [bagD, .int (((g (2 ^ n - 1) : Nat) : Int) + 1)] β _
    rw [show ((g (2 ^ n - 1) : Nat) : Int) + 1 = ((g (2 ^ n - 1) + 1 : Nat) : Int) by omega]
    refine ⟨rfl, hd_drawN (by omega) (by omega) hb fun m β1 hm hb1 => ?_⟩
    refine .inl ⟨_, rfl, lcW_keep intN (fun c => decide (g c = m)) (flatL n g) (fun c hc R F q => ?_) (szN (by omega)) ?_⟩
    · refine ⟨_, rfl, _, at_map (fun c => intN (g c)) (l3 c hc).1, rfl, rfl, ?_⟩
      show if PyData.eqv (intN (g c)) (intN m) = true then _ else _
      rw [ne_intN]
      exact q ⟨_, _⟩
    rw [(filt_two n g fun c => decide (g c = m)).1]
    refine ⟨rfl, n, fun c => decide (g c = m) && flatB n g c, rfl, n9, ?_⟩
    rw [(filt_two n g fun c => decide (g c = m)).2]
    obtain ⟨v1, v2⟩ := fc_vals n9 g fun c => decide (g c = m)
    refine ⟨_, rfl, rfl, rfl, rfl, n, g, m, rfl, n9, h, rfl, _, rfl, v1, v2, ?_⟩
    exact asks n r g s5 s6 _ s14 _ _ s17 s18 β1 n9 f h gd hb1
  have firsts : ∀ (n : Nat) (r g : Nat → Nat) (s5 s6 s12 s14 s15 s16 s17 s18 : Slot) (β : Bag), n ≤ 9 → Rf n r → Rf n g → Rd_ (.list [tabR n r, tabR n g]) → GoodB β → (sSeq (sFor (dSeqI (dFn 3 sp_askr (dCons (dVar 1) (dCons (dVar 2) (dCons (dOp dIx (dOp dIx (dVar 7) (dC (.int 0))) (dNeg (dC (.int 1)))) dNil))))) (bName 15) (sSeq (sAsg (dFn 2 sp_told (dCons (dVar 3) (dCons (dLc [12] (dSeqI (dOp dIx (dVar 11) (dC (.int 0)))) (bName 12) (dTest (dOp dEq (dOp dIx (dOp dIx (dVar 7) (dC (.int 0))) (dVar 12)) (dVar 15))) (dVar 12)) dNil))) (bName 16)) (sIf (dNotT (dTru (dFn 2 sp_is (dCons (dFn 2 sp_frank (dCons (dOp dIx (dVar 8) (dC (.int 0))) (dCons (dVar 15) dNil))) (dCons (dVar 16) dNil))))) (sRet (dC (.bool false))) sNext))) (sSeq (sAsg (dFn 2 sp_draw (dCons (dVar 1) (dCons (dOp dAdd (dOp dIx (dOp dIx (dVar 7) (dC (.int 1))) (dNeg (dC (.int 1)))) (dC (.int 1))) dNil))) (bName 15)) (sSeq (sAsg (dFn 2 sp_told (dCons (dVar 3) (dCons (dLc [12] (dSeqI (dOp dIx (dVar 11) (dC (.int 1)))) (bName 12) (dTest (dOp dEq (dOp dIx (dOp dIx (dVar 7) (dC (.int 1))) (dVar 12)) (dVar 15))) (dVar 12)) dNil))) (bName 16)) (sSeq (sIf (dNotT (dTru (dFn 2 sp_is (dCons (dFnK sp_frank [0, 1] 0 2 2 dNil (dCons (dOp dIx (dVar 8) (dC (.int 1))) (dCons (dVar 15) dNil))) (dCons (dVar 16) dNil))))) (sRet (dC (.bool false))) sNext) (sSeq (sFor (dEnumI (dCons (dFn 3 sp_asked (dCons (dVar 1) (dCons (dVar 2) (dCons (dOp dIx (dVar 11) (dC (.int 0))) dNil)))) dNil)) (bSeq 2 (bCons (bName 17) (bCons (bName 12) bNil))) (sSeq (sAsg (dFn 2 sp_draw (dCons (dVar 1) (dCons (dC (.int 2)) dNil))) (bName 18)) (sSeq (sIf (dNotT (dTru (dFn 6 sp_aright (dCons (dOp dIx (dVar 8) (dVar 18)) (dCons (dVar 3) (dCons (dOp dIx (dOp dIx (dVar 10) (dVar 18)) (dVar 12)) (dCons (dOp dIx (dVar 11) (dVar 18)) (dCons (dVar 12) (dCons (dOp dGt (dVar 17) (dC (.int 4))) dNil))))))))) (sRet (dC (.bool false))) sNext) (sSeq (sAsg (dIf (dTest (dOp dLt (dVar 17) (dC (.int 2)))) (dOp dIx (dVar 11) (dOp dSub (dC (.int 1)) (dVar 18))) (dLst dNil)) (bName 14)) (sIf (dNotT (dTru (dFn 6 sp_aright (dCons (dOp dIx (dVar 8) (dOp dSub (dC (.int 1)) (dVar 18))) (dCons (dVar 3) (dCons (dOp dIx (dOp dIx (dVar 10) (dOp dSub (dC (.int 1)) (dVar 18))) (dVar 12)) (dCons (dVar 14) (dCons (dVar 12) (dCons (dOp dLt (dVar 17) (dC (.int 3))) dNil))))))))) (sRet (dC (.bool false))) sNext))))) (sSeq (sIf (dNotT (dTru (dFn 2 sp_is (dCons (dFnK sp_aflats [0] 0 1 1 dNil (dCons (dOp dIx (dVar 8) (dC (.int 0))) dNil)) (dCons (dOp dIx (dVar 13) (dC (.int 0))) dNil))))) (sRet (dC (.bool false))) sNext) (sRet (dOp dEq (dCall dReprX (dCons (dVar 8) dNil)) (dVar 9))))))))) { nx := fun s => Q .none s.β, rt := Q } ⟨[.sh (scrD ns), .sh bagD, .sh (intN n), .sh (lotsN n), .sh (rowD n sz), s5, s6, .sh (.list [rowD n r, rowD n g]), .sh (.list [tabR n r, tabR n g]), .sh (.str (txD (.list [tabR n r, tabR n g]))), .sh (.list [rowD n (clo n r), rowD n (clo n g)]), .sh (.list [flD n r, flD n g]), s12, .sh (.list [fcD n r, fcD n g]), s14, s15, s16, s17, s18, .un, .un, .un, .un], β⟩ := by
    intro n r g s5 s6 s12 s14 s15 s16 s17 s18 β n9 f h gd hb
    have p9 := pow9 n9
    have pp := Nat.two_pow_pos n
    obtain ⟨l1, l2, l3⟩ := flatL_ok n9 f
    have hr : r (2 ^ n - 1) ≤ 9 := Nat.le_trans (f.le n9 (by omega)) (bl_len _)
    refine .inl ⟨_, rfl, _, atI_lastR (fun c => intN (r c)) pp, rfl, n, r (2 ^ n - 1), rfl, hr, hb, fun M β1 hM hb1 => ?_⟩
    refine forW_all intN (fun s => ∃ (s12 s15 s16 : Slot) (β : Bag), GoodB β ∧ s = ⟨[.sh (scrD ns), .sh bagD, .sh (intN n), .sh (lotsN n), .sh (rowD n sz), s5, s6, .sh (.list [rowD n r, rowD n g]), .sh (.list [tabR n r, tabR n g]), .sh (.str (txD (.list [tabR n r, tabR n g]))), .sh (.list [rowD n (clo n r), rowD n (clo n g)]), .sh (.list [flD n r, flD n g]), s12, .sh (.list [fcD n r, fcD n g]), s14, s15, s16, s17, s18, .un, .un, .un, .un], β⟩) M _ ⟨_, _, _, β1, hb1, rfl⟩ ?_ ?_
    · rintro _ ⟨s12, s15, s16, β, hb, rfl⟩
      exact second n r g s5 s6 s12 s14 s15 s16 s17 s18 β n9 f h gd hb
    · rintro m hm _ ⟨s12, s15, s16, β, hb, rfl⟩ D' _ hD
      refine .inl ⟨_, rfl, lcW_keep intN (fun c => decide (r c = m)) (flatL n r) (fun c hc R F q => ?_) (szN (by omega)) ?_⟩
      · refine ⟨_, rfl, _, at_map (fun c => intN (r c)) (l3 c hc).1, rfl, rfl, ?_⟩
        show if PyData.eqv (intN (r c)) (intN m) = true then _ else _
        rw [ne_intN]
        exact q ⟨_, _⟩
      rw [(filt_two n r fun c => decide (r c = m)).1]
      refine ⟨rfl, n, fun c => decide (r c = m) && flatB n r c, rfl, n9, ?_⟩
      rw [(filt_two n r fun c => decide (r c = m)).2]
      obtain ⟨v1, v2⟩ := fc_vals n9 r fun c => decide (r c = m)
      refine ⟨_, rfl, rfl, n, r, m, rfl, n9, f, rfl, _, rfl, v1, v2, ?_⟩
      exact hD _ ⟨_, _, _, β, hb, rfl⟩
  have tabs : ∀ (n : Nat) (r g : Nat → Nat) (s5 s6 : Slot) (β : Bag), n ≤ 9 → Rf n r → Rf n g → GoodB β → (sSeq (sAsg (dLc [20] (dSeqI (dVar 7)) (bName 20) dYes (dFn 3 sp_ltab (dCons (dVar 2) (dCons (dVar 3) (dCons (dVar 20) dNil))))) (bName 8)) (sSeq (sAsg (dCall dReprX (dCons (dVar 8) dNil)) (bName 9)) (sSeq (sAsg (dLc [20] (dSeqI (dVar 7)) (bName 20) dYes (dFn 2 sp_lclo (dCons (dVar 2) (dCons (dVar 20) dNil)))) (bName 10)) (sSeq (sAsg (dLc [21] (dSeqI (dVar 10)) (bName 21) dYes (dLc [12, 22] (dEnumI (dCons (dVar 21) dNil)) (bSeq 2 (bCons (bName 12) (bCons (bName 22) bNil))) (dTest (dOp dEq (dVar 12) (dVar 22))) (dVar 12))) (bName 11)) (sSeq (sAsg (dLc [14] (dSeqI (dVar 11)) (bName 14) dYes (dFn 2 sp_told (dCons (dVar 3) (dCons (dVar 14) dNil)))) (bName 13)) (sSeq (sIf (dOrT (dNotT (dTru (dFn 2 sp_is (dCons (dFn 1 sp_aflats (dCons (dOp dIx (dVar 8) (dC (.int 0))) dNil)) (dCons (dOp dIx (dVar 13) (dC (.int 0))) dNil))))) (dNotT (dTru (dFn 2 sp_is (dCons (dFn 1 sp_aflats (dCons (dOp dIx (dVar 8) (dC (.int 1))) dNil)) (dCons (dOp dIx (dVar 13) (dC (.int 1))) dNil)))))) (sRet (dC (.bool false))) sNext) (sSeq (sFor (dSeqI (dFn 3 sp_askr (dCons (dVar 1) (dCons (dVar 2) (dCons (dOp dIx (dOp dIx (dVar 7) (dC (.int 0))) (dNeg (dC (.int 1)))) dNil))))) (bName 15) (sSeq (sAsg (dFn 2 sp_told (dCons (dVar 3) (dCons (dLc [12] (dSeqI (dOp dIx (dVar 11) (dC (.int 0)))) (bName 12) (dTest (dOp dEq (dOp dIx (dOp dIx (dVar 7) (dC (.int 0))) (dVar 12)) (dVar 15))) (dVar 12)) dNil))) (bName 16)) (sIf (dNotT (dTru (dFn 2 sp_is (dCons (dFn 2 sp_frank (dCons (dOp dIx (dVar 8) (dC (.int 0))) (dCons (dVar 15) dNil))) (dCons (dVar 16) dNil))))) (sRet (dC (.bool false))) sNext))) (sSeq (sAsg (dFn 2 sp_draw (dCons (dVar 1) (dCons (dOp dAdd (dOp dIx (dOp dIx (dVar 7) (dC (.int 1))) (dNeg (dC (.int 1)))) (dC (.int 1))) dNil))) (bName 15)) (sSeq (sAsg (dFn 2 sp_told (dCons (dVar 3) (dCons (dLc [12] (dSeqI (dOp dIx (dVar 11) (dC (.int 1)))) (bName 12) (dTest (dOp dEq (dOp dIx (dOp dIx (dVar 7) (dC (.int 1))) (dVar 12)) (dVar 15))) (dVar 12)) dNil))) (bName 16)) (sSeq (sIf (dNotT (dTru (dFn 2 sp_is (dCons (dFnK sp_frank [0, 1] 0 2 2 dNil (dCons (dOp dIx (dVar 8) (dC (.int 1))) (dCons (dVar 15) dNil))) (dCons (dVar 16) dNil))))) (sRet (dC (.bool false))) sNext) (sSeq (sFor (dEnumI (dCons (dFn 3 sp_asked (dCons (dVar 1) (dCons (dVar 2) (dCons (dOp dIx (dVar 11) (dC (.int 0))) dNil)))) dNil)) (bSeq 2 (bCons (bName 17) (bCons (bName 12) bNil))) (sSeq (sAsg (dFn 2 sp_draw (dCons (dVar 1) (dCons (dC (.int 2)) dNil))) (bName 18)) (sSeq (sIf (dNotT (dTru (dFn 6 sp_aright (dCons (dOp dIx (dVar 8) (dVar 18)) (dCons (dVar 3) (dCons (dOp dIx (dOp dIx (dVar 10) (dVar 18)) (dVar 12)) (dCons (dOp dIx (dVar 11) (dVar 18)) (dCons (dVar 12) (dCons (dOp dGt (dVar 17) (dC (.int 4))) dNil))))))))) (sRet (dC (.bool false))) sNext) (sSeq (sAsg (dIf (dTest (dOp dLt (dVar 17) (dC (.int 2)))) (dOp dIx (dVar 11) (dOp dSub (dC (.int 1)) (dVar 18))) (dLst dNil)) (bName 14)) (sIf (dNotT (dTru (dFn 6 sp_aright (dCons (dOp dIx (dVar 8) (dOp dSub (dC (.int 1)) (dVar 18))) (dCons (dVar 3) (dCons (dOp dIx (dOp dIx (dVar 10) (dOp dSub (dC (.int 1)) (dVar 18))) (dVar 12)) (dCons (dVar 14) (dCons (dVar 12) (dCons (dOp dLt (dVar 17) (dC (.int 3))) dNil))))))))) (sRet (dC (.bool false))) sNext))))) (sSeq (sIf (dNotT (dTru (dFn 2 sp_is (dCons (dFnK sp_aflats [0] 0 1 1 dNil (dCons (dOp dIx (dVar 8) (dC (.int 0))) dNil)) (dCons (dOp dIx (dVar 13) (dC (.int 0))) dNil))))) (sRet (dC (.bool false))) sNext) (sRet (dOp dEq (dCall dReprX (dCons (dVar 8) dNil)) (dVar 9))))))))))))))) { nx := fun s => Q .none s.β, rt := Q } ⟨[.sh (scrD ns), .sh bagD, .sh (intN n), .sh (lotsN n), .sh (rowD n sz), s5, s6, .sh (.list [rowD n r, rowD n g]), .un, .un, .un, .un, .un, .un, .un, .un, .un, .un, .un, .un, .un, .un, .un], β⟩ := by
    intro n r g s5 s6 β n9 f h hb
    have p9 := pow9 n9
    have gd : Rd_ (.list [tabR n r, tabR n g]) := (vb_lst (k := 5) (m := 400000) 2 (fc (vb_tabR n9 r) (fc (vb_tabR n9 g) fn)) (by simp)).rd
    refine .inl ?_
    unfold dItL
    refine var_sh (d := .list [rowD n r, rowD n g]) rfl ?_
    refine (lcW_m (rowD n) (tabR n) [r, g] (fun x hx R F q => ⟨rfl, n, x, rfl, n9, q ⟨_, _⟩⟩) (show 2 ≤ sizeLine by decide) ?_)
    refine ⟨_, rfl, (rf gd).1, (rf gd).2.1, (rf gd).2.2.1, (rf gd).2.2.2, ?_⟩
    refine .inl ?_
    unfold dItL
    refine var_sh (d := .list [rowD n r, rowD n g]) rfl ?_
    refine (lcW_m (rowD n) (fun x => rowD n (clo n x)) [r, g] (fun x hx R F q => ⟨rfl, n, x, rfl, n9, q ⟨_, _⟩⟩) (show 2 ≤ sizeLine by decide) ?_)
    refine .inl ?_
    unfold dItL
    refine var_sh (d := .list [rowD n (clo n r), rowD n (clo n g)]) rfl ?_
    refine (lcW_m (fun x => rowD n (clo n x)) (flD n) [r, g] (fun x hx R F q => ?_) (show 2 ≤ sizeLine by decide) ?_)
    · show lcW _ _ _ _ _ _ (enumD 0 ((List.range (2 ^ n)).map fun c => intN (clo n x c))) _ _
      rw [enum_map (2 ^ n) fun c => intN (clo n x c)]
      refine lcW_km (fun c => PyData.tuple [intN c, intN (clo n x c)]) intN (flatB n x) (List.range (2 ^ n)) (fun c hc R F q => ?_) (szN (by rw [List.length_range]; omega)) (q ⟨_, _⟩)
      refine ⟨rfl, rfl, rfl, ?_⟩
      show if PyData.eqv (intN c) (intN (clo n x c)) = true then _ else _
      rw [ne_intN]
      have e : decide (c = clo n x c) = flatB n x c := by
        unfold flatB
        rw [Bool.eq_iff_iff, decide_eq_true_eq, decide_eq_true_eq]
        exact eq_comm
      rw [e]
      exact q ⟨_, _⟩
    refine .inl ?_
    unfold dItL
    refine var_sh (d := .list [flD n r, flD n g]) rfl ?_
    refine (lcW_m (flD n) (fcD n) [r, g] (fun x hx R F q => ⟨rfl, n, flatB n x, rfl, n9, q ⟨_, _⟩⟩) (show 2 ≤ sizeLine by decide) ?_)
    refine ⟨_, rfl, rfl, n, r, rfl, n9, f, _, rfl, rfl, _, rfl, (fc_val n9 r).1, (fc_val n9 r).2, ?_⟩
    refine ⟨_, rfl, rfl, n, g, rfl, n9, h, _, rfl, rfl, _, rfl, (fc_val n9 g).1, (fc_val n9 g).2, ?_⟩
    exact firsts n r g s5 s6 _ _ _ _ _ _ β n9 f h gd hb
  refine ⟨rfl, ns, rfl, hn, off, fun β1 hb1 => ⟨rfl, rfl, hb1, fun n β2 n9 hb2 => ⟨rfl, n, rfl, n9, ?_⟩⟩⟩
  have p9 := pow9 n9
  refine .inl (lcW_m (fun c => lotD (bl c)) (fun c => intN (sz c)) (List.range (2 ^ n)) (fun c hc R F q => ?_) (szN (by rw [List.length_range]; omega)) ?_)
  · have e : intN (sz c) = .int (((bl c).map fun (x : Nat) => PyData.int (x : Int)).length : Int) := by
      rw [List.length_map]
      rfl
    rw [e] at q
    exact q ⟨_, _⟩
  refine ⟨rfl, n, rfl, n9, hb2, fun r β3 f hb3 => ?_⟩
  have named : ∀ (nm : Bool) (β : Bag), GoodB β → (sSeq (sAsg (dLst (dCons (dVar 5) (dCons (dIf (dTru (dVar 6)) (dFn 3 sp_renm (dCons (dVar 1) (dCons (dVar 2) (dCons (dVar 5) dNil)))) (dFn 3 sp_grow (dCons (dVar 1) (dCons (dVar 2) (dCons (dVar 4) dNil))))) dNil))) (bName 7)) (sSeq (sAsg (dLc [20] (dSeqI (dVar 7)) (bName 20) dYes (dFn 3 sp_ltab (dCons (dVar 2) (dCons (dVar 3) (dCons (dVar 20) dNil))))) (bName 8)) (sSeq (sAsg (dCall dReprX (dCons (dVar 8) dNil)) (bName 9)) (sSeq (sAsg (dLc [20] (dSeqI (dVar 7)) (bName 20) dYes (dFn 2 sp_lclo (dCons (dVar 2) (dCons (dVar 20) dNil)))) (bName 10)) (sSeq (sAsg (dLc [21] (dSeqI (dVar 10)) (bName 21) dYes (dLc [12, 22] (dEnumI (dCons (dVar 21) dNil)) (bSeq 2 (bCons (bName 12) (bCons (bName 22) bNil))) (dTest (dOp dEq (dVar 12) (dVar 22))) (dVar 12))) (bName 11)) (sSeq (sAsg (dLc [14] (dSeqI (dVar 11)) (bName 14) dYes (dFn 2 sp_told (dCons (dVar 3) (dCons (dVar 14) dNil)))) (bName 13)) (sSeq (sIf (dOrT (dNotT (dTru (dFn 2 sp_is (dCons (dFn 1 sp_aflats (dCons (dOp dIx (dVar 8) (dC (.int 0))) dNil)) (dCons (dOp dIx (dVar 13) (dC (.int 0))) dNil))))) (dNotT (dTru (dFn 2 sp_is (dCons (dFn 1 sp_aflats (dCons (dOp dIx (dVar 8) (dC (.int 1))) dNil)) (dCons (dOp dIx (dVar 13) (dC (.int 1))) dNil)))))) (sRet (dC (.bool false))) sNext) (sSeq (sFor (dSeqI (dFn 3 sp_askr (dCons (dVar 1) (dCons (dVar 2) (dCons (dOp dIx (dOp dIx (dVar 7) (dC (.int 0))) (dNeg (dC (.int 1)))) dNil))))) (bName 15) (sSeq (sAsg (dFn 2 sp_told (dCons (dVar 3) (dCons (dLc [12] (dSeqI (dOp dIx (dVar 11) (dC (.int 0)))) (bName 12) (dTest (dOp dEq (dOp dIx (dOp dIx (dVar 7) (dC (.int 0))) (dVar 12)) (dVar 15))) (dVar 12)) dNil))) (bName 16)) (sIf (dNotT (dTru (dFn 2 sp_is (dCons (dFn 2 sp_frank (dCons (dOp dIx (dVar 8) (dC (.int 0))) (dCons (dVar 15) dNil))) (dCons (dVar 16) dNil))))) (sRet (dC (.bool false))) sNext))) (sSeq (sAsg (dFn 2 sp_draw (dCons (dVar 1) (dCons (dOp dAdd (dOp dIx (dOp dIx (dVar 7) (dC (.int 1))) (dNeg (dC (.int 1)))) (dC (.int 1))) dNil))) (bName 15)) (sSeq (sAsg (dFn 2 sp_told (dCons (dVar 3) (dCons (dLc [12] (dSeqI (dOp dIx (dVar 11) (dC (.int 1)))) (bName 12) (dTest (dOp dEq (dOp dIx (dOp dIx (dVar 7) (dC (.int 1))) (dVar 12)) (dVar 15))) (dVar 12)) dNil))) (bName 16)) (sSeq (sIf (dNotT (dTru (dFn 2 sp_is (dCons (dFnK sp_frank [0, 1] 0 2 2 dNil (dCons (dOp dIx (dVar 8) (dC (.int 1))) (dCons (dVar 15) dNil))) (dCons (dVar 16) dNil))))) (sRet (dC (.bool false))) sNext) (sSeq (sFor (dEnumI (dCons (dFn 3 sp_asked (dCons (dVar 1) (dCons (dVar 2) (dCons (dOp dIx (dVar 11) (dC (.int 0))) dNil)))) dNil)) (bSeq 2 (bCons (bName 17) (bCons (bName 12) bNil))) (sSeq (sAsg (dFn 2 sp_draw (dCons (dVar 1) (dCons (dC (.int 2)) dNil))) (bName 18)) (sSeq (sIf (dNotT (dTru (dFn 6 sp_aright (dCons (dOp dIx (dVar 8) (dVar 18)) (dCons (dVar 3) (dCons (dOp dIx (dOp dIx (dVar 10) (dVar 18)) (dVar 12)) (dCons (dOp dIx (dVar 11) (dVar 18)) (dCons (dVar 12) (dCons (dOp dGt (dVar 17) (dC (.int 4))) dNil))))))))) (sRet (dC (.bool false))) sNext) (sSeq (sAsg (dIf (dTest (dOp dLt (dVar 17) (dC (.int 2)))) (dOp dIx (dVar 11) (dOp dSub (dC (.int 1)) (dVar 18))) (dLst dNil)) (bName 14)) (sIf (dNotT (dTru (dFn 6 sp_aright (dCons (dOp dIx (dVar 8) (dOp dSub (dC (.int 1)) (dVar 18))) (dCons (dVar 3) (dCons (dOp dIx (dOp dIx (dVar 10) (dOp dSub (dC (.int 1)) (dVar 18))) (dVar 12)) (dCons (dVar 14) (dCons (dVar 12) (dCons (dOp dLt (dVar 17) (dC (.int 3))) dNil))))))))) (sRet (dC (.bool false))) sNext))))) (sSeq (sIf (dNotT (dTru (dFn 2 sp_is (dCons (dFnK sp_aflats [0] 0 1 1 dNil (dCons (dOp dIx (dVar 8) (dC (.int 0))) dNil)) (dCons (dOp dIx (dVar 13) (dC (.int 0))) dNil))))) (sRet (dC (.bool false))) sNext) (sRet (dOp dEq (dCall dReprX (dCons (dVar 8) dNil)) (dVar 9)))))))))))))))) { nx := fun s => Q .none s.β, rt := Q } ⟨[.sh (scrD ns), .sh bagD, .sh (intN n), .sh (lotsN n), .sh (rowD n sz), .sh (rowD n r), .sh (.bool nm), .un, .un, .un, .un, .un, .un, .un, .un, .un, .un, .un, .un, .un, .un, .un, .un], β⟩ := by
    intro nm β hb
    show if nm = true then _ else _
    split
    · exact ⟨rfl, n, r, rfl, n9, f, hb, fun g β4 h hb4 => ⟨(show 2 ≤ sizeLine by decide), tabs n r g _ _ β4 n9 f h hb4⟩⟩
    · exact ⟨rfl, n, rfl, n9, hb, fun g β4 h hb4 => ⟨(show 2 ≤ sizeLine by decide), tabs n r g _ _ β4 n9 f h hb4⟩⟩
  show if decide (6 < (n : Int)) = true then _ else _
  split
  · exact named true β3 hb3
  · exact ⟨rfl, (2 : Int), rfl, by decide, by decide, hb3, fun u β4 _ _ hb4 => ⟨rfl, rfl, named _ β4 hb4⟩⟩
end PL
namespace PL
open PySem PySem.Spec L2 VS
open PyProof.Rows hiding St
theorem FunD_uniq {K : PySem.W.Frag} {x : Str} {st : Stmt} {f : Addr} {fd fd' : FuncData} (a : FunD K x x (defArgs st) (defBody st) (defScope st) [] [] f fd) (b : FunD K x x (defArgs st) (defBody st) (defScope st) [] [] f fd') : fd = fd' := by
  obtain ⟨_, _, _, _, _, _, _, _, _, _, _, l1, _⟩ := a.ex
  obtain ⟨_, _, _, _, _, _, _, _, _, _, _, l2, _⟩ := b.ex
  rw [l1] at l2
  injection l2 with l2
  injection l2 with _ _ l2 _
  injection l2
theorem law_start {K : PySem.W.Frag} {H : Hp} {a : Addr} {ns : List Int} (hl : ns.length ≤ 63) (hO : Only H) (hS : SqL K H a (ns.map V.int)) : toSp K 1 sp_law [.ref a] H fun v _ => v = .bl true := by
  refine ⟨⟨fun _ => False, none⟩, [scrD ns], ⟨[], 0, 0, false⟩, fun d _ => d = .bool true, rfl, .cons (only_scr _ hO hS) .nil, ⟨fun _ => rfl, fun _ _ h => nomatch h⟩, (fun _ h => h.elim), ⟨ns, rfl, hl, rfl, fun _ => rfl⟩, ?_⟩
  rintro v d β' H' g' _ z _ _ rfl
  cases z
  rfl
theorem facts {P : Program} {w : World} {K : PySem.W.Frag} {h : Heap} {mg : Str → Option Value} {f : Addr} (X : K.In h) (G : h.Ns mainGlobals mg) (hfa : mg ("law" : Str) = some (.ref f)) (c : He.SaysD Hd.fa Hd.fn K) :
    ∃ fd : FuncData, (∀ (s : Shared) (v : Value), BindsTo s fd ⟨[v], []⟩ [("script", v)]) ∧ ∀ base : Heap, K.In base → base.Ns mainGlobals mg → SysAt base → FnV P w K mg base 7 f fd ["script"] (toSp K 1 sp_law) := by
  obtain ⟨fd0, F0⟩ := c.def_ 0 (d := Hd.d_lots_within) rfl
  have g0 : mg ("lots_within" : Str) = some (.ref (He.ga K "lots_within")) := He.glo_ok X G (c.fact 0 (f := .glo "lots_within") rfl)
  obtain ⟨fd1, F1⟩ := c.def_ 1 (d := Hd.d_free_lots) rfl
  have g1 : mg ("free_lots" : Str) = some (.ref (He.ga K "free_lots")) := He.glo_ok X G (c.fact 1 (f := .glo "free_lots") rfl)
  obtain ⟨fd2, F2⟩ := c.def_ 2 (d := Hd.d_code_of_lot) rfl
  have g2 : mg ("code_of_lot" : Str) = some (.ref (He.ga K "code_of_lot")) := He.glo_ok X G (c.fact 2 (f := .glo "code_of_lot") rfl)
  obtain ⟨fd3, F3⟩ := c.def_ 3 (d := Hd.d_lot_of_code) rfl
  have g3 : mg ("lot_of_code" : Str) = some (.ref (He.ga K "lot_of_code")) := He.glo_ok X G (c.fact 3 (f := .glo "lot_of_code") rfl)
  obtain ⟨fd4, F4⟩ := c.def_ 4 (d := Hd.d_code_ranks) rfl
  have g4 : mg ("code_ranks" : Str) = some (.ref (He.ga K "code_ranks")) := He.glo_ok X G (c.fact 4 (f := .glo "code_ranks") rfl)
  obtain ⟨fd5, F5⟩ := c.def_ 5 (d := Hd.d_hull_code) rfl
  have g5 : mg ("hull_code" : Str) = some (.ref (He.ga K "hull_code")) := He.glo_ok X G (c.fact 5 (f := .glo "hull_code") rfl)
  obtain ⟨fd6, F6⟩ := c.def_ 6 (d := Hd.d_is_flat) rfl
  have g6 : mg ("is_flat" : Str) = some (.ref (He.ga K "is_flat")) := He.glo_ok X G (c.fact 6 (f := .glo "is_flat") rfl)
  obtain ⟨fd7, F7⟩ := c.def_ 7 (d := Hd.d_least_flat) rfl
  have g7 : mg ("least_flat" : Str) = some (.ref (He.ga K "least_flat")) := He.glo_ok X G (c.fact 7 (f := .glo "least_flat") rfl)
  obtain ⟨fd8, F8⟩ := c.def_ 8 (d := Hd.d_ranked_flats) rfl
  have g8 : mg ("ranked_flats" : Str) = some (.ref (He.ga K "ranked_flats")) := He.glo_ok X G (c.fact 8 (f := .glo "ranked_flats") rfl)
  obtain ⟨fd9, F9⟩ := c.def_ 9 (d := Hd.d_all_flats) rfl
  have g9 : mg ("all_flats" : Str) = some (.ref (He.ga K "all_flats")) := He.glo_ok X G (c.fact 9 (f := .glo "all_flats") rfl)
  obtain ⟨fd10, F10⟩ := c.def_ 10 (d := Hd.d_flats_of_rank) rfl
  have g10 : mg ("flats_of_rank" : Str) = some (.ref (He.ga K "flats_of_rank")) := He.glo_ok X G (c.fact 10 (f := .glo "flats_of_rank") rfl)
  obtain ⟨fd11, F11⟩ := c.def_ 11 (d := Hd.d__law_own_bag) rfl
  have g11 : mg ("_law_own_bag" : Str) = some (.ref (He.ga K "_law_own_bag")) := He.glo_ok X G (c.fact 11 (f := .glo "_law_own_bag") rfl)
  obtain ⟨fd12, F12⟩ := c.def_ 12 (d := Hd.d__law_draw) rfl
  have g12 : mg ("_law_draw" : Str) = some (.ref (He.ga K "_law_draw")) := He.glo_ok X G (c.fact 12 (f := .glo "_law_draw") rfl)
  obtain ⟨fd13, F13⟩ := c.def_ 13 (d := Hd.d__law_pick) rfl
  have g13 : mg ("_law_pick" : Str) = some (.ref (He.ga K "_law_pick")) := He.glo_ok X G (c.fact 13 (f := .glo "_law_pick") rfl)
  obtain ⟨fd14, F14⟩ := c.def_ 14 (d := Hd.d__law_size) rfl
  have g14 : mg ("_law_size" : Str) = some (.ref (He.ga K "_law_size")) := He.glo_ok X G (c.fact 14 (f := .glo "_law_size") rfl)
  obtain ⟨fd15, F15⟩ := c.def_ 15 (d := Hd.d__law_lots) rfl
  have g15 : mg ("_law_lots" : Str) = some (.ref (He.ga K "_law_lots")) := He.glo_ok X G (c.fact 15 (f := .glo "_law_lots") rfl)
  obtain ⟨fd16, F16⟩ := c.def_ 16 (d := Hd.d__law_grown_row) rfl
  have g16 : mg ("_law_grown_row" : Str) = some (.ref (He.ga K "_law_grown_row")) := He.glo_ok X G (c.fact 16 (f := .glo "_law_grown_row") rfl)
  obtain ⟨fd17, F17⟩ := c.def_ 17 (d := Hd.d__law_more) rfl
  have g17 : mg ("_law_more" : Str) = some (.ref (He.ga K "_law_more")) := He.glo_ok X G (c.fact 17 (f := .glo "_law_more") rfl)
  obtain ⟨fd18, F18⟩ := c.def_ 18 (d := Hd.d__law_columns_row) rfl
  have g18 : mg ("_law_columns_row" : Str) = some (.ref (He.ga K "_law_columns_row")) := He.glo_ok X G (c.fact 18 (f := .glo "_law_columns_row") rfl)
  obtain ⟨fd19, F19⟩ := c.def_ 19 (d := Hd.d__law_blocks_row) rfl
  have g19 : mg ("_law_blocks_row" : Str) = some (.ref (He.ga K "_law_blocks_row")) := He.glo_ok X G (c.fact 19 (f := .glo "_law_blocks_row") rfl)
  obtain ⟨fd20, F20⟩ := c.def_ 20 (d := Hd.d__law_renamed_row) rfl
  have g20 : mg ("_law_renamed_row" : Str) = some (.ref (He.ga K "_law_renamed_row")) := He.glo_ok X G (c.fact 20 (f := .glo "_law_renamed_row") rfl)
  obtain ⟨fd21, F21⟩ := c.def_ 21 (d := Hd.d__law_row) rfl
  have g21 : mg ("_law_row" : Str) = some (.ref (He.ga K "_law_row")) := He.glo_ok X G (c.fact 21 (f := .glo "_law_row") rfl)
  obtain ⟨fd22, F22⟩ := c.def_ 22 (d := Hd.d__law_table) rfl
  have g22 : mg ("_law_table" : Str) = some (.ref (He.ga K "_law_table")) := He.glo_ok X G (c.fact 22 (f := .glo "_law_table") rfl)
  obtain ⟨fd23, F23⟩ := c.def_ 23 (d := Hd.d__law_closures) rfl
  have g23 : mg ("_law_closures" : Str) = some (.ref (He.ga K "_law_closures")) := He.glo_ok X G (c.fact 23 (f := .glo "_law_closures") rfl)
  obtain ⟨fd24, F24⟩ := c.def_ 24 (d := Hd.d__law_is) rfl
  have g24 : mg ("_law_is" : Str) = some (.ref (He.ga K "_law_is")) := He.glo_ok X G (c.fact 24 (f := .glo "_law_is") rfl)
  obtain ⟨fd25, F25⟩ := c.def_ 25 (d := Hd.d__law_asked) rfl
  have g25 : mg ("_law_asked" : Str) = some (.ref (He.ga K "_law_asked")) := He.glo_ok X G (c.fact 25 (f := .glo "_law_asked") rfl)
  obtain ⟨fd26, F26⟩ := c.def_ 26 (d := Hd.d__law_asked_ranks) rfl
  have g26 : mg ("_law_asked_ranks" : Str) = some (.ref (He.ga K "_law_asked_ranks")) := He.glo_ok X G (c.fact 26 (f := .glo "_law_asked_ranks") rfl)
  obtain ⟨fd27, F27⟩ := c.def_ 27 (d := Hd.d__law_told) rfl
  have g27 : mg ("_law_told" : Str) = some (.ref (He.ga K "_law_told")) := He.glo_ok X G (c.fact 27 (f := .glo "_law_told") rfl)
  obtain ⟨fd28, F28⟩ := c.def_ 28 (d := Hd.d__law_are_least_right) rfl
  have g28 : mg ("_law_are_least_right" : Str) = some (.ref (He.ga K "_law_are_least_right")) := He.glo_ok X G (c.fact 28 (f := .glo "_law_are_least_right") rfl)
  obtain ⟨fd29, F29⟩ := c.def_ 29 (d := Hd.d_law) rfl
  have g29 : mg ("law" : Str) = some (.ref (He.ga K "law")) := He.glo_ok X G (c.fact 29 (f := .glo "law") rfl)
  have m_abs : mg ("abs" : Str) = none := He.free_ok X G (c.fact 30 (f := .free "abs") rfl)
  have m_all : mg ("all" : Str) = none := He.free_ok X G (c.fact 31 (f := .free "all") rfl)
  have m_any : mg ("any" : Str) = none := He.free_ok X G (c.fact 32 (f := .free "any") rfl)
  have m_dict : mg ("dict" : Str) = none := He.free_ok X G (c.fact 33 (f := .free "dict") rfl)
  have m_enumerate : mg ("enumerate" : Str) = none := He.free_ok X G (c.fact 34 (f := .free "enumerate") rfl)
  have m_int : mg ("int" : Str) = none := He.free_ok X G (c.fact 35 (f := .free "int") rfl)
  have m_isinstance : mg ("isinstance" : Str) = none := He.free_ok X G (c.fact 36 (f := .free "isinstance") rfl)
  have m_len : mg ("len" : Str) = none := He.free_ok X G (c.fact 37 (f := .free "len") rfl)
  have m_list : mg ("list" : Str) = none := He.free_ok X G (c.fact 38 (f := .free "list") rfl)
  have m_max : mg ("max" : Str) = none := He.free_ok X G (c.fact 39 (f := .free "max") rfl)
  have m_min : mg ("min" : Str) = none := He.free_ok X G (c.fact 40 (f := .free "min") rfl)
  have m_range : mg ("range" : Str) = none := He.free_ok X G (c.fact 41 (f := .free "range") rfl)
  have m_repr : mg ("repr" : Str) = none := He.free_ok X G (c.fact 42 (f := .free "repr") rfl)
  have m_reversed : mg ("reversed" : Str) = none := He.free_ok X G (c.fact 43 (f := .free "reversed") rfl)
  have m_sorted : mg ("sorted" : Str) = none := He.free_ok X G (c.fact 44 (f := .free "sorted") rfl)
  have m_str : mg ("str" : Str) = none := He.free_ok X G (c.fact 45 (f := .free "str") rfl)
  have m_sum : mg ("sum" : Str) = none := He.free_ok X G (c.fact 46 (f := .free "sum") rfl)
  have m_tuple : mg ("tuple" : Str) = none := He.free_ok X G (c.fact 47 (f := .free "tuple") rfl)
  have m_zip : mg ("zip" : Str) = none := He.free_ok X G (c.fact 48 (f := .free "zip") rfl)
  have e := hfa.symm.trans g29
  cases e
  have bs := FunD.bindsA (ps := ["script"]) F29 fun _ _ _ _ _ _ us hl => match us, hl with | [_], _ => rfl
  refine ⟨fd29, fun s v => bs s [v] rfl, fun base _ _ hsy => ?_⟩
  have c_lots_within : Def P w K mg base 1 "lots_within" Hd.s_lots_within Wk.P_lots_within sp_lots := Wk.ok_lots_within g0 F0   hd_lots
  have c_free_lots : Def P w K mg base 2 "free_lots" Hd.s_free_lots Wk.P_free_lots sp_free := Wk.ok_free_lots g1 F1 c_lots_within m_tuple m_sorted hd_free
  have c_code_of_lot : Def P w K mg base 1 "code_of_lot" Hd.s_code_of_lot Wk.P_code_of_lot sp_code := Wk.ok_code_of_lot g2 F2  m_sum hd_code
  have c_lot_of_code : Def P w K mg base 1 "lot_of_code" Hd.s_lot_of_code Wk.P_lot_of_code sp_uncode := Wk.ok_lot_of_code g3 F3  m_tuple m_range hd_uncode
  have c_code_ranks : Def P w K mg base 3 "code_ranks" Hd.s_code_ranks Wk.P_code_ranks sp_ranks := Wk.ok_code_ranks g4 F4 c_free_lots c_code_of_lot m_range m_max m_dict m_len hd_ranks
  have c_hull_code : Def P w K mg base 1 "hull_code" Hd.s_hull_code Wk.P_hull_code sp_hull := Wk.ok_hull_code g5 F5  m_sum m_range hd_hull
  have c_least_flat : Def P w K mg base 4 "least_flat" Hd.s_least_flat Wk.P_least_flat sp_least := Wk.ok_least_flat g7 F7 c_lot_of_code c_hull_code c_code_ranks c_code_of_lot  hd_least
  have c_is_flat : Def P w K mg base 5 "is_flat" Hd.s_is_flat Wk.P_is_flat sp_isflat := Wk.ok_is_flat g6 F6 c_least_flat  hd_isflat
  have c_ranked_flats : Def P w K mg base 4 "ranked_flats" Hd.s_ranked_flats Wk.P_ranked_flats sp_rflats := Wk.ok_ranked_flats g8 F8 c_hull_code c_lot_of_code c_code_ranks m_sorted m_enumerate hd_rflats
  have c_all_flats : Def P w K mg base 5 "all_flats" Hd.s_all_flats Wk.P_all_flats sp_aflats := Wk.ok_all_flats g9 F9 c_ranked_flats m_tuple hd_aflats
  have c_flats_of_rank : Def P w K mg base 5 "flats_of_rank" Hd.s_flats_of_rank Wk.P_flats_of_rank sp_frank := Wk.ok_flats_of_rank g10 F10 c_ranked_flats m_tuple hd_frank
  have c__law_own_bag : Def P w K mg base 1 "_law_own_bag" Hd.s__law_own_bag Wk.P__law_own_bag sp_own := Wk.ok__law_own_bag g11 F11  m_list m_reversed m_int m_len m_abs hd_own
  have c__law_draw : Def P w K mg base 1 "_law_draw" Hd.s__law_draw Wk.P__law_draw sp_draw := Wk.ok__law_draw g12 F12  m_int hd_draw
  have c__law_pick : Def P w K mg base 2 "_law_pick" Hd.s__law_pick Wk.P__law_pick sp_pick := Wk.ok__law_pick g13 F13 c__law_draw m_len hd_pick
  have c__law_size : Def P w K mg base 3 "_law_size" Hd.s__law_size Wk.P__law_size sp_size := Wk.ok__law_size g14 F14 c__law_pick  hd_size
  have c__law_lots : Def P w K mg base 1 "_law_lots" Hd.s__law_lots Wk.P__law_lots sp_llots := Wk.ok__law_lots g15 F15  m_range hd_llots
  have c__law_grown_row : Def P w K mg base 2 "_law_grown_row" Hd.s__law_grown_row Wk.P__law_grown_row sp_grown := Wk.ok__law_grown_row g16 F16 c__law_draw m_range m_enumerate m_len hd_grown
  have c__law_more : Def P w K mg base 1 "_law_more" Hd.s__law_more Wk.P__law_more sp_more := Wk.ok__law_more g17 F17  m_int m_range m_enumerate m_zip m_len hd_more
  have c__law_columns_row : Def P w K mg base 3 "_law_columns_row" Hd.s__law_columns_row Wk.P__law_columns_row sp_gcols := Wk.ok__law_columns_row g18 F18 c__law_more c__law_draw c__law_pick m_range m_len hd_gcols
  have c__law_blocks_row : Def P w K mg base 2 "_law_blocks_row" Hd.s__law_blocks_row Wk.P__law_blocks_row sp_gblk := Wk.ok__law_blocks_row g19 F19 c__law_draw m_enumerate m_any m_range m_all m_len hd_gblk
  have c__law_renamed_row : Def P w K mg base 2 "_law_renamed_row" Hd.s__law_renamed_row Wk.P__law_renamed_row sp_renm := Wk.ok__law_renamed_row g20 F20 c__law_draw m_enumerate m_range m_len m_list hd_renm
  have c__law_row : Def P w K mg base 4 "_law_row" Hd.s__law_row Wk.P__law_row sp_grow := Wk.ok__law_row g21 F21 c__law_renamed_row c__law_draw c__law_grown_row c__law_columns_row c__law_blocks_row m_min m_len m_range hd_grow
  have c__law_table : Def P w K mg base 1 "_law_table" Hd.s__law_table Wk.P__law_table sp_ltab := Wk.ok__law_table g22 F22  m_tuple m_sorted m_len m_range hd_ltab
  have c__law_closures : Def P w K mg base 1 "_law_closures" Hd.s__law_closures Wk.P__law_closures sp_lclo := Wk.ok__law_closures g23 F23  m_enumerate m_sum m_range hd_lclo
  have c__law_is : Def P w K mg base 1 "_law_is" Hd.s__law_is Wk.P__law_is sp_is := Wk.ok__law_is g24 F24  hsy m_isinstance m_int m_str m_repr m_tuple m_all m_zip hd_is
  have c__law_asked : Def P w K mg base 3 "_law_asked" Hd.s__law_asked Wk.P__law_asked sp_asked := Wk.ok__law_asked g25 F25 c__law_draw c__law_pick m_range m_list hd_asked
  have c__law_asked_ranks : Def P w K mg base 2 "_law_asked_ranks" Hd.s__law_asked_ranks Wk.P__law_asked_ranks sp_askr := Wk.ok__law_asked_ranks g26 F26 c__law_draw m_max m_list m_range hd_askr
  have c__law_told : Def P w K mg base 1 "_law_told" Hd.s__law_told Wk.P__law_told sp_told := Wk.ok__law_told g27 F27  m_tuple m_sorted hd_told
  have c__law_are_least_right : Def P w K mg base 6 "_law_are_least_right" Hd.s__law_are_least_right Wk.P__law_are_least_right sp_aright := Wk.ok__law_are_least_right g28 F28 c__law_is c_is_flat c_least_flat m_all m_sum hd_aright
  have c_law : Def P w K mg base 7 "law" Hd.s_law Wk.P_law sp_law := Wk.ok_law g29 F29 c__law_is c_all_flats c__law_asked c__law_are_least_right c__law_draw c_flats_of_rank c__law_told c__law_asked_ranks c__law_closures c__law_table c__law_renamed_row c__law_row c__law_lots c__law_size c__law_own_bag hsy m_repr m_enumerate m_len hd_law
  obtain ⟨f2, fd2, h2, F2, V2, _⟩ := c_law.ex
  have e := g29.symm.trans h2
  cases e
  cases FunD_uniq F29 F2
  exact V2
end PL
open PySem PySem.W PySem.Calls PyProof.Rows in
theorem PySem.Challenge.cw_baselots_k17_whole_main_flats_by_ranks_holds : PySem.Challenge.rw_baselots_k17_whole_main_flats_by_ranks.Holds := by
  w_on; o_law
  refine HandSHeadRun.head_any (r := OpenLaw.row PySem.Challenge.rw_baselots_k17_whole_main_flats_by_ranks) (q := view (OpenLaw.row PySem.Challenge.rw_baselots_k17_whole_main_flats_by_ranks).prog [33]) (H := Hd.hk) (ob := Hd.ob) (M := 4000) (loose := Hd.loose) (d := HandSHeadRun.topDef (OpenLaw.row PySem.Challenge.rw_baselots_k17_whole_main_flats_by_ranks).prog 33) (kwd := []) Hd.ob_eq
    (by kernel_rfl) (fun s => by kernel_rfl) Hd.run (by kernel_rfl) (by kernel_rfl) (by kernel_rfl) (by rfl) (by first | assumption | decide +kernel) (by decide +kernel) ⟨rfl, rfl, rfl, rfl, rfl, by decide +kernel⟩ ?hw ?hc
  case hw => w_witness2
  case hc =>
    refine VS.walk_gX (l := PySem.Challenge.rw_baselots_k17_whole_main_flats_by_ranks) (n := 63) (k := 7) (x := "script") rfl (by kernel_rfl) (by decide) (by kernel_rfl) ⟨⟨rfl, by decide, by decide⟩, rfl⟩ fun w mg fa h Y G hmg0 => ?_
    obtain ⟨K, KX, c⟩ := Y
    have hmg : mg ("law" : PySem.Str) = some (.ref fa) := by
      have e : (HandSHeadRun.topDef (OpenLaw.row PySem.Challenge.rw_baselots_k17_whole_main_flats_by_ranks).prog 33).name = ("law" : PySem.Str) := by kernel_rfl
      exact e ▸ hmg0
    obtain ⟨fd, hb, hF⟩ := PL.facts (P := (PySem.Challenge.rw_baselots_k17_whole_main_flats_by_ranks).prog) (w := w) KX G hmg c
    exact ⟨K, fd, VS.toSp K 1 PL.sp_law, KX, hb, fun H a ns hl hO hS => PL.law_start hl hO hS, hF⟩
