import PyProof.Rows.All
import Wide.All
import OpenK.AllK
import Wide.FinOn
import HandS.ForMost
import HandS.Deep
import HandS.Star
import HandS.Conv
import HandS.IsInst
import HandS.TupAny
import HandS.SortOrd
import HandS.SortInts
import HandS.SetFor
import HandS.AnyAll
import HandS.EndTab
import PySem.Challenge.RW_foescome_k28_whole_telling
import HandS.GenOver
import KE.SortData
import KE.DataCmp
import KE.KDictKeyed
import HandS.DictComp
import HandS.TupLen
import KE.GoesMore
import KE.GoesEnum
import HandS.Iter
import HandS.TupSets
import HandS.Strs
import HandS.Style
import HandS.Head0
import HandS.Head1
import HandS.Head2
import HandS.HeadEnd
import HandS.HeadHook1
import HandS.HeadHook2
import HandS.HeadHook3
import HandS.HeadHook4
import HandS.HeadWalk
set_option Elab.async false
set_option linter.all false
set_option maxRecDepth 100000
set_option maxHeartbeats 2000000
/-! A data level over the hand layer: values told as PyData, the heap only grows, lists of a def's own stand apart. -/
namespace K28
open PySem PySem.Spec PyProof.Rows L2

/-! ### the heap grows -/
/-- what is tracked stays; a table of code objects may have grown -/
def Ex (H H' : Hp) : Prop := ∀ a o, H a = some o → H' a = some o ∨ ∃ ps ps', o = HO.tbl ps ∧ H' a = some (.tbl ps') ∧ (TriplesOk ps.toList → TriplesOk ps'.toList)
theorem Ex.refl (H : Hp) : Ex H H := fun _ _ h => .inl h
theorem Ex.trans {H H1 H2 : Hp} (a : Ex H H1) (b : Ex H1 H2) : Ex H H2 := fun x o h => by
  rcases a x o h with h1 | ⟨ps, ps', rfl, h1, t1⟩
  · exact b x o h1
  · rcases b x _ h1 with h2 | ⟨qs, qs', e, h2, t2⟩
    · exact .inr ⟨ps, ps', rfl, h2, t1⟩
    · cases e
      exact .inr ⟨ps, qs', rfl, h2, fun t => t2 (t1 t)⟩
theorem Ex.new {H : Hp} {p : Addr} {o : HO} (h : H p = none) : Ex H (upd H p o) := fun a u e => .inl (by rw [upd_ne (ne_of_none e h)]; exact e)
theorem Ex.newR {H H' : Hp} {p : Addr} {o : HO} (e : Ex H H') (h : H p = none) : Ex H (upd H' p o) := fun a u q => by
  have hp : a ≠ p := ne_of_none q h
  rw [upd_ne hp]
  exact e a u q
theorem Ex.get {H H' : Hp} (e : Ex H H') {a : Addr} {o : HO} (h : H a = some o) (n : ∀ ps, o ≠ .tbl ps) : H' a = some o := by
  rcases e a o h with h1 | ⟨ps, _, rfl, _⟩
  · exact h1
  · exact (n ps rfl).elim
theorem Ex.isSome {H H' : Hp} (e : Ex H H') {a : Addr} (h : H a ≠ none) : H' a ≠ none := by
  cases q : H a with
  | none => exact (h q).elim
  | some o =>
    rcases e a o q with h1 | ⟨_, _, _, h1, _⟩ <;> rw [h1] <;> simp
theorem Ex.back {H H' : Hp} (e : Ex H H') {a : Addr} (h : H' a = none) : H a = none := by
  cases q : H a with
  | none => rfl
  | some o => exact (e.isSome (by rw [q]; simp) h).elim
theorem Ex.lst {H H' : Hp} (e : Ex H H') {a : Addr} {xs : List V} (h : H a = some (.lst xs)) : H' a = some (.lst xs) := e.get h (fun _ q => by cases q)
theorem Ex.tup {H H' : Hp} (e : Ex H H') {a : Addr} {xs : List V} (h : H a = some (.tup xs)) : H' a = some (.tup xs) := e.get h (fun _ q => by cases q)
theorem Ex.rd {H H' : Hp} (e : Ex H H') {a : Addr} {o : HO} (n : ∀ ps, o ≠ .tbl ps) (h : Rd H a o) : Rd H' a o := by
  rcases h with h | ⟨u, h⟩
  · exact .inl (e.get h n)
  · exact .inr ⟨u, e.get h (fun _ q => by cases q)⟩
theorem Ex.sqL {K : PySem.W.Frag} {H H' : Hp} (e : Ex H H') {a : Addr} {xs : List V} (h : SqL K H a xs) : SqL K H' a xs := by
  rcases h with h | h
  · exact .inl (e.rd (fun _ q => by cases q) h)
  · exact .inr h
theorem Ex.sqT {K : PySem.W.Frag} {H H' : Hp} (e : Ex H H') {a : Addr} {xs : List V} (h : SqT K H a xs) : SqT K H' a xs := by
  rcases h with h | h
  · exact .inl (e.rd (fun _ q => by cases q) h)
  · exact .inr h
mutual
/-- a value told as data: all of its lists and tuples are tracked -/
inductive Da (H : Hp) : V → PyData → Prop
  | non : Da H .non .none
  | bl (b : Bool) : Da H (.bl b) (.bool b)
  | int (i : Int) : Da H (.int i) (.int i)
  | lst {a : Addr} {vs : List V} {ds : List PyData} : H a = some (.lst vs) → DaAll H vs ds → Da H (.ref a) (.list ds)
  | tup {a : Addr} {vs : List V} {ds : List PyData} : H a = some (.tup vs) → DaAll H vs ds → Da H (.ref a) (.tuple ds)
  | obj {a : Addr} {φ : Heap → Prop} : H a = some (.ext φ) → Da H (.ref a) (.dict [(.int (a : Nat), .none)])
inductive DaAll (H : Hp) : List V → List PyData → Prop
  | nil : DaAll H [] []
  | cons {v : V} {vs : List V} {d : PyData} {ds : List PyData} : Da H v d → DaAll H vs ds → DaAll H (v :: vs) (d :: ds)
end
mutual
theorem Da_mono {H H' : Hp} (e : Ex H H') : ∀ {v : V} {d : PyData}, Da H v d → Da H' v d
  | _, _, .non => .non
  | _, _, .bl b => .bl b
  | _, _, .int i => .int i
  | _, _, .lst h a => .lst (e.lst h) (DaAll_mono e a)
  | _, _, .tup h a => .tup (e.tup h) (DaAll_mono e a)
  | _, _, .obj h => .obj (e.get h (fun _ q => by cases q))
theorem DaAll_mono {H H' : Hp} (e : Ex H H') : ∀ {vs : List V} {ds : List PyData}, DaAll H vs ds → DaAll H' vs ds
  | _, _, .nil => .nil
  | _, _, .cons h t => .cons (Da_mono e h) (DaAll_mono e t)
end
/-! an object that is only named: told by its address -/
mutual
/-- no such object within -/
def plD : PyData → Bool
  | .dict _ => false
  | .list xs => plA xs
  | .tuple xs => plA xs
  | _ => true
def plA : List PyData → Bool
  | [] => true
  | x :: xs => plD x && plA xs
end
mutual
theorem Da_dp {K : PySem.W.Frag} {H : Hp} : ∀ {v : V} {d : PyData}, Da H v d → plD d = true → Dp K H v d
  | _, _, .non, _ => .non
  | _, _, .bl b, _ => .bl b
  | _, _, .int i, _ => .int i
  | _, _, .lst h a, p => .lst (SqL.of h) (DaAll_dp a (by rw [plD] at p; exact p))
  | _, _, .tup h a, p => .tup (SqT.of h) (DaAll_dp a (by rw [plD] at p; exact p))
  | _, _, .obj h, p => by rw [plD] at p; cases p
theorem DaAll_dp {K : PySem.W.Frag} {H : Hp} : ∀ {vs : List V} {ds : List PyData}, DaAll H vs ds → plA ds = true → DpAll K H vs ds
  | _, _, .nil, _ => .nil
  | _, _, .cons h t, p => by
    rw [plA, Bool.and_eq_true] at p
    exact .cons (Da_dp h p.1) (DaAll_dp t p.2)
end
section
variable {H : Hp}
theorem DaAll.len : ∀ {vs : List V} {ds : List PyData}, DaAll H vs ds → vs.length = ds.length
  | _, _, .nil => rfl
  | _, _, .cons _ t => by rw [List.length_cons, List.length_cons, DaAll.len t]
theorem DaAll.get : ∀ {vs : List V} {ds : List PyData} {i : Nat} {d : PyData}, DaAll H vs ds → ds[i]? = some d → ∃ v, vs[i]? = some v ∧ Da H v d
  | _, _, i, _, .nil, e => by simp at e
  | _, _, 0, _, .cons h _, e => by simp at e; subst e; exact ⟨_, rfl, h⟩
  | _, _, i + 1, d, .cons _ t, e => by
    obtain ⟨v, h1, h2⟩ := DaAll.get (i := i) (d := d) t (by simpa using e)
    exact ⟨v, by simpa using h1, h2⟩
theorem DaAll.getV : ∀ {vs : List V} {ds : List PyData} {i : Nat} {v : V}, DaAll H vs ds → vs[i]? = some v → ∃ d, ds[i]? = some d ∧ Da H v d
  | _, _, i, _, .nil, e => by simp at e
  | _, _, 0, _, .cons h _, e => by simp at e; subst e; exact ⟨_, rfl, h⟩
  | _, _, i + 1, d, .cons _ t, e => by
    obtain ⟨v, h1, h2⟩ := DaAll.getV (i := i) (v := d) t (by simpa using e)
    exact ⟨v, by simpa using h1, h2⟩
theorem DaAll.app : ∀ {vs us : List V} {ds es : List PyData}, DaAll H vs ds → DaAll H us es → DaAll H (vs ++ us) (ds ++ es)
  | _, _, _, _, .nil, t => t
  | _, _, _, _, .cons h r, t => .cons h (DaAll.app r t)
theorem DaAll.one {v : V} {d : PyData} (h : Da H v d) : DaAll H [v] [d] := .cons h .nil
theorem DaAll.take : ∀ {vs : List V} {ds : List PyData} (n : Nat), DaAll H vs ds → DaAll H (vs.take n) (ds.take n)
  | _, _, 0, _ => .nil
  | _, _, _ + 1, .nil => .nil
  | _, _, n + 1, .cons h t => .cons h (DaAll.take n t)
theorem DaAll.drop : ∀ {vs : List V} {ds : List PyData} (n : Nat), DaAll H vs ds → DaAll H (vs.drop n) (ds.drop n)
  | _, _, 0, r => r
  | _, _, _ + 1, .nil => .nil
  | _, _, n + 1, .cons _ t => DaAll.drop n t
theorem DaAll.ints : ∀ {ns : List Int}, DaAll H (ns.map V.int) (ns.map PyData.int)
  | [] => .nil
  | _ :: _ => .cons (.int _) DaAll.ints
theorem DaAll.intsV : ∀ {vs : List V} {ns : List Int}, DaAll H vs (ns.map PyData.int) → vs = ns.map V.int
  | _, [], .nil => rfl
  | _, n :: ns, .cons h t => by
    cases h
    rw [DaAll.intsV t]
    rfl
theorem Da.tupV {v : V} {ds : List PyData} (h : Da H v (.tuple ds)) : ∃ a vs, v = .ref a ∧ H a = some (.tup vs) ∧ DaAll H vs ds := by
  cases h with
  | tup h a => exact ⟨_, _, rfl, h, a⟩
theorem Da.lstV {v : V} {ds : List PyData} (h : Da H v (.list ds)) : ∃ a vs, v = .ref a ∧ H a = some (.lst vs) ∧ DaAll H vs ds := by
  cases h with
  | lst h a => exact ⟨_, _, rfl, h, a⟩
theorem Da.intV {v : V} {i : Int} (h : Da H v (.int i)) : v = .int i := by cases h; rfl
theorem Da.blV {v : V} {b : Bool} (h : Da H v (.bool b)) : v = .bl b := by cases h; rfl
theorem Da.nonV {v : V} (h : Da H v .none) : v = .non := by cases h; rfl
end

/-- Hs: what is told as data (a part of H); behind: both have grown, what stood in H alone is still told in H alone -/
structure Grow (Hs H Hs' H' : Hp) : Prop where
  base : Ex Hs Hs'
  heap : Ex H H'
  sub : Ex Hs' H'
  own : ∀ p, Hs p = none → H p ≠ none → Hs' p = none
section
variable {Hs H Hs1 H1 Hs2 H2 : Hp}
theorem Grow.refl (s : Ex Hs H) : Grow Hs H Hs H := ⟨.refl _, .refl _, s, fun _ h _ => h⟩
theorem Grow.trans (a : Grow Hs H Hs1 H1) (b : Grow Hs1 H1 Hs2 H2) : Grow Hs H Hs2 H2 :=
  ⟨a.base.trans b.base, a.heap.trans b.heap, b.sub, fun p h1 h2 => b.own p (a.own p h1 h2) (a.heap.isSome h2)⟩
theorem Grow.sub0 (a : Grow Hs H Hs1 H1) : Ex Hs H1 := a.base.trans a.sub
/-- a new object, told as data -/
theorem Grow.new (s : Ex Hs H) {p : Addr} {o : HO} (h : H p = none) : Grow Hs H (upd Hs p o) (upd H p o) := by
  have hs := s.back h
  refine ⟨.new hs, .new h, fun a u e => ?_, fun q h1 h2 => ?_⟩
  · by_cases hq : a = p
    · subst hq
      rw [upd_same] at e
      rw [upd_same]
      exact .inl e
    · rw [upd_ne hq] at e
      rw [upd_ne hq]
      exact s a u e
  · have hq : q ≠ p := fun z => h2 (by rw [z]; exact h)
    rw [upd_ne hq]
    exact h1
/-- the heap alone has grown -/
theorem Grow.up (s : Ex Hs H) (e : Ex H H1) : Grow Hs H Hs H1 := ⟨.refl _, e, s.trans e, fun _ h _ => h⟩
end

/-! ### tables -/
/-- what a def leans on beside its arguments: tables of code objects; what else stands in the data part -/
structure Tx where
  tabs : List Addr
  more : Hp → Prop
  mono : ∀ {H H' : Hp}, Ex H H' → more H → more H'
def Tabs (T : Tx) (Hs H : Hp) : Prop := (∀ P ∈ T.tabs, GxR.TabG H P) ∧ T.more Hs
theorem Tabs.mono {T : Tx} {Hs H Hs' H' : Hp} (t : Tabs T Hs H) (g : Grow Hs H Hs' H') : Tabs T Hs' H' := ⟨fun P hP => by
  obtain ⟨ps, h, k⟩ := t.1 P hP
  rcases g.heap P _ h with h1 | ⟨qs, qs', q, h1, k1⟩
  · exact ⟨ps, h1, k⟩
  · cases q
    exact ⟨qs', h1, k1 k⟩, T.mono g.base t.2⟩
theorem ex_tabbed {P : Addr} {H H' : Hp} (h : GxR.Tabbed P H H') (g : GxR.TabG H P) : Ex H H' := fun a o e => by
  obtain ⟨⟨ps', h1, k⟩, h2⟩ := h
  by_cases ha : a = P
  · subst ha
    obtain ⟨ps, g1, _⟩ := g
    rw [g1] at e
    cases e
    exact .inr ⟨ps, ps', rfl, h1, fun _ => k⟩
  · rw [h2 a ha]
    exact .inl e

/-! ### the def's names -/
/-- another object of the def's own, by what it holds (a dict) -/
structure Dct where
  φ : Hp → Addr → HO → Prop
  mono : ∀ {Hs Hs' : Hp} {p : Addr} {o : HO}, Ex Hs Hs' → φ Hs p o → φ Hs' p o
  nl : ∀ {Hs : Hp} {p : Addr} {o : HO} {xs : List V}, φ Hs p o → o ≠ .lst xs
  nt : ∀ {Hs : Hp} {p : Addr} {o : HO} {ps : Array Value}, φ Hs p o → o ≠ .tbl ps
/-- a name: not known; data; a list of the def's own (it may change); a dict of the def's own -/
inductive Ent where
  | no | d (x : PyData) | own (xs : List PyData) | dct (D : Dct)
def Ent.mine : Ent → Prop
  | .no => False
  | .d _ => False
  | .own _ => True
  | .dct _ => True
structure EnvD (Hs H : Hp) (σ : L2.St) (δ : List Ent) : Prop where
  len : σ.length = δ.length
  dat : ∀ (i : Nat) x, δ[i]? = some (.d x) → ∃ v, σ[i]? = some (some v) ∧ Da Hs v x
  own : ∀ (i : Nat) xs, δ[i]? = some (.own xs) → ∃ p vs, σ[i]? = some (some (V.ref p)) ∧ Hs p = none ∧ H p = some (.lst vs) ∧ DaAll Hs vs xs
  dis : ∀ (i j : Nat) xs ys p q, i ≠ j → δ[i]? = some (.own xs) → δ[j]? = some (.own ys) → σ[i]? = some (some (V.ref p)) → σ[j]? = some (some (V.ref q)) → p ≠ q
  dct : ∀ (i : Nat) D, δ[i]? = some (.dct D) → ∃ p o, σ[i]? = some (some (V.ref p)) ∧ Hs p = none ∧ H p = some o ∧ D.φ Hs p o
section
variable {Hs H Hs' H' : Hp} {σ : L2.St} {δ : List Ent}
theorem EnvD.mono (e : EnvD Hs H σ δ) (g : Grow Hs H Hs' H') : EnvD Hs' H' σ δ where
  len := e.len
  dat := fun i x h => by
    obtain ⟨v, h1, h2⟩ := e.dat i x h
    exact ⟨v, h1, Da_mono g.base h2⟩
  own := fun i xs h => by
    obtain ⟨p, vs, h1, h2, h3, h4⟩ := e.own i xs h
    exact ⟨p, vs, h1, g.own p h2 (by rw [h3]; simp), g.heap.lst h3, DaAll_mono g.base h4⟩
  dis := e.dis
  dct := fun i D h => by
    obtain ⟨p, o, h1, h2, h3, h4⟩ := e.dct i D h
    exact ⟨p, o, h1, g.own p h2 (by rw [h3]; simp), g.heap.get h3 (fun _ => D.nt h4), D.mono g.base h4⟩
theorem set_get {α : Type} {l : List α} {i j : Nat} {x y : α} (h : (l.set i x)[j]? = some y) : (i = j ∧ y = x ∧ i < l.length) ∨ (i ≠ j ∧ l[j]? = some y) := by
  by_cases e : i = j
  · subst e
    by_cases hi : i < l.length
    · rw [List.getElem?_set_self hi] at h
      exact .inl ⟨rfl, (Option.some.inj h).symm, hi⟩
    · rw [List.getElem?_eq_none (by rw [List.length_set]; omega)] at h
      cases h
  · rw [List.getElem?_set_ne e] at h
    exact .inr ⟨e, h⟩
/-- a name takes data, or is forgotten -/
theorem EnvD.put (e : EnvD Hs H σ δ) {i : Nat} {o : Option V} {x : Ent} (hx : ¬ x.mine) (h : ∀ y, x = .d y → ∃ v, o = some v ∧ Da Hs v y) : EnvD Hs H (σ.set i o) (δ.set i x) where
  len := by rw [List.length_set, List.length_set]; exact e.len
  dat := fun j y q => by
    rcases set_get q with ⟨rfl, q2, hi⟩ | ⟨ne, q⟩
    · obtain ⟨v, rfl, hv⟩ := h y q2.symm
      exact ⟨v, List.getElem?_set_self (by rw [e.len]; exact hi), hv⟩
    · rw [List.getElem?_set_ne ne]
      exact e.dat j y q
  own := fun j y q => by
    rcases set_get q with ⟨rfl, q2, hi⟩ | ⟨ne, q⟩
    · exact (hx (by rw [← q2]; trivial)).elim
    · rw [List.getElem?_set_ne ne]
      exact e.own j y q
  dis := fun j k xs ys p r hne q1 q2 s1 s2 => by
    rcases set_get q1 with ⟨rfl, q3, hi⟩ | ⟨ne, q1⟩
    · exact (hx (by rw [← q3]; trivial)).elim
    · rcases set_get q2 with ⟨rfl, q3, hi⟩ | ⟨ne2, q2⟩
      · exact (hx (by rw [← q3]; trivial)).elim
      · rw [List.getElem?_set_ne ne] at s1
        rw [List.getElem?_set_ne ne2] at s2
        exact e.dis j k xs ys p r hne q1 q2 s1 s2
  dct := fun j y q => by
    rcases set_get q with ⟨rfl, q2, hi⟩ | ⟨ne, q⟩
    · exact (hx (by rw [← q2]; trivial)).elim
    · rw [List.getElem?_set_ne ne]
      exact e.dct j y q
theorem EnvD.set (e : EnvD Hs H σ δ) {i : Nat} {v : V} {x : PyData} (h : Da Hs v x) : EnvD Hs H (σ.set i (some v)) (δ.set i (.d x)) := e.put (fun z => z) fun y q => by
  cases q
  exact ⟨v, rfl, h⟩
/-- a name forgotten -/
theorem EnvD.drop (e : EnvD Hs H σ δ) (i : Nat) (o : Option V) : EnvD Hs H (σ.set i o) (δ.set i .no) := e.put (fun z => z) fun y q => by cases q
/-- less is known -/
theorem EnvD.less (e : EnvD Hs H σ δ) {δ' : List Ent} (hl : δ'.length = δ.length) (h : ∀ (i : Nat) x, δ'[i]? = some x → x = .no ∨ δ[i]? = some x) : EnvD Hs H σ δ' where
  len := e.len.trans hl.symm
  dat := fun j y q => by
    rcases h j _ q with z | z
    · cases z
    · exact e.dat j y z
  own := fun j y q => by
    rcases h j _ q with z | z
    · cases z
    · exact e.own j y z
  dis := fun j k xs ys p r hne q1 q2 s1 s2 => by
    rcases h j _ q1 with z | z
    · cases z
    · rcases h k _ q2 with z2 | z2
      · cases z2
      · exact e.dis j k xs ys p r hne z z2 s1 s2
  dct := fun j y q => by
    rcases h j _ q with z | z
    · cases z
    · exact e.dct j y z
/-- the slots of a block's own names -/
def wipeD (δ : List Ent) : List Nat → List Ent
  | [] => δ
  | v :: vs => (wipeD δ vs).set v .no
theorem EnvD.wipe (e : EnvD Hs H σ δ) : ∀ vs : List Nat, EnvD Hs H (L2.wipe σ vs) (wipeD δ vs)
  | [] => e
  | v :: vs => (EnvD.wipe e vs).drop v none
end

/-- where an expression stands -/
structure At (T : Tx) (Hs H : Hp) (σ : L2.St) (δ : List Ent) : Prop where
  sub : Ex Hs H
  env : EnvD Hs H σ δ
  tabs : Tabs T Hs H
theorem At.mono {T : Tx} {Hs H Hs' H' : Hp} {σ : L2.St} {δ : List Ent} (a : At T Hs H σ δ) (g : Grow Hs H Hs' H') : At T Hs' H' σ δ := ⟨g.sub, a.env.mono g, a.tabs.mono g⟩

/-! ### readings by data -/
def tD (T : Tx) (δ : List Ent) (x : PyData) : TE := fun σ H Q => ∃ Hs, At T Hs H σ δ ∧ ∀ v Hs' H', Grow Hs H Hs' H' → Da Hs' v x → Q v H'
def tDT (T : Tx) (δ : List Ent) (b : Bool) : TT := fun σ H Q => ∃ Hs, At T Hs H σ δ ∧ ∀ Hs' H', Grow Hs H Hs' H' → Q b H'
def tDA (T : Tx) (δ : List Ent) (xs : List PyData) : TA := fun σ H Q => ∃ Hs, At T Hs H σ δ ∧ ∀ vs Hs' H', Grow Hs H Hs' H' → DaAll Hs' vs xs → Q vs H'
section
variable {X : Cx} {e : Expr} {es : List Expr} {st : Stmt} {sts : List Stmt}
theorem pe_imp {t t' : TE} (h : PE X e t) (i : ∀ σ H Q, t' σ H Q → t σ H Q) : PE X e t' := ⟨fun pins s σ H Q I q => h.run pins s σ H Q I (i σ H Q q)⟩
theorem pt_imp {t t' : TT} (h : PT X e t) (i : ∀ σ H Q, t' σ H Q → t σ H Q) : PT X e t' := ⟨fun pins s σ H Q I q => h.run pins s σ H Q I (i σ H Q q)⟩
theorem pw_imp {t t' : TT} (h : PW X e t) (i : ∀ σ H Q, t' σ H Q → t σ H Q) : PW X e t' := ⟨fun wh pins s σ H Q I q => h.run wh pins s σ H Q I (i σ H Q q)⟩
theorem pa_imp {t t' : TA} (h : PA X es t) (i : ∀ σ H Q, t' σ H Q → t σ H Q) : PA X es t' := ⟨fun pos pins s σ H Q I q => h.run pos pins s σ H Q I (i σ H Q q)⟩
theorem ps_imp {t t' : TS} (h : PS X st t) (i : ∀ D σ H, t' D σ H → t D σ H) : PS X st t' := ⟨fun pins s σ H D I q => h.run pins s σ H D I (i D σ H q)⟩
theorem pss_imp {t t' : TS} (h : PSs X sts t) (i : ∀ D σ H, t' D σ H → t D σ H) : PSs X sts t' := ⟨fun pins s σ H D I q => h.run pins s σ H D I (i D σ H q)⟩
/-- a part that is asked only where c -/
theorem pe_if {c : Prop} {t : TE} (h : c → PE X e t) : PE X e (fun σ H Q => c ∧ t σ H Q) := ⟨fun pins s σ H Q I q => (h q.1).run pins s σ H Q I q.2⟩
theorem pt_if {c : Prop} {t : TT} (h : c → PT X e t) : PT X e (fun σ H Q => c ∧ t σ H Q) := ⟨fun pins s σ H Q I q => (h q.1).run pins s σ H Q I q.2⟩
theorem pw_if {c : Prop} {t : TT} (h : c → PW X e t) : PW X e (fun σ H Q => c ∧ t σ H Q) := ⟨fun wh pins s σ H Q I q => (h q.1).run wh pins s σ H Q I q.2⟩
theorem pss_if {c : Prop} {t : TS} (h : c → PSs X sts t) : PSs X sts (fun D σ H => c ∧ t D σ H) := ⟨fun pins s σ H D I q => (h q.1).run pins s σ H D I q.2⟩
end
end K28

set_option Elab.async false
set_option linter.all false
set_option maxRecDepth 100000
set_option maxHeartbeats 2000000
namespace K28
open PySem PySem.Spec PyProof.Rows L2

/-! ### expressions by data -/
/-- a two-place operation on data -/
def RD (r : R2) (x y z : PyData) : Prop := ∀ (Hs H : Hp) (v u : V) (Q : VK), Ex Hs H → Da Hs v x → Da Hs u y → (∀ w Hs' H', Grow Hs H Hs' H' → Da Hs' w z → Q w H') → r v u H Q
/-- a call on data -/
def RC (r : List V → Hp → VK → Prop) (xs : List PyData) (z : PyData) : Prop := ∀ (Hs H : Hp) (vs : List V) (Q : VK), Ex Hs H → DaAll Hs vs xs → (∀ w Hs' H', Grow Hs H Hs' H' → Da Hs' w z → Q w H') → r vs H Q
section
variable {X : Cx} {T : Tx} {δ : List Ent} {a b c e : Expr} {es rest : List Expr} {pos : Pos} {x y z : PyData} {ds : List PyData}

theorem pd_var (i : Nat) {s : Str} (hx : δ[i]? = some (.d x)) (hN : X.N[i]? = some s := by rfl) (hv : Vis X.env.scope s := by first | exact Or.inl rfl | exact Or.inr (Or.inl rfl) | exact Or.inr (Or.inr rfl)) (hd : (s == ("__debug__" : Str)) = false := by decide)
    (hcd : (s == ("__classdict__" : Str)) = false := by decide) : PE X (.Name s pos) (tD T δ x) :=
  pe_imp (pe_var hN hv hd hcd) fun σ H Q ⟨Hs, at_, k⟩ => by
    obtain ⟨v, h1, h2⟩ := at_.env.dat i x hx
    exact ⟨v, h1, k v Hs H (.refl at_.sub) h2⟩
theorem pd_c {v : V} (h : PE X e (tC v)) (hd : ∀ H, Da H v x) : PE X e (tD T δ x) :=
  pe_imp h fun σ H Q ⟨Hs, at_, k⟩ => k v Hs H (.refl at_.sub) (hd _)
theorem pd_int {i : Int} {j : Nat} : PE X (.Constant (.int i) j pos) (tD T δ (.int i)) := pd_c pe_int fun _ => .int i
theorem pd_bl {i : Bool} {j : Nat} : PE X (.Constant (.bool i) j pos) (tD T δ (.bool i)) := pd_c pe_bl fun _ => .bl i
theorem pd_non {j : Nat} : PE X (.Constant .none j pos) (tD T δ .none) := pd_c pe_non fun _ => .non
/-- a number of the module's top -/
theorem pd_glob {s : Str} {n : Int} {t : Tok} (hg : Gl X s) (hm : X.mg s = some (.int n t)) (hd : (s == ("__debug__" : Str)) = false := by decide) : PE X (.Name s pos) (tD T δ (.int n)) :=
  pd_c (pe_glob (v := .int n) hg hm ⟨t, rfl⟩ hd) fun _ => .int n

theorem pd_op {op : Operator} {r : R2} (ho : OpR X (binaryOp op) r) (hr : RD r x y z) (ha : PE X a (tD T δ x)) (hb : PE X b (tD T δ y)) : PE X (.BinOp a op b pos) (tD T δ z) :=
  pe_imp (pe_op ho ha hb) fun σ H Q ⟨Hs, at_, k⟩ => ⟨Hs, at_, fun v H1s H1 g1 d1 => ⟨H1s, at_.mono g1, fun u H2s H2 g2 d2 =>
    hr H2s H2 v u Q g2.sub (Da_mono g2.base d1) d2 fun w H3s H3 g3 d3 => k w H3s H3 ((g1.trans g2).trans g3) d3⟩⟩
theorem pd_ix {r : R2} (ho : IxR X r) (hr : RD r x y z) (ha : PE X a (tD T δ x)) (hb : PE X b (tD T δ y)) (hs : PlainIx b := by intro _ _; rfl) : PE X (.Subscript a b pos) (tD T δ z) :=
  pe_imp (pe_ix ho ha hb hs) fun σ H Q ⟨Hs, at_, k⟩ => ⟨Hs, at_, fun v H1s H1 g1 d1 => ⟨H1s, at_.mono g1, fun u H2s H2 g2 d2 =>
    hr H2s H2 v u Q g2.sub (Da_mono g2.base d1) d2 fun w H3s H3 g3 d3 => k w H3s H3 ((g1.trans g2).trans g3) d3⟩⟩
theorem pd_cmp {op : CmpOp} {r : R2} (ho : OpR X (compareOp op) r) (hr : RD r x y z) (ha : PE X a (tD T δ x)) (hb : PE X b (tD T δ y)) (hm : behindInMarks op b = false) : PE X (.Compare a [op] [b] pos) (tD T δ z) :=
  pe_imp (pe_cmpR ho ha hb hm) fun σ H Q ⟨Hs, at_, k⟩ => ⟨Hs, at_, fun v H1s H1 g1 d1 => ⟨H1s, at_.mono g1, fun u H2s H2 g2 d2 =>
    hr H2s H2 v u Q g2.sub (Da_mono g2.base d1) d2 fun w H3s H3 g3 d3 => k w H3s H3 ((g1.trans g2).trans g3) d3⟩⟩
theorem pdt_cmp {op : CmpOp} {r : R2} {k : Bool} (ho : OpR X (compareOp op) r) (hr : RD r x y (.bool k)) (ha : PE X a (tD T δ x)) (hb : PE X b (tD T δ y)) (hm : behindInMarks op b = false) : PT X (.Compare a [op] [b] pos) (tDT T δ k) :=
  pt_imp (pt_cmpR ho ha hb hm) fun σ H Q ⟨Hs, at_, kk⟩ => ⟨Hs, at_, fun v H1s H1 g1 d1 => ⟨H1s, at_.mono g1, fun u H2s H2 g2 d2 =>
    hr H2s H2 v u _ g2.sub (Da_mono g2.base d1) d2 fun w H3s H3 g3 d3 => ⟨k, d3.blV, kk H3s H3 ((g1.trans g2).trans g3)⟩⟩⟩
/-- a op b op' c of ints -/
theorem pd_chain {op op' : CmpOp} {p p' : Int → Int → Bool} {i j k : Int} (ho : OpR X (compareOp op) (rI0 fun i j => .bl (p i j))) (ho' : OpR X (compareOp op') (rI0 fun i j => .bl (p' i j)))
    (ha : PE X a (tD T δ (.int i))) (hb : PE X b (tD T δ (.int j))) (hc : PE X c (tD T δ (.int k))) (hm : lastMarks [op, op'] [b, c] = false := by with_unfolding_all rfl) :
    PE X (.Compare a [op, op'] [b, c] pos) (tD T δ (.bool (p i j && p' j k))) :=
  pe_imp (pe_chain ho ho' ha hb hc hm) fun σ H Q ⟨Hs, at_, kk⟩ => ⟨Hs, at_, fun v H1s H1 g1 d1 => ⟨H1s, at_.mono g1, fun u H2s H2 g2 d2 => by
    cases d1.intV
    cases d2.intV
    refine ⟨i, j, rfl, rfl, p i j, rfl, ?_⟩
    cases hp : p i j with
    | false =>
      exact iteF (kk _ H2s H2 (g1.trans g2) (by rw [hp]; exact .bl false))
    | true =>
      exact iteT ⟨H2s, at_.mono (g1.trans g2), fun w H3s H3 g3 d3 => by
        cases d3.intV
        exact ⟨j, k, rfl, rfl, kk _ H3s H3 ((g1.trans g2).trans g3) (by rw [hp]; exact .bl _)⟩⟩⟩⟩

/-! ### tests -/
theorem pdt_val {k : Bool} (h : PE X e (tD T δ (.bool k))) (he : ∀ whole, isTrue e X.env whole = (do let v ← whole; standAt e.pos; holding [v] (truthy v)) := by intro _; rfl) : PT X e (tDT T δ k) :=
  pt_imp (pt_val h he) fun σ H Q ⟨Hs, at_, kk⟩ => ⟨Hs, at_, fun v H1s H1 g1 d1 => ⟨k, d1.blV, kk H1s H1 g1⟩⟩
/-- is a list not empty? -/
theorem pdt_list (h : PE X e (tD T δ (.list ds))) (he : ∀ whole, isTrue e X.env whole = (do let v ← whole; standAt e.pos; holding [v] (truthy v)) := by intro _; rfl) : PT X e (tDT T δ (!ds.isEmpty)) :=
  pt_imp (pt_truth h he) fun σ H Q ⟨Hs, at_, kk⟩ => ⟨Hs, at_, fun v H1s H1 g1 d1 => by
    obtain ⟨p, vs, rfl, h1, h2⟩ := d1.lstV
    refine ⟨_, .inl ⟨vs, SqL.of (g1.sub.lst h1), rfl⟩, ?_⟩
    have e1 : (!vs.isEmpty) = !ds.isEmpty := by
      cases h2 <;> rfl
    rw [e1]
    exact kk H1s H1 g1⟩
theorem pdt_not {k : Bool} (h : PT X a (tDT T δ k)) : PT X (.UnaryOp .Not a pos) (tDT T δ (!k)) :=
  pt_imp (pt_not h) fun σ H Q ⟨Hs, at_, kk⟩ => ⟨Hs, at_, fun H1s H1 g1 => kk H1s H1 g1⟩
theorem pdw_one {op : BoolOp} {k : Bool} (h : PT X a (tDT T δ k)) : PW X (.BoolOp op [a] pos) (tDT T δ k) := by
  cases op with
  | And => exact pw_and1 h
  | Or => exact pw_or1 h
theorem pdw_and {k l : Bool} (h : PT X a (tDT T δ k)) (h2 : k = true → PW X (.BoolOp .And (b :: rest) pos) (tDT T δ l)) : PW X (.BoolOp .And (a :: b :: rest) pos) (tDT T δ (k && l)) :=
  pw_imp (pw_and h (pw_if h2)) fun σ H Q ⟨Hs, at_, kk⟩ => ⟨Hs, at_, fun H1s H1 g1 => by
    cases k with
    | false => exact iteF (kk H1s H1 g1)
    | true => exact iteT ⟨rfl, H1s, at_.mono g1, fun H2s H2 g2 => kk H2s H2 (g1.trans g2)⟩⟩
theorem pdw_or {k l : Bool} (h : PT X a (tDT T δ k)) (h2 : k = false → PW X (.BoolOp .Or (b :: rest) pos) (tDT T δ l)) : PW X (.BoolOp .Or (a :: b :: rest) pos) (tDT T δ (k || l)) :=
  pw_imp (pw_or h (pw_if h2)) fun σ H Q ⟨Hs, at_, kk⟩ => ⟨Hs, at_, fun H1s H1 g1 => by
    cases k with
    | true => exact iteT (kk H1s H1 g1)
    | false => exact iteF ⟨rfl, H1s, at_.mono g1, fun H2s H2 g2 => kk H2s H2 (g1.trans g2)⟩⟩
/-! as values -/
theorem pd_one {op : BoolOp} (h : PE X a (tD T δ x)) : PE X (.BoolOp op [a] pos) (tD T δ x) := pe_one h
theorem pd_and {k l : Bool} (h : PE X a (tD T δ (.bool k))) (h2 : k = true → PE X (.BoolOp .And (b :: rest) pos) (tD T δ (.bool l))) : PE X (.BoolOp .And (a :: b :: rest) pos) (tD T δ (.bool (k && l))) :=
  pe_imp (pe_and h (pe_if h2)) fun σ H Q ⟨Hs, at_, kk⟩ => ⟨Hs, at_, fun v H1s H1 g1 d1 => ⟨k, d1.blV, by
    cases k with
    | false => exact iteF (kk _ H1s H1 g1 (.bl _))
    | true => exact iteT ⟨rfl, H1s, at_.mono g1, fun w H2s H2 g2 d2 => kk w H2s H2 (g1.trans g2) d2⟩⟩⟩
theorem pd_or {k l : Bool} (h : PE X a (tD T δ (.bool k))) (h2 : k = false → PE X (.BoolOp .Or (b :: rest) pos) (tD T δ (.bool l))) : PE X (.BoolOp .Or (a :: b :: rest) pos) (tD T δ (.bool (k || l))) :=
  pe_imp (pe_or h (pe_if h2)) fun σ H Q ⟨Hs, at_, kk⟩ => ⟨Hs, at_, fun v H1s H1 g1 d1 => ⟨k, d1.blV, by
    cases k with
    | true => exact iteT (kk _ H1s H1 g1 (.bl _))
    | false => exact iteF ⟨rfl, H1s, at_.mono g1, fun w H2s H2 g2 d2 => kk w H2s H2 (g1.trans g2) d2⟩⟩⟩
theorem pd_not {k : Bool} (h : PE X a (tD T δ (.bool k))) : PE X (.UnaryOp .Not a pos) (tD T δ (.bool (!k))) :=
  pe_imp (pe_not h) fun σ H Q ⟨Hs, at_, kk⟩ => ⟨Hs, at_, fun v H1s H1 g1 d1 => ⟨k, d1.blV, kk _ H1s H1 g1 (.bl _)⟩⟩
/-- the same data by another name -/
theorem pd_is (h : PE X e (tD T δ x)) (q : x = y) : PE X e (tD T δ y) := q ▸ h
theorem pdt_is {k l : Bool} (h : PT X e (tDT T δ k)) (q : k = l) : PT X e (tDT T δ l) := q ▸ h

/-! ### arguments, displays -/
theorem pda_nil : PA X [] (tDA T δ []) := pa_imp pa_nil fun σ H Q ⟨Hs, at_, k⟩ => k [] Hs H (.refl at_.sub) .nil
theorem pda_cons (h : PE X e (tD T δ x)) (hr : PA X es (tDA T δ ds)) (hs : starEach (e :: es) X.env = (false, eval e X.env) :: starEach es X.env := by rfl) : PA X (e :: es) (tDA T δ (x :: ds)) :=
  pa_imp (pa_cons h hr hs) fun σ H Q ⟨Hs, at_, k⟩ => ⟨Hs, at_, fun v H1s H1 g1 d1 => ⟨H1s, at_.mono g1, fun vs H2s H2 g2 d2 => k _ H2s H2 (g1.trans g2) (.cons (Da_mono g2.base d1) d2)⟩⟩
theorem pda_starT {p : Pos} {xs : List PyData} (h : PE X e (tD T δ (.tuple xs))) (hr : PA X es (tDA T δ ds)) (hs : starEach (.Starred e p :: es) X.env = (true, eval e X.env) :: starEach es X.env := by rfl) : PA X (.Starred e p :: es) (tDA T δ (xs ++ ds)) :=
  pa_imp (StX.pa_star h hr hs) fun σ H Q ⟨Hs, at_, k⟩ => ⟨Hs, at_, fun v H1s H1 g1 d1 => by
    obtain ⟨p, vs, rfl, h1, h2⟩ := d1.tupV
    exact ⟨p, vs, rfl, .inl (SqT.of (g1.sub.tup h1)), H1s, at_.mono g1, fun us H2s H2 g2 d2 => k _ H2s H2 (g1.trans g2) ((DaAll_mono g2.base h2).app d2)⟩⟩
theorem pda_starL {p : Pos} {xs : List PyData} (h : PE X e (tD T δ (.list xs))) (hr : PA X es (tDA T δ ds)) (hs : starEach (.Starred e p :: es) X.env = (true, eval e X.env) :: starEach es X.env := by rfl) : PA X (.Starred e p :: es) (tDA T δ (xs ++ ds)) :=
  pa_imp (StX.pa_star h hr hs) fun σ H Q ⟨Hs, at_, k⟩ => ⟨Hs, at_, fun v H1s H1 g1 d1 => by
    obtain ⟨p, vs, rfl, h1, h2⟩ := d1.lstV
    exact ⟨p, vs, rfl, .inr (SqL.of (g1.sub.lst h1)), H1s, at_.mono g1, fun us H2s H2 g2 d2 => k _ H2s H2 (g1.trans g2) ((DaAll_mono g2.base h2).app d2)⟩⟩
theorem pd_tup {x1 : Nat} (h : PA X es (tDA T δ ds)) (hl : ds.length ≤ 1000) : PE X (.Tuple es x1 pos) (tD T δ (.tuple ds)) :=
  pe_imp (pe_tup h) fun σ H Q ⟨Hs, at_, k⟩ => ⟨Hs, at_, fun vs H1s H1 g1 d1 => ⟨by rw [d1.len]; exact Nat.le_of_lt (small1000 hl), fun p hp =>
    k _ _ _ (g1.trans (.new g1.sub hp)) (.tup upd_same (DaAll_mono (.new (g1.sub.back hp)) d1))⟩⟩
theorem pd_lst (h : PA X es (tDA T δ ds)) (hl : ds.length ≤ 1000) : PE X (.List es pos) (tD T δ (.list ds)) :=
  pe_imp (pe_lst h) fun σ H Q ⟨Hs, at_, k⟩ => ⟨Hs, at_, fun vs H1s H1 g1 d1 => ⟨by rw [d1.len]; exact Nat.le_of_lt (small1000 hl), fun p hp =>
    k _ _ _ (g1.trans (.new g1.sub hp)) (.lst upd_same (DaAll_mono (.new (g1.sub.back hp)) d1))⟩⟩

/-! ### calls of built-ins -/
theorem pd_callB {id : String} {n : Str} {p : Pos} {r : List V → Hp → VK → Prop} (hc : CallR X (.builtin id) r) (hr : RC r ds z) (hm : X.mg n = none) (hv : bootBuiltins n = some (.builtin id)) (ha : PA X (e :: es) (tDA T δ ds)) (hg : Gl X n := by rfl)
    (hn : n ≠ "__name__" := by decide) (hdb : (n == ("__debug__" : Str)) = false := by decide) (he : starEach (e :: es) X.env = (false, eval e X.env) :: starEach es X.env := by rfl) (hpl : (backTo pos (starEach es X.env)).any (·.1) = false := by rfl) :
    PE X (.Call (.Name n p) (e :: es) [] pos) (tD T δ z) :=
  pe_imp (pe_callB hc hg hm hv ha hn hdb he hpl) fun σ H Q ⟨Hs, at_, k⟩ => ⟨Hs, at_, fun vs H1s H1 g1 d1 => hr H1s H1 vs Q g1.sub d1 fun w H2s H2 g2 d2 => k w H2s H2 (g1.trans g2) d2⟩
theorem pd_callTy {id : String} {n : Str} {p : Pos} {r : List V → Hp → VK → Prop} (hc : CallR X (.type id) r) (hr : RC r ds z) (hm : X.mg n = none) (hv : bootBuiltins n = some (.type id)) (ha : PA X (e :: es) (tDA T δ ds)) (hg : Gl X n := by rfl)
    (hn : n ≠ "__name__" := by decide) (hdb : (n == ("__debug__" : Str)) = false := by decide) (he : starEach (e :: es) X.env = (false, eval e X.env) :: starEach es X.env := by rfl) (hpl : (backTo pos (starEach es X.env)).any (·.1) = false := by rfl) :
    PE X (.Call (.Name n p) (e :: es) [] pos) (tD T δ z) :=
  pe_imp (pe_callTy hc hg hm hv ha hn hdb he hpl) fun σ H Q ⟨Hs, at_, k⟩ => ⟨Hs, at_, fun vs H1s H1 g1 d1 => hr H1s H1 vs Q g1.sub d1 fun w H2s H2 g2 d2 => k w H2s H2 (g1.trans g2) d2⟩
end

/-! ### what the operations do to data -/
section
variable {i j : Int} {xs ys : List PyData} {x y : PyData} {K : PySem.W.Frag}
theorem rd_II {g : Int → Int → Int} : RD (rI0 fun i j => .int (g i j)) (.int i) (.int j) (.int (g i j)) := fun Hs H v u Q s a b k => by
  cases a.intV; cases b.intV
  exact ⟨i, j, rfl, rfl, k _ Hs H (.refl s) (.int _)⟩
theorem rd_IB {g : Int → Int → Bool} : RD (rI0 fun i j => .bl (g i j)) (.int i) (.int j) (.bool (g i j)) := fun Hs H v u Q s a b k => by
  cases a.intV; cases b.intV
  exact ⟨i, j, rfl, rfl, k _ Hs H (.refl s) (.bl _)⟩
theorem rd_IC {C : Int → Int → Prop} {g : Int → Int → Int} (h : C i j) : RD (rI C fun i j => .int (g i j)) (.int i) (.int j) (.int (g i j)) := fun Hs H v u Q s a b k => by
  cases a.intV; cases b.intV
  exact ⟨i, j, rfl, rfl, h, k _ Hs H (.refl s) (.int _)⟩
/-- == and != of plain values -/
theorem rd_eqI : RD rEq (.int i) (.int j) (.bool (decide (i = j))) := fun Hs H v u Q s a b k => by
  cases a.intV; cases b.intV
  refine ⟨rfl, ?_⟩
  have e : decide (V.int i = V.int j) = decide (i = j) := by simp
  rw [e]
  exact k _ Hs H (.refl s) (.bl _)
theorem rd_neI : RD rNe (.int i) (.int j) (.bool (!decide (i = j))) := fun Hs H v u Q s a b k => by
  cases a.intV; cases b.intV
  refine ⟨rfl, ?_⟩
  have e : decide (V.int i = V.int j) = decide (i = j) := by simp
  rw [e]
  exact k _ Hs H (.refl s) (.bl _)
theorem rd_eqB {p q : Bool} : RD rEq (.bool p) (.bool q) (.bool (p == q)) := fun Hs H v u Q s a b k => by
  cases a.blV; cases b.blV
  refine ⟨rfl, ?_⟩
  rw [dec_bl]
  exact k _ Hs H (.refl s) (.bl _)
theorem rd_neB {p q : Bool} : RD rNe (.bool p) (.bool q) (.bool (!(p == q))) := fun Hs H v u Q s a b k => by
  cases a.blV; cases b.blV
  refine ⟨rfl, ?_⟩
  rw [dec_bl]
  exact k _ Hs H (.refl s) (.bl _)
/-- == and != of data at any depth -/
theorem rd_eqD (h1 : SeqAt.shaped x = true) (h2 : SeqAt.shaped y = true) (p1 : plD x = true) (p2 : plD y = true) : RD (rEqD K) x y (.bool (PyData.eqv x y)) := fun Hs H v u Q s a b k =>
  ⟨x, y, Da_dp (Da_mono s a) p1, Da_dp (Da_mono s b) p2, h1, h2, k _ Hs H (.refl s) (.bl _)⟩
theorem rd_neD (h1 : SeqAt.shaped x = true) (h2 : SeqAt.shaped y = true) (p1 : plD x = true) (p2 : plD y = true) : RD (rNeD K) x y (.bool (!PyData.eqv x y)) := fun Hs H v u Q s a b k =>
  ⟨x, y, Da_dp (Da_mono s a) p1, Da_dp (Da_mono s b) p2, h1, h2, k _ Hs H (.refl s) (.bl _)⟩
theorem rd_ixT {d : PyData} (h : atI xs i = some d) : RD (rIxT K) (.tuple xs) (.int i) d := fun Hs H v u Q s a b k => by
  cases b.intV
  obtain ⟨p, vs, rfl, h1, h2⟩ := a.tupV
  have hl := h2.len
  unfold atI at h
  cases hi : ixN xs.length i with
  | none => rw [hi] at h; cases h
  | some j =>
    rw [hi] at h
    obtain ⟨w, e1, e2⟩ := h2.get (i := j) h
    refine ⟨p, vs, i, w, rfl, rfl, SqT.of (s.tup h1), ?_, k _ Hs H (.refl s) e2⟩
    unfold atI
    rw [hl, hi]
    exact e1
theorem rd_ixL {d : PyData} (h : atI xs i = some d) : RD (rIxL K) (.list xs) (.int i) d := fun Hs H v u Q s a b k => by
  cases b.intV
  obtain ⟨p, vs, rfl, h1, h2⟩ := a.lstV
  have hl := h2.len
  unfold atI at h
  cases hi : ixN xs.length i with
  | none => rw [hi] at h; cases h
  | some j =>
    rw [hi] at h
    obtain ⟨w, e1, e2⟩ := h2.get (i := j) h
    refine ⟨p, vs, i, w, rfl, rfl, SqL.of (s.lst h1), ?_, k _ Hs H (.refl s) e2⟩
    unfold atI
    rw [hl, hi]
    exact e1
/-- lists joined -/
theorem rd_cat (h : xs.length + ys.length ≤ 1000) : RD rCat (.list xs) (.list ys) (.list (xs ++ ys)) := fun Hs H v u Q s a b k => by
  obtain ⟨p, vs, rfl, h1, h2⟩ := a.lstV
  obtain ⟨q, us, rfl, h3, h4⟩ := b.lstV
  refine ⟨p, q, vs, us, rfl, rfl, s.lst h1, s.lst h3, by rw [h2.len, h4.len]; exact Nat.le_of_lt (small1000 h), fun r hr => ?_⟩
  exact k _ _ _ (.new s hr) (.lst upd_same (DaAll_mono (.new (s.back hr)) (h2.app h4)))
/-- tuples joined -/
theorem rd_catT (h : xs.length + ys.length ≤ 1000) : RD (rCatA K) (.tuple xs) (.tuple ys) (.tuple (xs ++ ys)) := fun Hs H v u Q s a b k => by
  obtain ⟨p, vs, rfl, h1, h2⟩ := a.tupV
  obtain ⟨q, us, rfl, h3, h4⟩ := b.tupV
  refine ⟨p, q, vs, us, rfl, rfl, SqT.of (s.tup h1), SqT.of (s.tup h3), by rw [h2.len, h4.len]; exact Nat.le_of_lt (small1000 h), fun e => ?_, fun _ e => ?_, fun _ _ r hr => ?_⟩
  · subst e
    cases h2
    exact k _ Hs H (.refl s) (.tup h3 h4)
  · subst e
    cases h4
    rw [List.append_nil] at k
    exact k _ Hs H (.refl s) (.tup h1 h2)
  · exact k _ _ _ (.new s hr) (.tup upd_same (DaAll_mono (.new (s.back hr)) (h2.app h4)))
/-- a list so often -/
theorem rep_da {Hs : Hp} {vs : List V} (h : DaAll Hs vs xs) : ∀ n : Nat, DaAll Hs (List.replicate n vs).flatten (List.replicate n xs).flatten
  | 0 => .nil
  | n + 1 => by
    rw [List.replicate_succ, List.replicate_succ, List.flatten_cons, List.flatten_cons]
    exact h.app (rep_da h n)
theorem rd_rep (h0 : -(2 ^ 63) ≤ i) (h1 : i < 2 ^ 63) (h2 : xs.length * i.toNat ≤ 1000) : RD rRep (.list xs) (.int i) (.list (List.replicate i.toNat xs).flatten) := fun Hs H v u Q s a b k => by
  cases b.intV
  obtain ⟨p, vs, rfl, e1, e2⟩ := a.lstV
  refine ⟨p, i, vs, rfl, rfl, s.lst e1, h0, h1, by rw [e2.len]; exact Nat.le_of_lt (small1000 h2), fun r hr => ?_⟩
  exact k _ _ _ (.new s hr) (.lst upd_same (DaAll_mono (.new (s.back hr)) (rep_da e2 _)))
/-- x in l, x in t of plain ints -/
theorem inV_int {vs : List V} : ∀ {ns : List Int}, vs = ns.map V.int → inV (V.int i) vs = decide (i ∈ ns)
  | ns, e => by
    subst e
    unfold inV
    rw [List.any_map]
    induction ns with
    | nil => simp
    | cons n ns ih =>
      rw [List.any_cons, ih]
      have e : (((fun y => eqV y (V.int i)) ∘ V.int) n) = decide (i = n) := by
        show eqV (V.int n) (V.int i) = decide (i = n)
        by_cases q : i = n
        · subst q; simp [eqV]
        · have q' : ¬ n = i := fun z => q z.symm
          simp [eqV, q, q']
      rw [e]
      by_cases q : i = n
      · subst q; simp
      · simp [q]
theorem flat_ints : ∀ ns : List Int, (ns.map V.int).all flatV = true
  | [] => rfl
  | n :: ns => by
    rw [List.map_cons, List.all_cons, flat_ints ns]
    rfl
theorem rd_in {ns : List Int} {neg : Bool} : RD (rIn K neg) (.int i) (.list (ns.map .int)) (.bool (if neg then !decide (i ∈ ns) else decide (i ∈ ns))) := fun Hs H v u Q s a b k => by
  cases a.intV
  obtain ⟨p, vs, rfl, e1, e2⟩ := b.lstV
  have e3 := e2.intsV
  refine ⟨p, vs, rfl, .inl (SqL.of (s.lst e1)), rfl, by rw [e3]; exact flat_ints ns, ?_⟩
  rw [inV_int e3]
  exact k _ Hs H (.refl s) (.bl _)
theorem rd_inT {ns : List Int} {neg : Bool} : RD (rIn K neg) (.int i) (.tuple (ns.map .int)) (.bool (if neg then !decide (i ∈ ns) else decide (i ∈ ns))) := fun Hs H v u Q s a b k => by
  cases a.intV
  obtain ⟨p, vs, rfl, e1, e2⟩ := b.tupV
  have e3 := e2.intsV
  refine ⟨p, vs, rfl, .inr (SqT.of (s.tup e1)), rfl, by rw [e3]; exact flat_ints ns, ?_⟩
  rw [inV_int e3]
  exact k _ Hs H (.refl s) (.bl _)
/-- len -/
theorem rc_lenL : RC (fun xs H Q => ∃ p ys, xs = [.ref p] ∧ (SqL K H p ys ∨ SqT K H p ys) ∧ Q (.int ys.length) H) [.list xs] (.int xs.length) := fun Hs H vs Q s a k => by
  cases a with
  | cons h t =>
    cases t
    obtain ⟨p, us, rfl, e1, e2⟩ := h.lstV
    refine ⟨p, us, rfl, .inl (SqL.of (s.lst e1)), ?_⟩
    rw [e2.len]
    exact k _ Hs H (.refl s) (.int _)
theorem rc_lenT : RC (fun xs H Q => ∃ p ys, xs = [.ref p] ∧ (SqL K H p ys ∨ SqT K H p ys) ∧ Q (.int ys.length) H) [.tuple xs] (.int xs.length) := fun Hs H vs Q s a k => by
  cases a with
  | cons h t =>
    cases t
    obtain ⟨p, us, rfl, e1, e2⟩ := h.tupV
    refine ⟨p, us, rfl, .inr (SqT.of (s.tup e1)), ?_⟩
    rw [e2.len]
    exact k _ Hs H (.refl s) (.int _)
/-- tuple(l), list(l), list(t) -/
theorem rc_tupL : RC (fun xs H Q => ∃ p ys, xs = [.ref p] ∧ ((SqL K H p ys ∧ ∀ l, H l = none → Q (.ref l) (upd H l (.tup ys))) ∨ (SqT K H p ys ∧ Q (.ref p) H))) [.list xs] (.tuple xs) := fun Hs H vs Q s a k => by
  cases a with
  | cons h t =>
    cases t
    obtain ⟨p, us, rfl, e1, e2⟩ := h.lstV
    exact ⟨p, us, rfl, .inl ⟨SqL.of (s.lst e1), fun r hr => k _ _ _ (.new s hr) (.tup upd_same (DaAll_mono (.new (s.back hr)) e2))⟩⟩
theorem rc_lstL : RC (fun xs H Q => ∃ p ys, xs = [.ref p] ∧ (SqL K H p ys ∨ SqT K H p ys) ∧ ∀ l, H l = none → Q (.ref l) (upd H l (.lst ys))) [.list xs] (.list xs) := fun Hs H vs Q s a k => by
  cases a with
  | cons h t =>
    cases t
    obtain ⟨p, us, rfl, e1, e2⟩ := h.lstV
    exact ⟨p, us, rfl, .inl (SqL.of (s.lst e1)), fun r hr => k _ _ _ (.new s hr) (.lst upd_same (DaAll_mono (.new (s.back hr)) e2))⟩
theorem rc_lstT : RC (fun xs H Q => ∃ p ys, xs = [.ref p] ∧ (SqL K H p ys ∨ SqT K H p ys) ∧ ∀ l, H l = none → Q (.ref l) (upd H l (.lst ys))) [.tuple xs] (.list xs) := fun Hs H vs Q s a k => by
  cases a with
  | cons h t =>
    cases t
    obtain ⟨p, us, rfl, e1, e2⟩ := h.tupV
    exact ⟨p, us, rfl, .inr (SqT.of (s.tup e1)), fun r hr => k _ _ _ (.new s hr) (.lst upd_same (DaAll_mono (.new (s.back hr)) e2))⟩
/-- int(n), int(flag) -/
theorem rc_int : RC (fun xs H Q => (∃ i, xs = [.int i] ∧ Q (.int i) H) ∨ ∃ k, xs = [.bl k] ∧ Q (.int (if k then 1 else 0)) H) [.int i] (.int i) := fun Hs H vs Q s a k => by
  cases a with
  | cons h t =>
    cases t
    cases h.intV
    exact .inl ⟨i, rfl, k _ Hs H (.refl s) (.int _)⟩
theorem rc_intB {b : Bool} : RC (fun xs H Q => (∃ i, xs = [.int i] ∧ Q (.int i) H) ∨ ∃ k, xs = [.bl k] ∧ Q (.int (if k then 1 else 0)) H) [.bool b] (.int (if b then 1 else 0)) := fun Hs H vs Q s a k => by
  cases a with
  | cons h t =>
    cases t
    cases h.blV
    exact .inr ⟨b, rfl, k _ Hs H (.refl s) (.int _)⟩
/-- min, max of two ints -/
theorem rc_two {g : Int → Int → Int} : RC (fun xs H Q => ∃ i j, xs = [.int i, .int j] ∧ Q (.int (g i j)) H) [.int i, .int j] (.int (g i j)) := fun Hs H vs Q s a k => by
  cases a with
  | cons h t =>
    cases t with
    | cons h2 t2 =>
      cases t2
      cases h.intV
      cases h2.intV
      exact ⟨i, j, rfl, k _ Hs H (.refl s) (.int _)⟩
end
end K28

set_option Elab.async false
set_option linter.all false
set_option maxRecDepth 100000
set_option maxHeartbeats 2000000
namespace K28
open PySem PySem.Spec PyProof.Rows L2

/-! ### defs by data -/
/-- a def's promise: from data that R takes it hands back what R says; the heap only grows -/
def spD (T : Tx) (R : List PyData → PyData → Prop) : Sp := fun vs H Q _ => ∃ Hs ds r, Ex Hs H ∧ DaAll Hs vs ds ∧ R ds r ∧ Tabs T Hs H ∧ ∀ v Hs' H', Grow Hs H Hs' H' → Da Hs' v r → Q v H'
/-- a def that is there and keeps such a promise -/
structure Has (P : Program) (w : World) (K : PySem.W.Frag) (mg : Str → Option Value) (base : Heap) (T : Tx) (n : Str) (k : Nat) (R : List PyData → PyData → Prop) : Prop where
  ex : ∃ (f : Addr) (fd : FuncData) (ps : List Str), FnOk P w K mg base CX0 k f fd ps (spD T R) ∧ mg n = some (.ref f) ∧ PySem.W.keepIn K (.ref f) = true ∧ Binds K fd ps []
section
variable {X : Cx} {T : Tx} {δ : List Ent} {a b c e : Expr} {es rest : List Expr} {pos : Pos} {x y z : PyData} {ds : List PyData}
theorem pd_call {n : Str} {k : Nat} {p : Pos} {R : List PyData → PyData → Prop} (F : Has X.prog X.w X.K X.mg X.base T n k R) (hr : Room k X.A) (hR : R ds z) (ha : PA X (e :: es) (tDA T δ ds)) (hg : Gl X n := by rfl) (hdb : (n == ("__debug__" : Str)) = false := by decide)
    (he : starEach (e :: es) X.env = (false, eval e X.env) :: starEach es X.env := by rfl) (hpl : (backTo pos (starEach es X.env)).any (·.1) = false := by rfl) : PE X (.Call (.Name n p) (e :: es) [] pos) (tD T δ z) := by
  obtain ⟨f, fd, ps, G, hm, hk, hb⟩ := F.ex
  refine pe_imp (pe_call G hr hg hm hk hb .nil pass0 ha hdb he hpl) fun σ H Q ⟨Hs, at_, k⟩ => ⟨Hs, at_, fun vs H1s H1 g1 d1 => ?_⟩
  show spD T R (vs ++ []) H1 Q E0
  rw [List.append_nil]
  exact ⟨H1s, ds, z, g1.sub, d1, hR, at_.tabs.mono g1, fun v H2s H2 g2 d2 => k v H2s H2 (g1.trans g2) d2⟩
end

/-! ### what is walked -/
/-- an iterator that hands out data, from Hs on -/
def Src (J : It) (xs : List PyData) (Hs : Hp) : Prop := ∀ H1s H1, Ex Hs H1s → Ex H1s H1 →
  (∀ i, i < xs.length → J.go i H1) ∧ (∀ i, i = xs.length → J.stop i H1) ∧ ∀ i v H2, i < xs.length → J.yld i H1 v H2 → ∃ x H2s, xs[i]? = some x ∧ Grow H1s H1 H2s H2 ∧ Da H2s v x
def piD (T : Tx) (δ : List Ent) (xs : List PyData) : TI := fun σ H R => ∃ Hs, At T Hs H σ δ ∧ ∀ J Hs' H', Grow Hs H Hs' H' → Src J xs Hs' → R J H'
theorem pi_imp {X : Cx} {tg iter : Expr} {t t' : TI} (h : PI X tg iter t) (i : ∀ σ H R, t' σ H R → t σ H R) : PI X tg iter t' := ⟨fun pins s σ H R I q => h.run pins s σ H R I (i σ H R q)⟩
def rangeD (n : Nat) : List PyData := (List.range n).map fun i => .int (i : Nat)
def enumD : Nat → List PyData → List PyData
  | _, [] => []
  | k, x :: xs => .tuple [.int (k : Nat), x] :: enumD (k + 1) xs
theorem enumD_get : ∀ (k : Nat) (xs : List PyData) (i : Nat), (enumD k xs)[i]? = (xs[i]?).map fun x => .tuple [.int ((k + i : Nat) : Int), x]
  | _, [], i => by simp [enumD]
  | k, x :: xs, 0 => by simp [enumD]
  | k, x :: xs, i + 1 => by
    have ih := enumD_get (k + 1) xs i
    have e : k + 1 + i = k + (i + 1) := by omega
    rw [e] at ih
    simpa [enumD] using ih
theorem enumD_len : ∀ (k : Nat) (xs : List PyData), (enumD k xs).length = xs.length
  | _, [] => rfl
  | k, x :: xs => by simp [enumD, enumD_len (k + 1) xs]
section
variable {X : Cx} {T : Tx} {δ : List Ent} {tg l a b : Expr} {xs : List PyData} {pos : Pos} {K : PySem.W.Frag}
theorem src_list {p : Addr} {vs : List V} {Hs : Hp} (h : Hs p = some (.lst vs)) (d : DaAll Hs vs xs) : Src (Itl K p) xs Hs := fun H1s H1 e1 e2 => by
  have h1 := SqL.of (K := K) ((e1.trans e2).lst h)
  have hl := d.len
  refine ⟨fun i hi => ?_, fun i hi => ⟨vs, h1, by omega⟩, fun i v H2 _ y => ?_⟩
  · exact ⟨vs, vs[i]'(by omega), h1, List.getElem?_eq_getElem _⟩
  · obtain ⟨rfl, y⟩ := y
    obtain ⟨x, q1, q2⟩ := d.getV (y vs h1)
    exact ⟨x, H1s, q1, .refl e2, Da_mono e1 q2⟩
theorem src_tup {p : Addr} {vs : List V} {Hs : Hp} (h : Hs p = some (.tup vs)) (d : DaAll Hs vs xs) : Src (Itt K p) xs Hs := fun H1s H1 e1 e2 => by
  have h1 := SqT.of (K := K) ((e1.trans e2).tup h)
  have hl := d.len
  refine ⟨fun i hi => ?_, fun i hi => ⟨vs, h1, by omega⟩, fun i v H2 _ y => ?_⟩
  · exact ⟨vs, vs[i]'(by omega), h1, List.getElem?_eq_getElem _⟩
  · obtain ⟨rfl, y⟩ := y
    obtain ⟨x, q1, q2⟩ := d.getV (y vs h1)
    exact ⟨x, H1s, q1, .refl e2, Da_mono e1 q2⟩
theorem pid_list (h : PE X l (tD T δ (.list xs))) : PI X tg l (piD T δ xs) :=
  pi_imp (pi_list h) fun σ H R ⟨Hs, at_, k⟩ => ⟨Hs, at_, fun v H1s H1 g1 d1 => by
    obtain ⟨p, vs, rfl, h1, h2⟩ := d1.lstV
    exact ⟨p, rfl, ⟨vs, SqL.of (g1.sub.lst h1)⟩, k _ H1s H1 g1 (src_list h1 h2)⟩⟩
theorem pid_tup (h : PE X l (tD T δ (.tuple xs))) : PI X tg l (piD T δ xs) :=
  pi_imp (pi_tup h) fun σ H R ⟨Hs, at_, k⟩ => ⟨Hs, at_, fun v H1s H1 g1 d1 => by
    obtain ⟨p, vs, rfl, h1, h2⟩ := d1.tupV
    exact ⟨p, rfl, ⟨vs, SqT.of (g1.sub.tup h1)⟩, k _ H1s H1 g1 (src_tup h1 h2)⟩⟩

theorem src_range {Hs : Hp} {lo : Int} {n : Nat} : Src (Itr lo n) ((List.range n).map fun i => .int (lo + (i : Nat))) Hs := fun H1s H1 e1 e2 => by
  refine ⟨fun i hi => ?_, fun i hi => ?_, fun i v H2 hi y => ?_⟩
  · show i < n
    simpa using hi
  · show n ≤ i
    simp at hi
    omega
  obtain ⟨rfl, rfl⟩ := y
  have hi' : i < n := by simpa using hi
  exact ⟨.int (lo + (i : Nat)), H1s, by simp [hi'], .refl e2, .int _⟩
theorem pid_range {n : Nat} {p : Pos} (h : PA X [a] (tDA T δ [.int (n : Nat)])) (hn : n ≤ 1000000) (hm : X.mg "range" = none) (hg : Gl X "range" := by rfl) (hs : starEach [a] X.env = [(false, eval a X.env)] := by rfl) :
    PI X tg (.Call (.Name "range" p) [a] [] pos) (piD T δ ((List.range n).map fun i => .int ((i : Nat) : Int))) :=
  pi_imp (pi_range1 hg hm h hs) fun σ H R ⟨Hs, at_, k⟩ => ⟨Hs, at_, fun v H1s H1 g1 d1 => by
    have e0 := d1.intsV (ns := [(n : Int)])
    subst e0
    refine ⟨n, rfl, by omega, by omega, ?_⟩
    have q := src_range (Hs := H1s) (lo := 0) (n := n)
    have e : (fun i : Nat => PyData.int (0 + (i : Nat))) = fun i : Nat => PyData.int ((i : Nat) : Int) := by
      funext i
      rw [Int.zero_add]
    rw [e] at q
    exact k _ H1s H1 g1 q⟩
theorem pid_range2 {m n : Nat} {p : Pos} (h : PA X [a, b] (tDA T δ [.int (m : Nat), .int (n : Nat)])) (hm1 : m ≤ 1000000) (hn : n ≤ 1000000) (hm : X.mg "range" = none) (hg : Gl X "range" := by rfl)
    (hs : starEach [a, b] X.env = [(false, eval a X.env), (false, eval b X.env)] := by rfl) (hs2 : starEach [b] X.env = [(false, eval b X.env)] := by rfl) :
    PI X tg (.Call (.Name "range" p) [a, b] [] pos) (piD T δ ((List.range (n - m)).map fun i => .int ((m + i : Nat) : Int))) :=
  pi_imp (pi_range2 hg hm h hs hs2) fun σ H R ⟨Hs, at_, k⟩ => ⟨Hs, at_, fun v H2s H2 g2 d2 => by
    have e0 := d2.intsV (ns := [(m : Int), (n : Int)])
    subst e0
    refine ⟨m, n, rfl, by omega, ?_⟩
    have q := src_range (Hs := H2s) (lo := (m : Int)) (n := n - m)
    have e : (fun i : Nat => PyData.int ((m : Int) + (i : Nat))) = fun i : Nat => PyData.int ((m + i : Nat) : Int) := by
      funext i
      rw [Int.natCast_add]
    have e2 : ((n : Int) - (m : Int)).toNat = n - m := by omega
    rw [e] at q
    rw [e2]
    exact k _ H2s H2 g2 q⟩
theorem src_enum {p : Addr} {vs : List V} {Hs : Hp} (h : Hs p = some (.lst vs)) (d : DaAll Hs vs xs) : Src (Ite K p) (enumD 0 xs) Hs := fun H1s H1 e1 e2 => by
  have h1 := SqL.of (K := K) ((e1.trans e2).lst h)
  have hl := d.len
  rw [enumD_len]
  refine ⟨fun i hi => ?_, fun i hi => ⟨vs, h1, by omega⟩, fun i v H2 hi y => ?_⟩
  · exact ⟨vs, vs[i]'(by omega), h1, List.getElem?_eq_getElem _⟩
  · obtain ⟨t, x, rfl, ht, rfl, y⟩ := y
    obtain ⟨z, q1, q2⟩ := d.getV (y vs h1)
    refine ⟨_, _, by rw [enumD_get, q1]; rfl, .new e2 ht, .tup upd_same ?_⟩
    rw [Nat.zero_add]
    exact .cons (.int _) (.one (Da_mono (e1.trans (.new (e2.back ht))) q2))
theorem pid_enum {elts : List Expr} {kk : Nat} {tpos p : Pos} (h : PA X [a] (tDA T δ [.list xs])) (hm : X.mg "enumerate" = none) (hg : Gl X "enumerate" := by rfl) (hs : starEach [a] X.env = [(false, eval a X.env)] := by rfl) :
    PI X (.Tuple elts kk tpos) (.Call (.Name "enumerate" p) [a] [] pos) (piD T δ (enumD 0 xs)) :=
  pi_imp (pi_enum hg hm h hs) fun σ H R ⟨Hs, at_, k⟩ => ⟨Hs, at_, fun v H1s H1 g1 d1 => by
    cases d1 with
    | cons d1 t =>
    cases t
    obtain ⟨p, vs, rfl, h1, h2⟩ := d1.lstV
    exact ⟨p, vs, rfl, SqL.of (g1.sub.lst h1), k _ H1s H1 g1 (src_enum h1 h2)⟩⟩
end

/-! ### targets -/
/-- from the names δ, storing x leads to δ'; the slots ks alone change -/
def TgD (g : TG) (x : PyData) (δ δ' : List Ent) (ks : List Nat) : Prop := ∀ (Hs H : Hp) (σ : L2.St) (v : V) (Q : L2.St → Hp → Prop), Ex Hs H → EnvD Hs H σ δ → Da Hs v x →
  (∀ σ', EnvD Hs H σ' δ' → (∀ i, i ∉ ks → σ'[i]? = σ[i]?) → σ'.length = σ.length → Q σ' H) → g v σ H Q
section
variable {δ : List Ent} {x y : PyData} {ks : List Nat} {K : PySem.W.Frag}
theorem tg_name {i : Nat} (hk : i ∈ ks) : TgD (gName i) x δ (δ.set i (.d x)) ks := fun Hs H σ v Q s e d k =>
  k _ (e.set d) (fun j hj => List.getElem?_set_ne (fun z => hj (by rw [← z]; exact hk))) (by simp)
theorem tg_pair {i j : Nat} (hi : i ∈ ks) (hj : j ∈ ks) : TgD (gTup K 2 (gCons (gName i) (gCons (gName j) gNil))) (.tuple [x, y]) δ ((δ.set i (.d x)).set j (.d y)) ks := fun Hs H σ v Q s e d k => by
  obtain ⟨p, vs, rfl, h1, h2⟩ := d.tupV
  cases h2 with
  | cons a t =>
    cases t with
    | cons b t2 =>
      cases t2
      refine ⟨p, _, rfl, SqT.of (s.tup h1), rfl, _, _, rfl, _, _, rfl, rfl, ?_⟩
      refine k _ ((e.set a).set b) (fun l hl => ?_) (by simp)
      rw [List.getElem?_set_ne (fun z => hl (by rw [← z]; exact hj)), List.getElem?_set_ne (fun z => hl (by rw [← z]; exact hi))]
end
theorem wipe_get {σ : L2.St} {i : Nat} : ∀ {vs : List Nat}, (L2.wipe σ vs)[i]? = if i ∈ vs then (if i < σ.length then some none else none) else σ[i]?
  | [] => by simp [L2.wipe]
  | v :: vs => by
    have ih := wipe_get (σ := σ) (i := i) (vs := vs)
    have hl := wipe_length σ vs
    show ((L2.wipe σ vs).set v none)[i]? = _
    by_cases e : v = i
    · subst e
      by_cases h : v < σ.length
      · rw [List.getElem?_set_self (by rw [hl]; exact h)]
        simp [h]
      · rw [List.getElem?_eq_none (by rw [List.length_set, hl]; omega)]
        simp [h]
    · rw [List.getElem?_set_ne e, ih]
      have e2 : ¬ i = v := fun z => e z.symm
      simp [e2]
theorem wipe_same {σ σ' : L2.St} {vs : List Nat} (hl : σ'.length = (L2.wipe σ vs).length) (h : ∀ i, i ∉ vs → σ'[i]? = (L2.wipe σ vs)[i]?) : L2.wipe σ' vs = L2.wipe σ vs := by
  have hl2 := wipe_length σ vs
  refine List.ext_getElem? fun i => ?_
  rw [wipe_get, wipe_get]
  by_cases hi : i ∈ vs
  · rw [if_pos hi, if_pos hi, hl, hl2]
  · rw [if_neg hi, if_neg hi, h i hi, wipe_get, if_neg hi]

/-! ### list comprehensions -/
section
variable {X : Cx} {T : Tx} {δ : List Ent} {elt tg iter : Expr} {ifs : List Expr} {scope : Scope} {own : List (Str × Nat)} {pos : Pos} {g : TG} {ι : Type}
theorem filt_take {α : Type} {ys : List ι} {p : ι → Bool} {f : ι → α} {i : Nat} {y : ι} (h : ys[i]? = some y) : (((ys.take (i + 1)).filter p).map f) = ((ys.take i).filter p).map f ++ (if p y = true then [f y] else []) := by
  rw [List.take_add_one, h, List.filter_append, List.map_append]
  show _ ++ List.map f (List.filter p [y]) = _
  cases hp : p y <;> simp [hp]
/-- the reading: from the iterator to the new list -/
theorem lc_read {ys : List ι} {enc : ι → PyData} {δx : ι → List Ent} {p : ι → Bool} {f : ι → PyData} (hl : ys.length ≤ 1000000)
    (htg : ∀ y ∈ ys, TgD g (enc y) (wipeD δ (own.map (·.2))) (δx y) (own.map (·.2))) {σ : L2.St} {H : Hp} {Q : VK}
    (h : tD T δ (.list ((ys.filter p).map f)) σ H Q) :
    tLc (piD T δ (ys.map enc)) g (fun σ H Q => ∃ y, y ∈ ys ∧ tDT T (δx y) (p y) σ H Q) (fun σ H Q => ∃ y, (y ∈ ys ∧ p y = true) ∧ tD T (δx y) (f y) σ H Q) (own.map (·.2)) σ H Q := by
  obtain ⟨Hs, at_, k⟩ := h
  refine ⟨Hs, at_, fun J H1s H1 g1 src D hD => ?_⟩
  have hDs := g1.sub.back hD
  have at1 := at_.mono g1
  refine ⟨fun i m H' => m = ys.length - i ∧ i ≤ ys.length ∧ ∃ His vs, Grow H1s H1 His H' ∧ His D = none ∧ H' D = some (.lst vs) ∧ DaAll His vs (((ys.take i).filter p).map f),
    ⟨ys.length, by simp, Nat.zero_le _, H1s, [], .up g1.sub (.new hD), hDs, upd_same, .nil⟩, ?_⟩
  rintro i m H2 ⟨rfl, hi, H2s, vs, g2, d1, d2, d3⟩
  obtain ⟨sgo, sst, sy⟩ := src H2s H2 g2.base g2.sub
  rw [List.length_map] at sgo sst sy
  by_cases hlt : i < ys.length
  · refine .inr ⟨sgo i hlt, fun H' => ∃ m', m' < ys.length - i ∧ (m' = ys.length - (i + 1) ∧ i + 1 ≤ ys.length ∧ ∃ His vs, Grow H1s H1 His H' ∧ His D = none ∧ H' D = some (.lst vs) ∧ DaAll His vs (((ys.take (i + 1)).filter p).map f)), fun H' q => q, fun v H3 y3 => ?_⟩
    obtain ⟨d, H3s, e1, g3, e3⟩ := sy i v H3 hlt y3
    rw [List.getElem?_map, List.getElem?_eq_getElem hlt] at e1
    have e1 : enc ys[i] = d := Option.some.inj e1
    subst e1
    have hm : ys[i] ∈ ys := List.getElem_mem hlt
    have hy : ys[i]? = some ys[i] := List.getElem?_eq_getElem hlt
    generalize ys[i] = y at hm e3 hy
    have a3 := (at1.mono g2).mono g3
    refine htg y hm H3s H3 _ v _ g3.sub (a3.env.wipe _) e3 fun σ2 env2 hs2 hl2 => ⟨wipe_same hl2 hs2, y, hm, H3s, ⟨g3.sub, env2, a3.tabs⟩, fun H4s H4 g4 => ?_⟩
    have D4 : H4s D = none := g4.own D (g3.own D d1 (by rw [d2]; simp)) (g3.heap.isSome (by rw [d2]; simp))
    have G4 := (g2.trans g3).trans g4
    cases hp : p y with
    | false =>
      refine iteF ⟨_, by omega, rfl, hlt, H4s, vs, G4, D4, g4.heap.lst (g3.heap.lst d2), ?_⟩
      rw [filt_take hy, hp]
      simpa using DaAll_mono (g3.base.trans g4.base) d3
    | true =>
      refine iteT ⟨y, ⟨hm, hp⟩, H4s, ⟨g4.sub, env2.mono g4, a3.tabs.mono g4⟩, fun w H5s H5 g5 e5 => ?_⟩
      have D5 : H5s D = none := g5.own D D4 (g4.heap.isSome (g3.heap.isSome (by rw [d2]; simp)))
      have G5 := G4.trans g5
      have hvl : vs.length ≤ 1000000 := by
        rw [d3.len, List.length_map]
        refine Nat.le_trans (List.length_filter_le _ _) (Nat.le_trans (List.length_take_le _ _) ?_)
        omega
      refine ⟨vs, g5.heap.lst (g4.heap.lst (g3.heap.lst d2)), by rw [sizeLine_eq]; omega, _, by omega, rfl, hlt, H5s, vs ++ [w], ⟨G5.base, G5.heap.newR hD, G5.sub.newR D5, G5.own⟩, D5, upd_same, ?_⟩
      rw [filt_take hy, hp]
      exact (DaAll_mono ((g3.base.trans g4.base).trans g5.base) d3).app (.one e5)
  · have e : i = ys.length := by omega
    subst e
    refine .inl ⟨sst _ rfl, ?_⟩
    rw [List.take_length] at d3
    refine k (.ref D) (upd H2s D (.lst vs)) H2 (g1.trans ⟨g2.base.newR hDs, g2.heap, fun a o q => ?_, fun q h1 h2 => ?_⟩) (.lst upd_same (DaAll_mono (.new d1) d3))
    · by_cases ha : a = D
      · subst ha
        rw [upd_same] at q
        cases q
        exact .inl d2
      · rw [upd_ne ha] at q
        exact g2.sub a o q
    · have hq : q ≠ D := fun z => h2 (by rw [z]; exact hD)
      rw [upd_ne hq]
      exact g2.own q h1 h2
/-- [elt for tg in iter if ..] -/
theorem pd_lc (ys : List ι) (enc : ι → PyData) (δx : ι → List Ent) (p : ι → Bool) (f : ι → PyData) (hc : X.calm = true) (hN : X.N.Nodup) (hi : PI X tg iter (piD T δ (ys.map enc))) (hl : ys.length ≤ 1000000) (ok : BlkOk X.N X.env.scope scope own)
    (hg : ∀ (s : Shared) (H : Hp) (C : Addr) (cl : List (Str × Addr)) (fp : List Addr), PG (X.blk s H scope (compEnvC scope cl C X.env) fp) tg g)
    (htg : ∀ y ∈ ys, TgD g (enc y) (wipeD δ (own.map (·.2))) (δx y) (own.map (·.2)))
    (ht : ∀ (s : Shared) (H : Hp) (C : Addr) (cl : List (Str × Addr)) (fp : List Addr), ∀ y ∈ ys, PTs (X.blk s H scope (compEnvC scope cl C X.env) fp) ifs (tDT T (δx y) (p y)))
    (he : ∀ (s : Shared) (H : Hp) (C : Addr) (cl : List (Str × Addr)) (fp : List Addr), ∀ y ∈ ys, p y = true → PE (X.blk s H scope (compEnvC scope cl C X.env) fp) elt (tD T (δx y) (f y)))
    (hs : ∀ x, foldedSetIterable iter X.env x = pure x := by intro _; rfl) :
    PE X (.ListComp elt [⟨tg, iter, ifs, 0⟩] scope pos) (tD T δ (.list ((ys.filter p).map f))) := by
  refine pe_imp (pe_lc (g := g) (own := own) (tt := fun σ H Q => ∃ y, y ∈ ys ∧ tDT T (δx y) (p y) σ H Q) (te := fun σ H Q => ∃ y, (y ∈ ys ∧ p y = true) ∧ tD T (δx y) (f y) σ H Q) hc hN hi ok hg ?_ ?_ hs) fun σ H Q h => lc_read hl htg h
  · intro s H C cl fp
    exact ⟨fun pins s σ H Q I ⟨y, hy, q⟩ => (ht _ _ _ _ _ y hy).run pins s σ H Q I q⟩
  · intro s H C cl fp
    exact ⟨fun pins s σ H Q I ⟨y, hy, q⟩ => (he _ _ _ _ _ y hy.1 hy.2).run pins s σ H Q I q⟩
theorem pts_no {T : Tx} {δ : List Ent} {X : Cx} : PTs X [] (tDT T δ true) := ⟨fun pins s σ H Q I ⟨Hs, at_, k⟩ => pts_nil.run pins s σ H Q I (k Hs H (.refl at_.sub))⟩
end
end K28

set_option Elab.async false
set_option linter.all false
set_option maxRecDepth 100000
set_option maxHeartbeats 2000000
namespace K28
open PySem PySem.Spec PyProof.Rows L2

/-! ### statements by data -/
inductive Out where
  | nx (δ : List Ent) | rt (x : PyData)
/-- the lists of the def's own are younger than its entry -/
def Own0 (H0 : Hp) (σ : L2.St) (δ : List Ent) : Prop := ∀ (i : Nat) (e : Ent) p, δ[i]? = some e → e.mine → σ[i]? = some (some (V.ref p)) → H0 p = none
structure Bt (T : Tx) (H0s H0 Hs H : Hp) (σ : L2.St) (δ : List Ent) : Prop where
  gr : Grow H0s H0 Hs H
  env : EnvD Hs H σ δ
  own : Own0 H0 σ δ
  tabs : Tabs T Hs H
def Fin (H0s H0 : Hp) (T : Tx) (Hs : Hp) (o : Out) (D : Ends) : Prop := match o with
  | .nx δ' => ∀ σ' Hs' H', Ex Hs Hs' → Bt T H0s H0 Hs' H' σ' δ' → D.nx σ' H'
  | .rt x => ∀ v Hs' H', Grow H0s H0 Hs' H' → Da Hs' v x → D.rt v H'
def tS (T : Tx) (H0s H0 : Hp) (δ : List Ent) (o : Out) : TS := fun D σ H => ∃ Hs, Bt T H0s H0 Hs H σ δ ∧ Fin H0s H0 T Hs o D
theorem Fin.up {H0s H0 Hs Hs' : Hp} {T : Tx} {o : Out} {D : Ends} (k : Fin H0s H0 T Hs o D) (e : Ex Hs Hs') : Fin H0s H0 T Hs' o D := by
  cases o with
  | nx δ' => exact fun σ2 H2s H2 e2 b2 => k σ2 H2s H2 (e.trans e2) b2
  | rt x => exact k
section
variable {T : Tx} {H0s H0 Hs H Hs' H' : Hp} {σ : L2.St} {δ : List Ent}
theorem Bt.at (b : Bt T H0s H0 Hs H σ δ) : At T Hs H σ δ := ⟨b.gr.sub, b.env, b.tabs⟩
theorem Bt.mono (b : Bt T H0s H0 Hs H σ δ) (g : Grow Hs H Hs' H') : Bt T H0s H0 Hs' H' σ δ := ⟨b.gr.trans g, b.env.mono g, b.own, b.tabs.mono g⟩
theorem Own0.set (h : Own0 H0 σ δ) {i : Nat} {o : Option V} {x : Ent} (hx : ¬ x.mine) : Own0 H0 (σ.set i o) (δ.set i x) := fun j e p q1 m q2 => by
  rcases set_get q1 with ⟨rfl, q3, _⟩ | ⟨ne, q1⟩
  · exact (hx (q3 ▸ m)).elim
  · rw [List.getElem?_set_ne ne] at q2
    exact h j e p q1 m q2
theorem Bt.set (b : Bt T H0s H0 Hs H σ δ) {i : Nat} {v : V} {x : PyData} (d : Da Hs v x) : Bt T H0s H0 Hs H (σ.set i (some v)) (δ.set i (.d x)) :=
  ⟨b.gr, b.env.set d, b.own.set (fun z => z), b.tabs⟩
theorem Own0.less (h : Own0 H0 σ δ) {δ' : List Ent} (hh : ∀ (i : Nat) x, δ'[i]? = some x → x = .no ∨ δ[i]? = some x) : Own0 H0 σ δ' := fun j e p q1 m q2 => by
  rcases hh j _ q1 with z | z
  · subst z
    exact m.elim
  · exact h j e p z m q2
/-- δ' says no more than δ -/
def Less (δ' δ : List Ent) : Prop := δ'.length = δ.length ∧ ∀ (i : Nat) x, δ'[i]? = some x → x = .no ∨ δ[i]? = some x
theorem Less.refl (δ : List Ent) : Less δ δ := ⟨rfl, fun _ _ h => .inr h⟩
theorem Less.drop (δ : List Ent) (i : Nat) : Less (δ.set i .no) δ := ⟨by simp, fun j x h => by
  rcases set_get h with ⟨_, q, _⟩ | ⟨_, q⟩
  · exact .inl q
  · exact .inr q⟩
def lessB : List Ent → List Ent → Prop
  | [], [] => True
  | .no :: r, _ :: s => lessB r s
  | x :: r, y :: s => x = y ∧ lessB r s
  | _, _ => False
theorem less_of : ∀ {a b : List Ent}, lessB a b → Less a b
  | [], [], _ => .refl _
  | .no :: r, y :: s, h => by
    obtain ⟨h1, h2⟩ := less_of (a := r) (b := s) h
    refine ⟨by simp [h1], fun i x q => ?_⟩
    cases i with
    | zero => exact .inl (by simpa using q.symm)
    | succ i => simpa using h2 i x (by simpa using q)
  | .d x :: r, y :: s, h => by
    obtain ⟨rfl, h⟩ := h
    obtain ⟨h1, h2⟩ := less_of (a := r) (b := s) h
    refine ⟨by simp [h1], fun i x q => ?_⟩
    cases i with
    | zero => exact .inr q
    | succ i => simpa using h2 i x (by simpa using q)
  | .own x :: r, y :: s, h => by
    obtain ⟨rfl, h⟩ := h
    obtain ⟨h1, h2⟩ := less_of (a := r) (b := s) h
    refine ⟨by simp [h1], fun i x q => ?_⟩
    cases i with
    | zero => exact .inr q
    | succ i => simpa using h2 i x (by simpa using q)
  | .dct x :: r, y :: s, h => by
    obtain ⟨rfl, h⟩ := h
    obtain ⟨h1, h2⟩ := less_of (a := r) (b := s) h
    refine ⟨by simp [h1], fun i x q => ?_⟩
    cases i with
    | zero => exact .inr q
    | succ i => simpa using h2 i x (by simpa using q)
theorem Bt.less (b : Bt T H0s H0 Hs H σ δ) {δ' : List Ent} (l : Less δ' δ) : Bt T H0s H0 Hs H σ δ' := ⟨b.gr, b.env.less l.1 l.2, b.own.less l.2, b.tabs⟩
/-- the def's own objects of a are those of b, and none stands at ks (i: where the lists begin) -/
def mineSub (ks : List Nat) : Nat → List Ent → List Ent → Prop
  | _, [], _ => True
  | _, _ :: _, [] => False
  | i, .no :: r, _ :: s => mineSub ks (i + 1) r s
  | i, .d _ :: r, _ :: s => mineSub ks (i + 1) r s
  | i, .own xs :: r, e :: s => e = .own xs ∧ i ∉ ks ∧ mineSub ks (i + 1) r s
  | i, .dct D :: r, e :: s => e = .dct D ∧ i ∉ ks ∧ mineSub ks (i + 1) r s
theorem mineSub_get {ks : List Nat} : ∀ {a b : List Ent} {i : Nat}, mineSub ks i a b → ∀ (j : Nat) e, a[j]? = some e → e.mine → b[j]? = some e ∧ i + j ∉ ks
  | [], _, _, _, j, e, h, _ => by simp at h
  | _ :: _, [], _, f, _, _, _, _ => f.elim
  | x :: r, y :: s, i, f, 0, e, h, m => by
    have h : x = e := by simpa using h
    subst h
    cases x with
    | no => exact m.elim
    | d x => exact m.elim
    | own xs => exact ⟨by simpa using f.1, f.2.1⟩
    | dct D => exact ⟨by simpa using f.1, f.2.1⟩
  | x :: r, y :: s, i, f, j + 1, e, h, m => by
    have f2 : mineSub ks (i + 1) r s := by
      cases x with
      | no => exact f
      | d x => exact f
      | own xs => exact f.2.2
      | dct D => exact f.2.2
    obtain ⟨h1, h2⟩ := mineSub_get f2 j e (by simpa using h) m
    exact ⟨by simpa using h1, by rw [show i + (j + 1) = i + 1 + j by omega]; exact h2⟩
end
section
variable {X : Cx} {T : Tx} {H0s H0 : Hp} {δ δ1 δ2 : List Ent} {o : Out} {st : Stmt} {sts rest A B : List Stmt} {e c tg iter : Expr} {x : PyData} {pos : Pos}
theorem pds_nil : PSs X [] (tS T H0s H0 δ (.nx δ)) := pss_imp pss_nil fun D σ H ⟨Hs, b, k⟩ => k σ Hs H (.refl _) b
theorem pds_cons (h1 : PS X st (tS T H0s H0 δ (.nx δ1))) (h2 : PSs X rest (tS T H0s H0 δ1 o)) : PSs X (st :: rest) (tS T H0s H0 δ o) :=
  pss_imp (pss_cons h1 h2) fun D σ H ⟨Hs, b, k⟩ => ⟨Hs, b, fun σ' Hs' H' e b' => ⟨Hs', b', by
    cases o with
    | nx δ' => exact fun σ2 H2s H2 e2 b2 => k σ2 H2s H2 (e.trans e2) b2
    | rt x => exact k⟩⟩
theorem pds_one (h1 : PS X st (tS T H0s H0 δ o)) : PSs X [st] (tS T H0s H0 δ o) := pss_one h1
/-- what is left behind a return is not come to -/
theorem pds_end (h1 : PS X st (tS T H0s H0 δ (.rt x))) : PSs X (st :: rest) (tS T H0s H0 δ (.rt x)) :=
  pss_imp (pss_cons h1 pss_never) fun D σ H ⟨Hs, b, k⟩ => ⟨Hs, b, k⟩
theorem pds_less (l : Less δ1 δ) (h : PSs X sts (tS T H0s H0 δ1 o)) : PSs X sts (tS T H0s H0 δ o) := pss_imp h fun D σ H ⟨Hs, b, k⟩ => ⟨Hs, b.less l, k⟩
theorem pds_weak (l : Less δ2 δ1) (h : PSs X sts (tS T H0s H0 δ (.nx δ1))) : PSs X sts (tS T H0s H0 δ (.nx δ2)) := pss_imp h fun D σ H ⟨Hs, b, k⟩ => ⟨Hs, b, fun σ' Hs' H' e b' => k σ' Hs' H' e (b'.less l)⟩
theorem pds_ret (h : PE X e (tD T δ x)) : PS X (.Return (some e) pos) (tS T H0s H0 δ (.rt x)) :=
  ps_imp (ps_ret h) fun D σ H ⟨Hs, b, k⟩ => ⟨Hs, b.at, fun v Hs' H' g d => k v Hs' H' (b.gr.trans g) d⟩
theorem pds_expr (h : PE X e (tD T δ x)) (hs : swapsWith e none pos.line X.env = pure false := by rfl) : PS X (.Expr e pos) (tS T H0s H0 δ (.nx δ)) :=
  ps_imp (ps_expr h hs) fun D σ H ⟨Hs, b, k⟩ => ⟨Hs, b.at, fun v Hs' H' g d => k σ Hs' H' g.base (b.mono g)⟩
theorem pds_set (i : Nat) {s : Str} {ps : Pos} (hN : X.N.Nodup) (h : PE X e (tD T δ x)) (hi : X.N[i]? = some s := by rfl) (hx : Loc X.env.scope s := by first | exact Or.inl rfl | exact Or.inr rfl) (hs : swapsWith e (some (.Name s ps)) pos.line X.env = pure false := by rfl)
    (hf : X.fn s = true ∨ X.env.scope.names.lookup s = some .local := by first | exact .inl rfl | exact .inr rfl | assumption) : PS X (.Assign [.Name s ps] e pos) (tS T H0s H0 δ (.nx (δ.set i (.d x)))) :=
  ps_imp (ps_set hN hi hx h hs hf) fun D σ H ⟨Hs, b, k⟩ => ⟨Hs, b.at, fun v Hs' H' g d => k _ Hs' H' g.base ((b.mono g).set d)⟩
theorem pds_if {k : Bool} (hc : PT X c (tDT T δ k)) (hA : k = true → PSs X A (tS T H0s H0 δ o)) (hB : k = false → PSs X B (tS T H0s H0 δ o)) : PS X (.If c A B pos) (tS T H0s H0 δ o) :=
  ps_imp (ps_if hc (pss_if hA) (pss_if hB)) fun D σ H ⟨Hs, b, kk⟩ => ⟨Hs, b.at, fun Hs' H' g => by
    cases k with
    | true => exact iteT ⟨rfl, Hs', b.mono g, kk.up g.base⟩
    | false => exact iteF ⟨rfl, Hs', b.mono g, kk.up g.base⟩⟩
theorem pds_ifF (hc : PT X c (tDT T δ false)) (hB : PSs X B (tS T H0s H0 δ o)) : PS X (.If c A B pos) (tS T H0s H0 δ o) := pds_if hc (fun z => by cases z) fun _ => hB
theorem pds_ifT (hc : PT X c (tDT T δ true)) (hA : PSs X A (tS T H0s H0 δ o)) : PS X (.If c A B pos) (tS T H0s H0 δ o) := pds_if hc (fun _ => hA) (fun z => by cases z)
theorem pds_while {test : Expr} {body : List Stmt} (n : Nat) (δs : Nat → List Ent) (h0 : δs 0 = δ) (hp : PassesOwn (model X.prog X.w) X.A X.env X.xe) (hc : ∀ k, k ≤ n → PT X test (tDT T (δs k) (decide (k < n)))) (hb : ∀ k, k < n → PSs X body (tS T H0s H0 (δs k) (.nx (δs (k + 1))))) :
    PS X (.While test body [] pos) (tS T H0s H0 δ (.nx (δs n))) := by
  have hc' : PT X test (fun σ H Q => ∃ k, k ≤ n ∧ tDT T (δs k) (decide (k < n)) σ H Q) := ⟨fun pins s σ H Q I ⟨k, hk, q⟩ => (hc k hk).run pins s σ H Q I q⟩
  have hb' : PSs X body (fun D σ H => ∃ k, k < n ∧ tS T H0s H0 (δs k) (.nx (δs (k + 1))) D σ H) := ⟨fun pins s σ H D I ⟨k, hk, q⟩ => (hb k hk).run pins s σ H D I q⟩
  refine ps_imp (ps_while hp hc' hb') fun D σ H ⟨Hs, b, kk⟩ => ?_
  subst h0
  refine ⟨fun m σ H => ∃ k H1s, k ≤ n ∧ m = n - k ∧ Ex Hs H1s ∧ Bt T H0s H0 H1s H σ (δs k), ⟨n, 0, Hs, Nat.zero_le _, rfl, .refl _, b⟩, ?_⟩
  rintro m σ1 H1 ⟨k, H1s, hk, rfl, e1, b1⟩
  refine ⟨k, hk, H1s, b1.at, fun H2s H2 g => ?_⟩
  by_cases hlt : k < n
  · rw [decide_eq_true hlt]
    refine iteT ⟨fun σ' H' => ∃ H3s, Ex Hs H3s ∧ Bt T H0s H0 H3s H' σ' (δs (k + 1)), fun σ' H' ⟨H3s, e3, b3⟩ => ⟨n - (k + 1), by omega, k + 1, H3s, hlt, rfl, e3, b3⟩, k, hlt, H2s, b1.mono g, fun σ' Hs' H' e' b' => ⟨Hs', (e1.trans g.base).trans e', b'⟩⟩
  · rw [decide_eq_false hlt]
    have e : k = n := by omega
    subst e
    exact iteF (kk σ1 H2s H2 (e1.trans g.base) (b1.mono g))
theorem pds_for {body : List Stmt} {ι : Type} {g : TG} {ks : List Nat} (ys : List ι) (enc : ι → PyData) (δs : Nat → List Ent) (δt : Nat → ι → List Ent) (h0 : δs 0 = δ) (hp : PassesOwn (model X.prog X.w) X.A X.env X.xe) (hc : X.calm = true) (hi : PI X tg iter (piD T δ (ys.map enc))) (hg : PG X tg g)
    (htg : ∀ k y, ys[k]? = some y → TgD g (enc y) (δs k) (δt k y) ks) (hm : ∀ k y (i : Nat) e, (δt k y)[i]? = some e → e.mine → (δs k)[i]? = some e ∧ i ∉ ks)
    (hb : ∀ k y, ys[k]? = some y → PSs X body (tS T H0s H0 (δt k y) (.nx (δs (k + 1)))))
    (hs : ∀ x, foldedSetIterable iter X.env x = pure x := by intro _; rfl) : PS X (.For tg iter body [] pos) (tS T H0s H0 δ (.nx (δs ys.length))) := by
  have hb' : PSs X body (fun D σ H => ∃ k y, ys[k]? = some y ∧ tS T H0s H0 (δt k y) (.nx (δs (k + 1))) D σ H) := ⟨fun pins s σ H D I ⟨k, y, hy, q⟩ => (hb k y hy).run pins s σ H D I q⟩
  refine ps_imp (ps_for hp hc hi hg hb' hs) fun D σ H ⟨Hs, b, kk⟩ => ⟨Hs, b.at, fun J H1s H1 g1 src => ?_⟩
  subst h0
  refine ⟨fun i m σ H => m = ys.length - i ∧ i ≤ ys.length ∧ ∃ His, Ex H1s His ∧ Bt T H0s H0 His H σ (δs i), ⟨ys.length, by simp, Nat.zero_le _, H1s, .refl _, b.mono g1⟩, ?_⟩
  rintro i m σ2 H2 ⟨rfl, hil, H2s, e2, b2⟩
  obtain ⟨sgo, sst, sy⟩ := src H2s H2 e2 b2.gr.sub
  rw [List.length_map] at sgo sst sy
  by_cases hlt : i < ys.length
  · refine .inr ⟨sgo i hlt, fun σ' H' => ∃ H3s, Ex H1s H3s ∧ Bt T H0s H0 H3s H' σ' (δs (i + 1)), fun σ' H' ⟨H3s, e3, b3⟩ => ⟨ys.length - (i + 1), by omega, rfl, hlt, H3s, e3, b3⟩, fun v H3 y3 => ?_⟩
    obtain ⟨d, H3s, q1, g3, d3⟩ := sy i v H3 hlt y3
    rw [List.getElem?_map, List.getElem?_eq_getElem hlt] at q1
    have q1 : enc ys[i] = d := Option.some.inj q1
    subst q1
    have hy : ys[i]? = some ys[i] := List.getElem?_eq_getElem hlt
    generalize ys[i] = y at hy d3
    have b3 := b2.mono g3
    refine htg i y hy H3s H3 σ2 v _ g3.sub b3.env d3 fun σ' env' hs' hl' => ⟨i, y, hy, H3s, ⟨b3.gr, env', fun j e p w1 m w2 => ?_, b3.tabs⟩, fun σ4 H4s H4 e4 b4 => ⟨H4s, (e2.trans g3.base).trans e4, b4⟩⟩
    obtain ⟨h1, hj⟩ := hm i y j e w1 m
    rw [hs' j hj] at w2
    exact b3.own j e p h1 m w2
  · have e : i = ys.length := by omega
    subst e
    exact .inl ⟨sst _ rfl, kk σ2 H2s H2 (g1.base.trans e2) b2⟩
end
end K28

set_option Elab.async false
set_option linter.all false
set_option maxRecDepth 100000
set_option maxHeartbeats 2000000
namespace K28
open PySem PySem.Spec PyProof.Rows L2

/-! ### a def's body -/
def δ0 (N : List Str) (ds : List PyData) : List Ent := ds.map .d ++ List.replicate (N.length - ds.length) .no
theorem δ0_get {N : List Str} {ds : List PyData} (i : Nat) (x : Ent) (q : (δ0 N ds)[i]? = some x) : x = .no ∨ ∃ d, ds[i]? = some d ∧ x = .d d := by
  unfold δ0 at q
  by_cases hi : i < ds.length
  · rw [List.getElem?_append_left (by simpa using hi), List.getElem?_map, List.getElem?_eq_getElem hi] at q
    exact .inr ⟨_, List.getElem?_eq_getElem hi, (Option.some.inj q).symm⟩
  · rw [List.getElem?_append_right (by simpa using hi), List.getElem?_replicate] at q
    split at q
    · exact .inl (Option.some.inj q).symm
    · cases q
theorem δ0_mine {N : List Str} {ds : List PyData} {i : Nat} {x : Ent} (q : (δ0 N ds)[i]? = some x) : ¬ x.mine := by
  rcases δ0_get i x q with rfl | ⟨d, _, rfl⟩ <;> exact fun z => z
theorem env_start {Hs H : Hp} {N : List Str} {vs : List V} {ds : List PyData} (h : DaAll Hs vs ds) : EnvD Hs H (L2.start N vs) (δ0 N ds) := by
  have hl := h.len
  refine ⟨by unfold L2.start δ0; simp [hl], fun i x q => ?_, fun i x q => (δ0_mine q trivial).elim, fun i j xs ys p r _ q _ _ _ => (δ0_mine q trivial).elim, fun i D q => (δ0_mine q trivial).elim⟩
  rcases δ0_get i _ q with z | ⟨d, z, e⟩
  · cases z
  · cases e
    obtain ⟨v, h1, h2⟩ := h.get z
    refine ⟨v, ?_, h2⟩
    unfold L2.start
    rw [List.getElem?_append_left (by rw [List.length_map]; exact (List.getElem?_eq_some_iff.mp h1).1), List.getElem?_map, h1]
    rfl
abbrev BX (P : Program) (w : World) (K : PySem.W.Frag) (mg : Str → Option Value) (base : Heap) (N : List Str) (qual : Str) (st : Stmt) (f : Addr) (cdv : Value) (A : Around) (outer : List Env) (s : Shared) (H : Hp) (E : XK) : Cx :=
  (cxOf CX0 P w K mg base N qual (defScope st) f cdv A outer s H E).nox
section
variable {P : Program} {w : World} {K : PySem.W.Frag} {mg : Str → Option Value} {base : Heap} {T : Tx}
theorem fn_data {x qual : Str} {st : Stmt} {f : Addr} {fd : FuncData} {N ps : List Str} {k : Nat} {R : List PyData → PyData → Prop} (F : Fun K x qual st f fd) (S : FnScope N ps (defScope st)) (hm : mg x = some (.ref f))
    (hb : Binds K fd ps []) (len : ∀ ds r, R ds r → ds.length = ps.length)
    (hbody : ∀ (cdv : Value) (A : Around) (outer : List Env) (s : Shared) (H : Hp) (E : XK) (H0s H0 : Hp) (ds : List PyData) (r : PyData), Room k (A.deeper (envOfC qual (defScope st) s.heap.objs.size f cdv)) → R ds r →
      ∃ o, (o = .rt r ∨ ∃ δ', o = .nx δ' ∧ r = .none) ∧ PSs (BX P w K mg base N qual st f cdv A outer s H E) (defBody st) (tS T H0s H0 (δ0 N ds) o)) : Has P w K mg base T x (k + 1) R := by
  refine ⟨f, fd, ps, F.ok S (fun vs H Q E h => ?_) (fun cdv A outer s H vs Q E hr h => ?_), hm, F.kp, hb⟩
  · obtain ⟨Hs, ds, r, _, d, hR, _⟩ := h
    rw [d.len]
    exact len ds r hR
  · obtain ⟨Hs, ds, r, sub, d, hR, tb, q⟩ := h
    obtain ⟨o, ho, hp⟩ := hbody cdv A outer s H E Hs H ds r hr hR
    refine ⟨_, hp, Hs, ⟨.refl sub, env_start d, fun i e p w1 m _ => (δ0_mine w1 m).elim, tb⟩, ?_⟩
    · rcases ho with rfl | ⟨δ', rfl, rfl⟩
      · exact fun v Hs' H' g dd => q v Hs' H' g dd
      · exact fun σ' Hs' H' _ b => q .non Hs' H' b.gr .non
end

/-! ### isinstance -/
def tyD : PyData → String
  | .none => "NoneType" | .bool _ => "bool" | .int _ => "int" | .list _ => "list" | .tuple _ => "tuple" | .str _ => "str" | .dict _ => "dict"
def plTop : PyData → Bool
  | .dict _ => false
  | _ => true
theorem ty_of {K : PySem.W.Frag} {H : Hp} {v : V} {x : PyData} (h : Da H v x) (hp : plTop x = true) : TyX K H v (.type (tyD x)) := by
  cases h with
  | non => exact .base .non
  | bl b => exact .base (.bl b)
  | int i => exact .base (.int i)
  | lst h _ => exact .base (.lst h)
  | tup h _ => exact .base (.tup h)
  | obj h => cases hp
section
variable {X : Cx} {T : Tx} {δ : List Ent} {a : Expr} {x : PyData} {pos p q : Pos} {b : Bool}
theorem boot_isi : bootBuiltins (Str.ofString "isinstance") = some (.builtin "isinstance") := by decide +kernel
theorem pd_isi {n : Str} {c : String} (ha : PE X a (tD T δ x)) (hk : kitB (tyD x) c = some b) (hv : bootBuiltins n = some (.type c)) (hm : X.mg "isinstance" = none) (hm2 : X.mg n = none) (hpl0 : plTop x = true := by rfl) (hg : Gl X "isinstance" := by rfl) (hg2 : Gl X n := by rfl) (hn : n ≠ "__name__" := by decide)
    (hdb : (n == ("__debug__" : Str)) = false := by decide) (he : starEach [a, .Name n q] X.env = (false, eval a X.env) :: starEach [.Name n q] X.env := by rfl) (he2 : starEach [.Name n q] X.env = (false, eval (.Name n q) X.env) :: starEach [] X.env := by rfl)
    (hpl : (backTo pos (starEach [.Name n q] X.env)).any (·.1) = false := by rfl) : PE X (.Call (.Name "isinstance" p) [a, .Name n q] [] pos) (tD T δ (.bool b)) :=
  pe_imp (pe_callB call_isi hg hm boot_isi (pa_cons ha (pa_cons (pe_bltn (v := .ty c) hg2 hm2 hv rfl hn hdb) pa_nil he2) he) (he := he) (hpl := hpl)) fun σ H Q ⟨Hs, at_, k⟩ => ⟨Hs, at_, fun v H1s H1 g1 d1 =>
    ⟨v, .ty c, .type (tyD x), .type c, b, rfl, .ty c, ty_of (Da_mono g1.sub d1) hpl0, kit_ty hk, k _ H1s H1 g1 (.bl _)⟩⟩
theorem kit_int_int : kitB "int" "int" = some true := by decide +kernel
theorem kit_int_bool : kitB "int" "bool" = some false := by decide +kernel
theorem kit_tup_tup : kitB "tuple" "tuple" = some true := by decide +kernel
theorem boot_int : bootBuiltins (Str.ofString "int") = some (.type "int") := by decide +kernel
theorem boot_bool : bootBuiltins (Str.ofString "bool") = some (.type "bool") := by decide +kernel
theorem boot_tuple : bootBuiltins (Str.ofString "tuple") = some (.type "tuple") := by decide +kernel
theorem boot_list : bootBuiltins (Str.ofString "list") = some (.type "list") := by decide +kernel
theorem boot_str : bootBuiltins (Str.ofString "str") = some (.type "str") := by decide +kernel
theorem boot_min : bootBuiltins (Str.ofString "min") = some (.builtin "min") := by decide +kernel
theorem boot_max : bootBuiltins (Str.ofString "max") = some (.builtin "max") := by decide +kernel
theorem boot_len : bootBuiltins (Str.ofString "len") = some (.builtin "len") := by decide +kernel
theorem boot_sorted : bootBuiltins (Str.ofString "sorted") = some (.builtin "sorted") := by decide +kernel
end

/-! ### the text -/
def top (i : Nat) : Stmt := PySem.Challenge.pw_foescome_k28_whole_telling.main.body.getD i (.Pass ⟨0, 0, 0, 0⟩)
/-- the names that are the built-ins -/
structure Bi (mg : Str → Option Value) : Prop where
  isinstance : mg "isinstance" = none
  int : mg "int" = none
  bool : mg "bool" = none
  tuple : mg "tuple" = none
  list : mg "list" = none
  str : mg "str" = none
  len : mg "len" = none
  min : mg "min" = none
  max : mg "max" = none
  any : mg "any" = none
  all : mg "all" = none
  range : mg "range" = none
  sorted : mg "sorted" = none
  enumerate : mg "enumerate" = none
  set : mg "set" = none

/-! ### data -/
structure Web where
  n : Nat
  ps : List (Nat × Nat)
  deriving DecidableEq
def nD (i : Nat) : PyData := .int (i : Nat)
def prD (p : Nat × Nat) : PyData := .tuple [nD p.1, nD p.2]
def webD (W : Web) : PyData := .tuple [nD W.n, .tuple (W.ps.map prD)]
def lotD (l : List Nat) : PyData := .tuple (l.map nD)
def memB {α : Type} [DecidableEq α] (x : α) (xs : List α) : Bool := xs.any fun y => decide (y = x)
theorem memB_iff {α : Type} [DecidableEq α] {x : α} {xs : List α} : memB x xs = true ↔ x ∈ xs := by
  unfold memB
  rw [List.any_eq_true]
  constructor
  · rintro ⟨y, hy, e⟩
    rw [← of_decide_eq_true e]
    exact hy
  · intro h
    exact ⟨x, h, by simp⟩
def areFoes (W : Web) (a b : Nat) : Bool := memB (min a b, max a b) W.ps
def foesL (W : Web) (p : Nat) : List Nat := (List.range W.n).filter fun o => areFoes W p o

section
variable {P : Program} {w : World} {K : PySem.W.Frag} {mg : Str → Option Value} {base : Heap} {T : Tx}
/-! ### is_in -/
def rIs_in : List PyData → PyData → Prop := fun ds r => ∃ v a b : Int, ds = [.int v, .int a, .int b] ∧ r = .bool (decide (a ≤ v) && decide (v ≤ b))
abbrev s_is_in : Stmt := top 9
theorem sc_is_in : FnScope ["value", "least", "most"] ["value", "least", "most"] (defScope s_is_in) := ⟨rfl, rfl, rfl, by decide +kernel, rfl, by decide +kernel, by decide +kernel⟩
theorem h_is_in {f : Addr} {fd : FuncData} (F : Fun K "is_in" "is_in" s_is_in f fd) (hm : mg "is_in" = some (.ref f)) (B : Bi mg) : Has P w K mg base T "is_in" 1 rIs_in := by
  refine fn_data F sc_is_in hm (F.binds fun _ _ _ _ _ _ us hl => match us, hl with | [_, _, _], _ => rfl) (fun ds r h => ?_) fun cdv A outer s H E H0s H0 ds r hr hR => ?_
  · obtain ⟨v, a, b, rfl, _⟩ := h
    rfl
  · obtain ⟨v, a, b, rfl, rfl⟩ := hR
    refine ⟨_, .inl rfl, pds_one (pds_ret (pd_is (pd_and (pd_isi (pd_var 0 rfl) kit_int_int boot_int B.isinstance B.int) fun _ => pd_and (pd_not (pd_isi (pd_var 0 rfl) kit_int_bool boot_bool B.isinstance B.bool)) fun _ =>
      pd_one (pd_chain op_le op_le (pd_var 1 rfl) (pd_var 0 rfl) (pd_var 2 rfl))) ?_))⟩
    rfl
end
end K28

set_option Elab.async false
set_option linter.all false
set_option maxRecDepth 100000
set_option maxHeartbeats 2000000
namespace K28
open PySem PySem.Spec PyProof.Rows L2

/-! ### data that stands for something -/
structure Sh (k : Nat) (d : PyData) : Prop where
  c : d.canLay0 = true
  le : d.depth ≤ k
  pl : plD d = true
theorem Sh.shaped {k : Nat} {d : PyData} (h : Sh k d) (hk : k ≤ 60) : SeqAt.shaped d = true := by
  show (d.canLay0 && decide (d.depth ≤ 64)) = true
  rw [h.1, Bool.true_and]
  have := h.2
  exact decide_eq_true (by omega)
theorem Sh.all {k : Nat} : ∀ {xs : List PyData}, (∀ x ∈ xs, Sh k x) → PyData.canLayAll0 xs = true ∧ PyData.depthAll xs ≤ k ∧ plA xs = true
  | [], _ => ⟨by simp [PyData.canLayAll0], by simp [PyData.depthAll], by rw [plA]⟩
  | x :: xs, h => by
    obtain ⟨h1, h2, h5⟩ := Sh.all fun y hy => h y (List.mem_cons_of_mem _ hy)
    obtain ⟨h3, h4, h6⟩ := h x List.mem_cons_self
    refine ⟨by simp [PyData.canLayAll0, h1, h3], ?_, by rw [plA, h6, h5]; rfl⟩
    simp only [PyData.depthAll]
    omega
theorem Sh.tup {k : Nat} {xs : List PyData} (h : ∀ x ∈ xs, Sh k x) : Sh (k + 1) (.tuple xs) := by
  obtain ⟨h1, h2, h3⟩ := Sh.all h
  exact ⟨by simp only [PyData.canLay0]; exact h1, by simp only [PyData.depth]; omega, by rw [plD]; exact h3⟩
theorem Sh.lst {k : Nat} {xs : List PyData} (h : ∀ x ∈ xs, Sh k x) : Sh (k + 1) (.list xs) := by
  obtain ⟨h1, h2, h3⟩ := Sh.all h
  exact ⟨by simp only [PyData.canLay0]; exact h1, by simp only [PyData.depth]; omega, by rw [plD]; exact h3⟩
theorem Sh.mono {j k : Nat} {d : PyData} (h : Sh j d) (hk : j ≤ k) : Sh k d := ⟨h.1, Nat.le_trans h.2 hk, h.3⟩
theorem Sh.int (i : Int) : Sh 0 (.int i) := ⟨by simp [PyData.canLay0], by simp [PyData.depth], by rw [plD] <;> simp⟩
theorem Sh.bl (i : Bool) : Sh 0 (.bool i) := ⟨by simp [PyData.canLay0], by simp [PyData.depth], by rw [plD] <;> simp⟩
/-- an encoding: shallow, and equality is told by == -/
structure Enc {α : Type} [DecidableEq α] (e : α → PyData) (k : Nat) : Prop where
  sh : ∀ x, Sh k (e x)
  eq : ∀ x y, PyData.eqv (e x) (e y) = decide (x = y)
section
variable {α β : Type} [DecidableEq α] [DecidableEq β] {e : α → PyData} {e' : β → PyData} {k : Nat}
theorem Enc.mono {j : Nat} (h : Enc e k) (hk : k ≤ j) : Enc e j := ⟨fun x => (h.sh x).mono hk, h.eq⟩
theorem Enc.eqAll (h : Enc e k) : ∀ xs ys : List α, PyData.eqvAll (xs.map e) (ys.map e) = decide (xs = ys)
  | [], [] => by simp [PyData.eqvAll]
  | [], _ :: _ => by simp [PyData.eqvAll]
  | _ :: _, [] => by simp [PyData.eqvAll]
  | x :: xs, y :: ys => by
    simp only [List.map_cons, PyData.eqvAll, h.eq, Enc.eqAll h xs ys]
    by_cases h1 : x = y
    · by_cases h2 : xs = ys
      · subst h1; subst h2; simp
      · simp [h2]
    · simp [h1]
theorem Enc.nat : Enc nD 0 := ⟨fun x => Sh.int _, fun x y => by
  show ((x : Int) == (y : Int)) = decide (x = y)
  by_cases h : x = y
  · subst h; simp
  · have : ¬ (x : Int) = (y : Int) := by omega
    simp [h, this]⟩
theorem Enc.tup (h : Enc e k) : Enc (fun xs : List α => PyData.tuple (xs.map e)) (k + 1) := ⟨fun xs => Sh.tup fun x hx => by
    obtain ⟨a, _, rfl⟩ := List.mem_map.mp hx
    exact h.sh a, fun xs ys => by simp only [PyData.eqv]; exact h.eqAll xs ys⟩
theorem Enc.lst (h : Enc e k) : Enc (fun xs : List α => PyData.list (xs.map e)) (k + 1) := ⟨fun xs => Sh.lst fun x hx => by
    obtain ⟨a, _, rfl⟩ := List.mem_map.mp hx
    exact h.sh a, fun xs ys => by simp only [PyData.eqv]; exact h.eqAll xs ys⟩
theorem Enc.pair (h : Enc e k) (h' : Enc e' k) : Enc (fun p : α × β => PyData.tuple [e p.1, e' p.2]) (k + 1) := ⟨fun p => Sh.tup fun x hx => by
    rcases List.mem_cons.mp hx with rfl | hx
    · exact (h.sh _)
    · rcases List.mem_cons.mp hx with rfl | hx
      · exact h'.sh _
      · exact absurd hx (by simp), fun p q => by
    simp only [PyData.eqv, PyData.eqvAll, h.eq, h'.eq, Bool.and_true]
    obtain ⟨a, b⟩ := p
    obtain ⟨c, d⟩ := q
    by_cases h1 : a = c
    · by_cases h2 : b = d
      · subst h1; subst h2; simp
      · simp [h2]
    · simp [h1]⟩
theorem Enc.any (h : Enc e k) (x : α) : ∀ xs : List α, ((xs.map e).any fun z => PyData.eqv z (e x)) = memB x xs
  | [] => rfl
  | y :: ys => by
    rw [List.map_cons, List.any_cons, Enc.any h x ys, h.eq]
    rfl
end
theorem Enc.pr : Enc prD 1 := (Enc.nat.pair Enc.nat)
theorem Enc.lot : Enc lotD 1 := Enc.nat.tup
/-- a deed -/
def ddD (d : List Nat × List Nat) : PyData := .tuple [lotD d.1, lotD d.2]
theorem Enc.dd : Enc ddD 2 := Enc.lot.pair Enc.lot
def listD {α : Type} (e : α → PyData) (xs : List α) : PyData := .list (xs.map e)
def tupD {α : Type} (e : α → PyData) (xs : List α) : PyData := .tuple (xs.map e)

/-! ### in, of data -/
def rInT (K : PySem.W.Frag) : R2 := fun x y H Q => ∃ d ds, Dp K H x d ∧ Dp K H y (.tuple ds) ∧ SeqAt.shaped d = true ∧ SeqAt.shaped (.tuple ds) = true ∧ Q (.bl (ds.any fun z => PyData.eqv z d)) H
theorem op_inT {X : Cx} (hu : X.A.units + 65 < cLine) : OpR X (compareOp .In) (rInT X.K) := by
  intro pins s σ H x y v u Q I rx ry h
  obtain ⟨d, ds, hd, he, sd, se, q⟩ := h
  obtain ⟨as, r1⟩ := Dp.reads I d x v hd rx
  obtain ⟨bs, r2⟩ := Dp.reads I (.tuple ds) y u he ry
  exact SeqAt.in_tuple_reads r2 r1 (by simpa only [PyData.canLay0] using SeqAt.canLay_of_shaped se) (SeqAt.canLay_of_shaped sd) (room_in_shaped sd hu) ⟨.bl _, H, I, rfl, q⟩
section
variable {α : Type} [DecidableEq α] {e : α → PyData} {k : Nat} {K : PySem.W.Frag}
theorem rd_inDT (h : Enc e k) (hk : k ≤ 50) {x : α} {xs : List α} : RD (rInT K) (e x) (.tuple (xs.map e)) (.bool (memB x xs)) := fun Hs H v u Q s a b kk => by
  refine ⟨_, _, Da_dp (Da_mono s a) (h.sh x).pl, Da_dp (Da_mono s b) (h.tup.sh xs).pl, (h.sh x).shaped (by omega), (h.tup.sh xs).shaped (by omega), ?_⟩
  rw [h.any]
  exact kk _ Hs H (.refl s) (.bl _)
theorem rd_inDL (h : Enc e k) (hk : k ≤ 50) {x : α} {xs : List α} : RD (rInD K) (e x) (.list (xs.map e)) (.bool (memB x xs)) := fun Hs H v u Q s a b kk => by
  refine ⟨_, _, Da_dp (Da_mono s a) (h.sh x).pl, Da_dp (Da_mono s b) (h.lst.sh xs).pl, (h.sh x).shaped (by omega), (h.lst.sh xs).shaped (by omega), ?_⟩
  rw [h.any]
  exact kk _ Hs H (.refl s) (.bl _)
theorem rd_eqE (h : Enc e k) (hk : k ≤ 50) {x y : α} : RD (rEqD K) (e x) (e y) (.bool (decide (x = y))) := by
  have q := rd_eqD (K := K) ((h.sh x).shaped (by omega)) ((h.sh y).shaped (by omega)) (h.sh x).pl (h.sh y).pl
  rw [h.eq] at q
  exact q
theorem rd_neE (h : Enc e k) (hk : k ≤ 50) {x y : α} : RD (rNeD K) (e x) (e y) (.bool (!decide (x = y))) := by
  have q := rd_neD (K := K) ((h.sh x).shaped (by omega)) ((h.sh y).shaped (by omega)) (h.sh x).pl (h.sh y).pl
  rw [h.eq] at q
  exact q
end
theorem hu64 {A : Around} {k : Nat} (hr : Room k A) : A.units + 64 < cLine := hr.units
theorem hu65 {A : Around} {k : Nat} (hr : Room k A) : A.units + 65 < cLine := by have := hr.un; omega

section
variable {P : Program} {w : World} {K : PySem.W.Frag} {mg : Str → Option Value} {base : Heap} {T : Tx}
/-! ### are_foes -/
theorem min_nat (a b : Nat) : (if (b : Int) < (a : Int) then (b : Int) else (a : Int)) = ((min a b : Nat) : Int) := by
  by_cases h : b < a
  · rw [if_pos (by omega), Nat.min_eq_right (by omega)]
  · rw [if_neg (by omega), Nat.min_eq_left (by omega)]
theorem max_nat (a b : Nat) : (if (b : Int) > (a : Int) then (b : Int) else (a : Int)) = ((max a b : Nat) : Int) := by
  by_cases h : b > a
  · rw [if_pos (by omega), Nat.max_eq_right (by omega)]
  · rw [if_neg (by omega), Nat.max_eq_left (by omega)]
def rAre : List PyData → PyData → Prop := fun ds r => ∃ W a b, ds = [webD W, nD a, nD b] ∧ r = .bool (areFoes W a b)
abbrev s_are : Stmt := top 11
theorem sc_are : FnScope ["web", "one", "other"] ["web", "one", "other"] (defScope s_are) := ⟨rfl, rfl, rfl, by decide +kernel, rfl, by decide +kernel, by decide +kernel⟩
theorem h_are {f : Addr} {fd : FuncData} (F : Fun K "are_foes" "are_foes" s_are f fd) (hm : mg "are_foes" = some (.ref f)) (B : Bi mg) : Has P w K mg base T "are_foes" 1 rAre := by
  refine fn_data F sc_are hm (F.binds fun _ _ _ _ _ _ us hl => match us, hl with | [_, _, _], _ => rfl) (fun ds r h => ?_) fun cdv A outer s H E H0s H0 ds r hr hR => ?_
  · obtain ⟨v, a, b, rfl, _⟩ := h
    rfl
  · obtain ⟨W, a, b, rfl, rfl⟩ := hR
    have e1 := min_nat a b
    have e2 := max_nat a b
    refine ⟨_, .inl rfl, pds_one (pds_ret (pd_cmp (x := prD (min a b, max a b)) (y := .tuple (W.ps.map prD)) (op_inT (hu65 hr)) (rd_inDT Enc.pr (by decide)) (pd_tup (ds := [nD (min a b), nD (max a b)]) (pda_cons ?_ (pda_cons ?_ pda_nil)) (by show 2 ≤ 1000; decide)) (pd_ix ix_tup (rd_ixT (xs := [nD W.n, .tuple (W.ps.map prD)]) (i := 1) rfl) (pd_var 0 rfl) pd_int) (by rfl)))⟩
    · exact pd_is (pd_callB (call_min2 rfl) rc_two B.min boot_min (pda_cons (pd_var 1 rfl) (pda_cons (pd_var 2 rfl) pda_nil))) (by show PyData.int _ = PyData.int _; rw [← e1])
    · exact pd_is (pd_callB (call_max2 rfl) rc_two B.max boot_max (pda_cons (pd_var 1 rfl) (pda_cons (pd_var 2 rfl) pda_nil))) (by show PyData.int _ = PyData.int _; rw [← e2])
/-! ### foes -/
def rFoes : List PyData → PyData → Prop := fun ds r => ∃ W p, W.n ≤ 100 ∧ ds = [webD W, nD p] ∧ r = listD nD (foesL W p)
abbrev s_foes : Stmt := top 12
theorem sc_foes : FnScope ["web", "person", "other"] ["web", "person"] (defScope s_foes) := ⟨rfl, rfl, rfl, by decide +kernel, rfl, by decide +kernel, by decide +kernel⟩
theorem h_foes {f : Addr} {fd : FuncData} (F : Fun K "foes" "foes" s_foes f fd) (hm : mg "foes" = some (.ref f)) (B : Bi mg) (hA : Has P w K mg base T "are_foes" 1 rAre) : Has P w K mg base T "foes" 2 rFoes := by
  refine fn_data F sc_foes hm (F.binds fun _ _ _ _ _ _ us hl => match us, hl with | [_, _], _ => rfl) (fun ds r h => ?_) fun cdv A outer s H E H0s H0 ds r hr hR => ?_
  · obtain ⟨v, a, _, rfl, _⟩ := h
    rfl
  · obtain ⟨W, p, hn, rfl, rfl⟩ := hR
    refine ⟨_, .inl rfl, pds_one (pds_ret (pd_is (pd_lc (own := [("other", 2)]) (g := gName 2) (List.range W.n) nD (fun o => [.d (webD W), .d (nD p), .d (nD o)]) (fun o => areFoes W p o) nD rfl sc_foes.nd
      (pid_range (n := W.n) (pda_cons (pd_ix ix_tup (rd_ixT (xs := [nD W.n, .tuple (W.ps.map prD)]) (i := 0) rfl) (pd_var 0 rfl) pd_int) pda_nil) (by omega) B.range) (by rw [List.length_range]; omega)
      (blkOk_by (N := ["web", "person", "other"]) (sc := defScope s_foes) (by decide +kernel)) (fun _ _ _ _ _ => pg_name (i := 2) sc_foes.nd rfl (Or.inl rfl)) (fun y _ => tg_name (by decide))
      (fun _ _ _ _ _ y _ => pts_one (pdt_val (pd_call hA hr ⟨W, p, y, rfl, rfl⟩ (pda_cons (pd_var 0 rfl) (pda_cons (pd_var 1 rfl) (pda_cons (pd_var 2 rfl) pda_nil))))))
      (fun _ _ _ _ _ y _ _ => pd_var 2 rfl)) rfl))⟩
end
end K28

set_option Elab.async false
set_option linter.all false
set_option maxRecDepth 100000
set_option maxHeartbeats 4000000
/-! any and all of a generator expression: its frame runs turn by turn, woken by the built-in. -/
namespace K28
open PySem PySem.Spec PyProof.Rows L2

/-- the context of the generator's frame -/
abbrev Cxg (X : Cx) (A : Around) (s : Shared) (H : Hp) (env : Env) (fp : List Addr) (pn : List (Addr × Obj)) : Cx :=
  { X with A := A, s_0 := s, H_0 := H, env := env, outer := X.stack, stack := env :: X.stack, ex := fp, fn := fun _ => false, calm := true, pn := pn, xe := fun _ _ => False }
/-- the same heap, no sleeping generator with a cleanup: nothing is lost -/
theorem inv_same {X : Cx} {pins : List (Addr × Obj)} {σ : L2.St} {H : Hp} {s s' : Shared} (I : Inv X pins σ H s) (hh : s'.heap = s.heap) (ho : s'.os = s.os) (hb : AllBare s'.gens) : Inv X pins σ H s' := by
  obtain ⟨h', g', d', t', o'⟩ := s'
  have e1 : h' = s.heap := hh
  have e2 : o' = s.os := ho
  subst e1
  subst e2
  exact ⟨I.ok, I.os, hb, I.base, I.loc, I.cell, I.free, I.freeC, I.pin, I.hok, I.len⟩
section
variable {X : Cx} {pins : List (Addr × Obj)} {σ : L2.St} {H : Hp} {s s' : Shared}
theorem gen_start {scope : Scope} {own : List (Str × Nat)} {fp : List Addr} {code : Value} {A : Around} {env : Env} {m : Str → Option Value} {pn : List (Addr × Obj)} (I : Inv X pins σ H s) (ok : BlkOk X.N X.env.scope scope own) (nocell : ∀ y ∈ scope.names, y.2 ≠ .cell) (hN : X.N.Nodup)
    (hfp : ∀ b ∈ fp, FpOk X pins H b ∧ b < s.heap.objs.size) (henv : env = genEnv scope (cloFrom X.env.cells scope.names []) s.heap.objs.size code builtinsNs X.env) (hA1 : A.handled = none) (hA2 : A.frames = some (env :: X.stack))
    (hn : s'.heap.Ns s.heap.objs.size m) (hk : ∀ b o, s.heap.get? b = some o → s'.heap.get? b = some o) (ho : s'.os = s.os) (hb : AllBare s'.gens)
    (hpn : ∀ p ∈ pn, s'.heap.get? p.1 = some p.2 ∧ s.heap.objs.size < p.1 ∧ ∀ v, p.2.data ≠ .cell v) :
    Inv (Cxg X A s H env fp pn) [] (L2.wipe σ (own.map (·.2))) H s' := by
  have hfree : ∀ y ∈ scope.names, y.2 = .free → ∃ c, X.env.cells.lookup y.1 = some c := fun y hy e => by
    rcases ok.free y hy e with k | k
    · exact I.ok.has _ (.inl k)
    · exact I.ok.has _ (.inr k)
  have hL : env.locals = s.heap.objs.size := by rw [henv]; rfl
  have hcl : env.cells = cloFrom X.env.cells scope.names [] := by rw [henv]; rfl
  have hsc : env.scope = scope := by rw [henv]; rfl
  have cm : ∀ {y c}, (y, c) ∈ cloFrom X.env.cells scope.names [] → X.env.cells.lookup y = some c ∧ c < s.heap.objs.size := fun {y c} hm => by
    rcases cloFrom_mem hm with hm | ⟨h1, rfl⟩
    · cases hm
    · obtain ⟨c, hc⟩ := hfree _ h1 rfl
      rw [hc]
      obtain ⟨w, z⟩ := I.cell _ _ hc
      exact ⟨rfl, z.lt⟩
  have mem : ∀ {y c}, env.cells.lookup y = some c → X.env.cells.lookup y = some c ∧ c < s.heap.objs.size := fun {y c} e => by
    rw [hcl] at e
    exact cm (PySem.mem_of_lookup e)
  have look : ∀ {y}, scope.names.lookup y = some .free → ∃ c, env.cells.lookup y = some c ∧ X.env.cells.lookup y = some c := fun {y} hl => by
    have hy : (y, NameKind.free) ∈ scope.names := PySem.mem_of_lookup hl
    obtain ⟨c', e'⟩ := mem_lookup (cloFrom_has (cells := X.env.cells) (acc := []) hy)
    rw [← hcl] at e'
    exact ⟨c', e', (mem e').1⟩
  have okG : (Cxg X A s H env fp pn).Ok := by
    refine ⟨I.ok.mod, by show env.scope.kind = _; rw [hsc]; exact ok.kind, by show env.globals = _; rw [henv]; exact I.ok.glob, by show env.builtins = _; rw [henv]; rfl, by show s.heap.objs.size ≤ env.locals; rw [hL]; exact Nat.le_refl _,
      fun y z c e1 e2 => I.ok.inj y z c (mem e1).1 (mem e2).1, fun y hy => ?_, (fun y c z => absurd z (by simp)), fun _ => hA1, hA2, .inr ⟨rfl, by show env.frame = some env.locals; rw [henv]; rfl⟩, fun b hb => ⟨?_, fun y c e z => ?_⟩, I.bs, Nat.le_trans I.ok.bsz I.sz, fun b o e hb => ?_, fun b hb z => ?_, I.stack, I.stkFree⟩
    · have key : ∀ k, env.kindOf y = some k → (k = .cell ∨ k = .free) → ∃ c, env.cells.lookup y = some c := fun k hk hk' => by
        unfold Env.kindOf at hk
        rw [hsc] at hk
        rcases hk' with rfl | rfl
        · exact absurd rfl (nocell _ (PySem.mem_of_lookup hk))
        · obtain ⟨c, h1, _⟩ := look hk
          exact ⟨c, h1⟩
      rcases hy with hy | hy
      · exact key _ hy (.inl rfl)
      · exact key _ hy (.inr rfl)
    · show b ≠ env.locals
      rw [hL]
      exact Nat.ne_of_lt (hfp b hb).2
    · exact (hfp b hb).1.2.2.2.2.1 y c (mem e).1 z
    · rcases (hfp b hb).1.2.2.2.1 with z | z
      · exact I.ok.noex b o e z
      · exact absurd (Nat.lt_of_lt_of_le (Heap.lt_size e) (Nat.le_trans I.ok.bsz z)) (Nat.lt_irrefl _)
    · rcases List.mem_cons.mp (I.stkSub b z) with z | z
      · exact (hfp b hb).1.2.1 z
      · exact (hfp b hb).1.2.2.1 z
  refine ⟨okG, ho, hb, Un.kept hk, ⟨m, by show s'.heap.Ns env.locals m; rw [hL]; exact hn, fun i y av e1 e2 e3 => ?_⟩, fun y c e => ?_, ?_, fun y c e => I.freeC y c (mem e).1, fun p hp => ?_, I.hok.kept hk, by rw [wipe_length]; exact I.len⟩
  · obtain ⟨e2, hne⟩ := wipe_some e2
    have hfr : scope.names.lookup y = some .free := by
      have e3 : Vis env.scope y := e3
      unfold Vis at e3
      rw [hsc] at e3
      have no : ∀ k, scope.names.lookup y = some k → ¬ (k = .local ∨ k = .cell) := fun k hk hh => by
        rcases ok.own _ (PySem.mem_of_lookup hk) hh with e' | e'
        · obtain ⟨p, hp, hpy⟩ := List.mem_map.mp e'
          have e3 := ok.ix p hp
          have : p.1 = y := hpy
          rw [this] at e3
          exact hne (List.mem_map.mpr ⟨p, hp, nodup_ix hN e3 e1⟩)
        · exact e' (List.mem_of_getElem? e1)
      rcases e3 with e3 | e3 | e3
      · exact absurd (.inl rfl) (no _ e3)
      · exact absurd (.inr rfl) (no _ e3)
      · exact e3
    obtain ⟨m0, _, hl⟩ := I.loc
    have hvis : Vis X.env.scope y := (ok.free _ (PySem.mem_of_lookup hfr) rfl).elim (fun k => .inr (.inl k)) (fun k => .inr (.inr k))
    obtain ⟨w, r, q⟩ := hl i y av e1 e2 hvis
    obtain ⟨c, h1, h2⟩ := look hfr
    refine ⟨w, r, .inr ⟨.inr (by show env.scope.names.lookup y = _; rw [hsc]; exact hfr), c, h1, ?_⟩⟩
    rcases q with ⟨k, _⟩ | ⟨_, c', e', z⟩
    · have k : X.env.scope.names.lookup y = some .local := k
      rcases ok.free _ (PySem.mem_of_lookup hfr) rfl with k' | k' <;> rw [show X.env.scope.names.lookup y = _ from k'] at k <;> cases k
    · rw [h2] at e'
      cases e'
      exact z.keeps hk
  · obtain ⟨w, z⟩ := I.cell y c (mem e).1
    exact ⟨w, z.keeps hk⟩
  · show H env.locals = none
    rw [hL]
    exact I.hok.fresh (Nat.le_refl _)
  · have hp' : p ∈ pn := by simpa using hp
    obtain ⟨q1, q2, q3⟩ := hpn p hp'
    refine ⟨q1, I.hok.fresh (Nat.le_of_lt q2), by show p.1 ≠ env.locals; rw [hL]; exact Nat.ne_of_gt q2, ?_, q3⟩
    show p.1 ∉ frs X.stack
    intro z
    rcases List.mem_cons.mp (I.stkSub _ z) with z | z
    · exact absurd (Nat.lt_trans I.lt (by rw [← z]; exact q2)) (Nat.lt_irrefl _)
    · exact I.nofs (Nat.le_of_lt q2) z
end

/-- between two turns: the generator's frame stands, i items are taken -/
def Tw (XG : Cx) (σ0 : L2.St) (fp : List Addr) (tn : Nat → Heap → Prop) (H2s H2 : Hp) (g i : Nat) (s : Shared) : Prop :=
  ∃ His Hi, Inv XG [] σ0 Hi s ∧ tn i s.heap ∧ (∀ b ∈ fp, Hi b = none) ∧ Grow H2s H2 His Hi ∧ g < s.gens.size
theorem Tw.same {XG : Cx} {σ0 : L2.St} {fp : List Addr} {tn : Nat → Heap → Prop} {H2s H2 : Hp} {g i : Nat} {s s' : Shared} (t : Tw XG σ0 fp tn H2s H2 g i s) (hh : s'.heap = s.heap) (ho : s'.os = s.os) (hb : AllBare s'.gens) (hg : g < s'.gens.size) : Tw XG σ0 fp tn H2s H2 g i s' := by
  obtain ⟨His, Hi, I, st, n, gr, _⟩ := t
  exact ⟨His, Hi, inv_same I hh ho hb, by rw [hh]; exact st, n, gr, hg⟩
/-- at the end -/
def Te (XG : Cx) (σ0 : L2.St) (H2s H2 : Hp) (g : Nat) (s : Shared) : Prop := ∃ His Hi, Inv XG [] σ0 Hi s ∧ Grow H2s H2 His Hi ∧ g < s.gens.size
theorem Tw.te {XG : Cx} {σ0 : L2.St} {fp : List Addr} {tn : Nat → Heap → Prop} {H2s H2 : Hp} {g i : Nat} {s : Shared} (t : Tw XG σ0 fp tn H2s H2 g i s) : Te XG σ0 H2s H2 g s := by
  obtain ⟨His, Hi, I, _, _, gr, h⟩ := t
  exact ⟨His, Hi, I, gr, h⟩
def anyR (te : Shared → Prop) : GenEnd := fun n _ r s1 => r = .ok .next ∧ (n = 0 ∧ te s1)
def anyY (tw : Nat → Shared → Prop) (N : Nat) (pb : Nat → Bool) : Protocol := fun n _ v s1 kap => ∃ i, n + 1 + i = N ∧ v = .bool (pb i) ∧ tw (i + 1) s1 ∧ ∀ s'' : Shared, tw (i + 1) s'' → kap (.send .none) s''

section
variable {XG : Cx} {A : Around} {elt tg iter : Expr} {scope : Scope} {gpos : Pos} {it : Addr} {fp : List Addr} {tn : Nat → Heap → Prop} {J : It} {σ : L2.St} {vs : List Nat} {g : TG} {T : Tx} {δ : List Ent} {ι : Type} {ys : List ι} {enc : ι → PyData} {δx : ι → List Ent} {p : ι → Bool} {H2s H2 : Hp} {gi : Nat}
theorem seg_turns (hA : A.over (.compLoop (.GeneratorExp elt [⟨tg, iter, [], 0⟩] scope gpos) 0 (.ref it) .none XG.env) [] = XG.A) (hcalm : XG.calm = true) (hxe : XG.xe = fun _ _ => False) (hco : XG.env.scope.isCoroutine = false)
    (hfp : ∀ b ∈ fp, b ∈ XG.ex ∧ ∀ q ∈ XG.pn, q.1 ≠ b) (Tn : Turn XG.prog XG.w XG.K tg J fp it tn) (src : Src J (ys.map enc) H2s) (hg : PG XG tg g) (htg : ∀ y ∈ ys, TgD g (enc y) (wipeD δ vs) (δx y) vs)
    (he : ∀ y ∈ ys, PE XG elt (tD T (δx y) (.bool (p y)))) (at0 : At T H2s H2 (L2.wipe σ vs) (wipeD δ vs)) (pb : Nat → Bool) (hpb : ∀ i y, ys[i]? = some y → pb i = p y) :
    ∀ (k i : Nat) (s₀ s : Shared), ys.length - i = k → i ≤ ys.length → Tw XG (L2.wipe σ vs) fp tn H2s H2 gi i s →
      Seg (model XG.prog XG.w) A (anyR (Te XG (L2.wipe σ vs) H2s H2 gi)) (anyY (Tw XG (L2.wipe σ vs) fp tn H2s H2 gi) ys.length pb) k s₀ (.compLoop (.GeneratorExp elt [⟨tg, iter, [], 0⟩] scope gpos) 0 (.ref it) .none XG.env)
        ((model XG.prog XG.w).den (.compLoop (.GeneratorExp elt [⟨tg, iter, [], 0⟩] scope gpos) 0 (.ref it) .none XG.env)) [] s := by
  have stat : ∀ {σ' : L2.St} {H' : Hp} {s' : Shared}, Inv XG [] σ' H' s' → (∀ b ∈ fp, H' b = none) → ∀ b ∈ fp, FpOk XG [] H' b := fun {σ' H' s'} I' hn b hb =>
    ⟨hn b hb, (I'.ok.exf b (hfp b hb).1).1, I'.ok.exfs b (hfp b hb).1, .inl (hfp b hb).1, fun x c e => (I'.ok.exf b (hfp b hb).1).2 x c e, fun q hq => (hfp b hb).2 q (by simpa using hq)⟩
  intro k
  induction k with
  | zero =>
    intro i s₀ s hk hi tw
    have hin : i = ys.length := by omega
    subst hin
    obtain ⟨His, Hi, I, st, n, gr, hgi⟩ := tw
    obtain ⟨_, sst, _⟩ := src His Hi gr.base gr.sub
    rw [List.length_map] at sst
    show Seg _ A _ _ _ s₀ _ ((compTurn (.GeneratorExp elt [⟨tg, iter, [], 0⟩] scope gpos) 0 (.ref it) .none XG.env).onRaise (leaving XG.env)) [] s
    rw [compTurn_gen, Sem.onRaise_eq_wrap]
    refine seg_bind_wrap (wpAny_standAt ?_)
    refine seg_bind_wrap ?_
    rw [hA]
    refine GenW.wpAny_gsz (n := gi + 1) hgi (thnF (Tn.done XG rfl rfl rfl hcalm _ [] s _ Hi (fun _ _ => False) I (stat I n) st (sst _ rfl)) fun r s1 ⟨hr, I1⟩ hz => ?_)
    subst hr
    exact seg_end (.ok .next) ⟨rfl, by omega, His, Hi, I1, gr, hz⟩
  | succ k ih =>
    intro i s₀ s hk hi tw
    have hlt : i < ys.length := by omega
    obtain ⟨His, Hi, I, st, n, gr, hgi⟩ := tw
    obtain ⟨sgo, _, sy⟩ := src His Hi gr.base gr.sub
    rw [List.length_map] at sgo sy
    show Seg _ A _ _ _ s₀ _ ((compTurn (.GeneratorExp elt [⟨tg, iter, [], 0⟩] scope gpos) 0 (.ref it) .none XG.env).onRaise (leaving XG.env)) [] s
    rw [compTurn_gen, Sem.onRaise_eq_wrap]
    refine seg_bind_wrap (wpAny_standAt ?_)
    refine seg_bind_wrap ?_
    rw [hA]
    refine GenW.wpAny_gsz (n := gi + 1) hgi (thnF (Tn.item XG rfl rfl rfl hcalm i [] s _ Hi (fun _ _ => False) I (stat I n) st (sgo i hlt)) fun r s1 ⟨u, hr, h1⟩ hz1 => ?_)
    subst hr
    refine seg_bind_wrap ?_
    rw [hA]
    refine GenW.wpAny_gsz (n := gi + 1) hz1 (thnF h1 fun _ s2 ⟨x, H7, I7, r7, y7, st7, n7⟩ hz2 => ?_)
    obtain ⟨d, H7s, q1, g7, d7⟩ := sy i x H7 hlt y7
    rw [List.getElem?_map, List.getElem?_eq_getElem hlt] at q1
    have q1 : enc ys[i] = d := Option.some.inj q1
    subst q1
    have hm : ys[i] ∈ ys := List.getElem_mem hlt
    have hpy := hpb i ys[i] (List.getElem?_eq_getElem hlt)
    generalize ys[i] = y at hm d7 hpy
    have I7' := I7.pinned (stat I7 n7) (Tn.obj _ _ st7)
    have a7 := (at0.mono gr).mono g7
    refine seg_bind_wrap ?_
    rw [hA]
    refine GenW.wpAny_gsz (n := gi + 1) hz2 ?_
    have tgt := htg y hm H7s H7 (L2.wipe σ vs) x (fun σ' H' => H' = H7 ∧ EnvD H7s H7 σ' (δx y) ∧ L2.wipe σ' vs = L2.wipe σ vs) g7.sub a7.env d7 fun σ' env' hs' hl' => ⟨rfl, env', wipe_same hl' hs'⟩
    have hgr := hg.run _ s2 _ H7 x u _ I7' r7 tgt
    rw [hxe] at hgr
    refine thnF hgr fun _ s3 ⟨σ3, H3, I3, e3, env3, hw3⟩ hz3 => ?_
    subst e3
    simp only [List.forIn_nil]
    refine seg_bind_wrap (wpAny_pure ?_)
    simp only [if_true]
    have hy : ∀ v, yieldOut XG.env v = yieldValue v := fun v => by simp only [yieldOut, hco, Bool.false_eq_true, if_false]
    simp only [hy]
    rw [Sem.bind_eq_wrap', Sem.bind_eq_wrap', Sem.wrap_wrap, Sem.wrap_wrap]
    refine seg_wrap ?_
    rw [hA]
    refine GenW.wpAny_gsz (n := gi + 1) hz3 ?_
    have her := (he y hm).run _ s3 σ3 H3 (fun v H' => v = .bl (p y) ∧ ∃ H's, Grow H7s H3 H's H') I3 ⟨H7s, ⟨g7.sub, env3, a7.tabs⟩, fun v H's H' gg dd => ⟨dd.blV, H's, gg⟩⟩
    rw [hxe] at her
    refine thnF her fun v s4 ⟨x4, H4, I4, r4, e4, H4s, g4⟩ hz4 => ?_
    subst e4
    have ev : v = Value.bool (p y) := r4
    subst ev
    -- the turn's end
    have pin' : ∀ b ∈ fp, ∀ o, s2.heap.get? b = some o → s4.heap.get? b = some o ∧ H4 b = none := fun b hb o e =>
      let z := I4.pin (b, o) (List.mem_append_right _ (List.mem_append_right _ (mem_pinsAt hb e)))
      ⟨z.1, z.2.1⟩
    have hl : (L2.wipe σ vs).length = σ3.length := by rw [← hw3, wipe_length]
    have tw4 : Tw XG (L2.wipe σ vs) fp tn H2s H2 gi (i + 1) s4 := by
      refine ⟨H4s, H4, (I4.unpinned (pins := [])).weak hl (fun j v e => ?_), Tn.keep _ _ _ st7 fun b hb o e => (pin' b hb o e).1, fun b hb => ?_, (gr.trans g7).trans g4, hz4⟩
      · rw [← hw3] at e
        exact (wipe_some e).1
      · obtain ⟨o, e, _⟩ := Tn.obj _ _ st7 b hb
        exact (pin' b hb o e).2
    refine seg_at (seg_yield rfl rfl rfl ⟨i, by omega, by rw [hpy], tw4, fun s'' tw'' => ?_⟩)
    exact seg_again rfl (ih (i + 1) s'' s'' (by omega) hlt tw'')
end
end K28

set_option Elab.async false
set_option linter.all false
set_option maxRecDepth 100000
set_option maxHeartbeats 4000000
namespace K28
open PySem PySem.Spec PyProof.Rows L2

theorem bare_set {s : Shared} {g : Nat} {x : GenState} (h : AllBare s.gens) (hg : g < s.gens.size) (hx : x.bare = true) : AllBare (s.setGen g x).gens :=
  AllBare.moved h (GenOnlyQ.of (GenOnly.setGen s g x) (setGen_self (Array.getElem?_eq_getElem hg)) hx)
/-- the consumer's state: a sleeping generator that has handed out i items -/
structure Li (M : Model) (A : Around) (te : Shared → Prop) (tw : Nat → Shared → Prop) (N : Nat) (pb : Nat → Bool) (g i : Nat) (s : Shared) : Prop where
  cur : tw i s
  gs : ∃ gs, s.gens[g]? = some gs ∧ ∀ s'' : Shared, tw i s'' → gs.Goes M A.in1 (anyR te) (anyY tw N pb) (N - i) (.send .none) s''
/-- what the loop wants of the states between -/
structure Wk (te : Shared → Prop) (tw : Nat → Shared → Prop) (a : Addr) (g : Nat) : Prop where
  same : ∀ i s s', tw i s → s'.heap = s.heap → s'.os = s.os → AllBare s'.gens → g < s'.gens.size → tw i s'
  gen : ∀ i s, tw i s → s.heap.IsGen a g ∧ s.heap.NoLimit ∧ AllBare s.gens ∧ g < s.gens.size
  toTe : ∀ i s, tw i s → te s
  grow : ∀ s s', te s → (∀ b o, s.heap.get? b = some o → s'.heap.get? b = some o) → s'.os = s.os → AllBare s'.gens → g < s'.gens.size → te s'
  bare : ∀ s, te s → AllBare s.gens ∧ g < s.gens.size
section
variable {prog : Program} {w : World} {A : Around} {te : Shared → Prop} {tw : Nat → Shared → Prop} {a : Addr} {g N : Nat} {pb : Nat → Bool} {E : Value → Shared → Prop} {s : Shared} {R : Result → Shared → Prop}
/-- the next item, or the end -/
theorem next_li (W : Wk te tw a g) (hh : A.handled = none) (hd : A.depth < recursionLimit) {i : Nat} (hi : i ≤ N) (L : Li (model prog w) A te tw N pb g i s) {Q : Option Value → Shared → Prop}
    (hy : i < N → ∀ s', Li (model prog w) A te tw N pb g (i + 1) s' → Q (some (.bool (pb i))) s') (hn : i = N → ∀ s', te s' → Q none s') : wpAny (model prog w) A (pyNext (.ref a)) Q E s := by
  obtain ⟨tw0, gs, hgs, go⟩ := L
  obtain ⟨q1, q2, q3, q4⟩ := W.gen i s tw0
  have twr : tw i (s.setGen g .running) := W.same i s _ tw0 rfl rfl (bare_set q3 q4 rfl) (by rw [GenW.setGen_size]; exact q4)
  refine wpAny_pyNext_genexpQ (P := fun n _ s1 => n = 0 ∧ te s1) (n := N - i) hh q2 hd q1 hgs (go _ twr) (fun v s1 gs' hb hv => ?_) (fun s1 hp h' hk => ?_)
  · obtain ⟨j, e1, rfl, tw1, kap⟩ := hv
    have hlt : i < N := by
      rcases Nat.lt_or_ge i N with z | z
      · exact z
      · exfalso
        have e0 : N - i = 0 := by omega
        rw [e0] at kap
        exact kap s1 tw1
    have ej : j = i := by omega
    subst ej
    obtain ⟨m, em⟩ : ∃ m, N - j = m + 1 := ⟨N - j - 1, by omega⟩
    rw [em] at kap
    obtain ⟨r1, r2, r3, r4⟩ := W.gen _ s1 tw1
    refine hy hlt _ ⟨W.same _ s1 _ tw1 rfl rfl (bare_set r3 r4 hb) (by rw [GenW.setGen_size]; exact r4), gs', setGen_self (Array.getElem?_eq_getElem r4), fun s'' tw'' => ?_⟩
    have e2 : N - (j + 1) = m := by omega
    rw [e2]
    exact kap s'' tw''
  · obtain ⟨e0, t1⟩ := hp
    obtain ⟨r3, r4⟩ := W.bare s1 t1
    exact hn (by omega) _ (W.grow s1 _ t1 hk rfl (bare_set r3 r4 rfl) (by show _ < (s1.setGen g .finished).gens.size; rw [GenW.setGen_size]; exact r4))
theorem any_li (W : Wk te tw a g) (hh : A.handled = none) (hd : A.depth < recursionLimit) : ∀ (k i : Nat) (s : Shared), N - i = k → i ≤ N → Li (model prog w) A.in1 te tw N pb g i s →
    (∀ s', te s' → R (.ok (.ret (.bool (((List.range N).drop i).any pb)))) s') → codeAny (model prog w) A (.builtin "any.loop" ⟨[.ref a], []⟩) R s := by
  intro k
  induction k with
  | zero =>
    intro i s hk hi L hR
    refine codeAny_builtin F.entry_any_loop ?_
    rw [Around.under_plainId F.plain_any_loop _]
    show wpAny _ A.in1 (pyNext (.ref a) >>= _) _ _ s
    refine wpAny_bind (next_li (A := A.in1) W hh hd hi L (fun z => by omega) fun hN s' t' => ?_)
    refine wpAny_bind (wpAny_rule (wpAny_pure ?_))
    have q := hR s' t'
    rw [List.drop_of_length_le (by simp; omega)] at q
    exact q
  | succ k ih =>
    intro i s hk hi L hR
    have hlt : i < N := by omega
    have hdr : (List.range N).drop i = i :: (List.range N).drop (i + 1) := by
      rw [List.drop_eq_getElem_cons (by simpa using hlt)]; simp
    refine codeAny_builtin F.entry_any_loop ?_
    rw [Around.under_plainId F.plain_any_loop _]
    show wpAny _ A.in1 (pyNext (.ref a) >>= _) _ _ s
    refine wpAny_bind (next_li (A := A.in1) W hh hd hi L (fun _ s' L' => ?_) fun z => by omega)
    refine wpAny_bind (wpAny_holding (wpAny_truthy_bool ?_))
    refine wpAny_bind (wpAny_letGo ?_)
    cases hb : pb i with
    | false =>
      simp only [Bool.false_eq_true, if_false]
      refine wpAny_pure ⟨plainId_quiet F.plain_any_loop _, ih (i + 1) _ (by omega) hlt L' fun s'' t'' => ?_⟩
      have q := hR s'' t''
      rw [hdr, List.any_cons, hb, Bool.false_or] at q
      exact q
    | true =>
      simp only [if_true]
      refine wpAny_bind (wpAny_rule (wpAny_pure ?_))
      have q := hR s' (W.toTe _ _ L'.cur)
      rw [hdr, List.any_cons, hb, Bool.true_or] at q
      exact q
theorem all_li (W : Wk te tw a g) (hh : A.handled = none) (hd : A.depth < recursionLimit) : ∀ (k i : Nat) (s : Shared), N - i = k → i ≤ N → Li (model prog w) A.in1 te tw N pb g i s →
    (∀ s', te s' → R (.ok (.ret (.bool (((List.range N).drop i).all pb)))) s') → codeAny (model prog w) A (.builtin "all.loop" ⟨[.ref a], []⟩) R s := by
  intro k
  induction k with
  | zero =>
    intro i s hk hi L hR
    refine codeAny_builtin F.entry_all_loop ?_
    rw [Around.under_plainId F.plain_all_loop _]
    show wpAny _ A.in1 (pyNext (.ref a) >>= _) _ _ s
    refine wpAny_bind (next_li (A := A.in1) W hh hd hi L (fun z => by omega) fun hN s' t' => ?_)
    refine wpAny_bind (wpAny_rule (wpAny_pure ?_))
    have q := hR s' t'
    rw [List.drop_of_length_le (by simp; omega)] at q
    exact q
  | succ k ih =>
    intro i s hk hi L hR
    have hlt : i < N := by omega
    have hdr : (List.range N).drop i = i :: (List.range N).drop (i + 1) := by
      rw [List.drop_eq_getElem_cons (by simpa using hlt)]; simp
    refine codeAny_builtin F.entry_all_loop ?_
    rw [Around.under_plainId F.plain_all_loop _]
    show wpAny _ A.in1 (pyNext (.ref a) >>= _) _ _ s
    refine wpAny_bind (next_li (A := A.in1) W hh hd hi L (fun _ s' L' => ?_) fun z => by omega)
    refine wpAny_bind (wpAny_holding (wpAny_truthy_bool ?_))
    refine wpAny_bind (wpAny_letGo ?_)
    cases hb : pb i with
    | true =>
      simp only [if_true]
      refine wpAny_pure ⟨plainId_quiet F.plain_all_loop _, ih (i + 1) _ (by omega) hlt L' fun s'' t'' => ?_⟩
      have q := hR s'' t''
      rw [hdr, List.all_cons, hb, Bool.true_and] at q
      exact q
    | false =>
      simp only [Bool.false_eq_true, if_false]
      refine wpAny_bind (wpAny_rule (wpAny_pure ?_))
      have q := hR s' (W.toTe _ _ L'.cur)
      rw [hdr, List.all_cons, hb, Bool.false_and] at q
      exact q
end
end K28

set_option Elab.async false
set_option linter.all false
set_option maxRecDepth 100000
set_option maxHeartbeats 4000000
namespace K28
open PySem PySem.Spec PyProof.Rows L2

theorem over_gen {A : Around} {elt : Expr} {gs : List Comprehension} {sc : Scope} {p : Pos} {v u : Value} {env : Env} : A.over (.compLoop (.GeneratorExp elt gs sc p) 0 v u env) [] = A.deeper env := by
  first
    | rfl
    | (obtain ⟨hd, d, fr, g, u⟩ := A; simp [Around.over, Around.deeper, marksOver, frameCount, unitsOf, envsOf, guardsOf, pushEnvs, pushGuards, Code.envs, Code.env?, Code.isFrame, Code.guards, Code.isGuard, Code.weight, Code.frames, Code.isCreation, Code.isCaller, Code.cUnits])
/-- a generator expression's frame -/
abbrev XGn (X : Cx) (A : Around) (s : Shared) (H : Hp) (scope : Scope) (cl : List (Str × Addr)) (C : Addr) (code : Value) (fp : List Addr) (pn : List (Addr × Obj)) : Cx :=
  Cxg X (A.deeper (genEnv scope cl C code builtinsNs X.env)) s H (genEnv scope cl C code builtinsNs X.env) fp pn
theorem grow_tab {Hs H : Hp} {P : Addr} {ps more : Array Value} (s : Ex Hs H) (h : H P = some (.tbl ps)) (t : TriplesOk (ps ++ more).toList) : Grow Hs H Hs (upd H P (.tbl (ps ++ more))) :=
  .up s fun a o e => by
    by_cases ha : a = P
    · subst ha
      rw [h] at e
      cases e
      exact .inr ⟨ps, _, rfl, upd_same, fun _ => t⟩
    · rw [upd_ne ha]
      exact .inl e
/-- the generator between two turns, as the consumer sees it -/
theorem wk_of {XG : Cx} {σ0 : L2.St} {fp : List Addr} {tn : Nat → Heap → Prop} {H2s H2 : Hp} {a : Addr} {go : Obj} {gi : Nat} {nm qn : Value} (hp : (a, go) ∈ XG.pn) (hcl : go.cls = .type "generator") (hd : go.data = .fields #[.int gi 0, nm, qn]) (hsl : go.slots = #[]) :
    Wk (Te XG σ0 H2s H2 gi) (Tw XG σ0 fp tn H2s H2 gi) a gi where
  same := fun i s s' t hh ho hb hg => t.same hh ho hb hg
  gen := fun i s ⟨His, Hi, I, st, n, gr, h⟩ => ⟨⟨go, nm, qn, (I.pin (a, go) (List.mem_append_left _ hp)).1, hcl, hd, hsl⟩, I.nolimit, I.bare, h⟩
  toTe := fun i s t => t.te
  grow := fun s s' ⟨His, Hi, I, gr, h⟩ hk ho hb hg => ⟨His, Hi, I.call' (ch := []) ho (Un.kept hk) (I.hok.kept hk) hb (fun b z => absurd z (by simp)), gr, hg⟩
  bare := fun s ⟨His, Hi, I, gr, h⟩ => ⟨I.bare, h⟩
theorem src_mono {J : It} {xs : List PyData} {Hs Hs' : Hp} (h : Src J xs Hs) (e : Ex Hs Hs') : Src J xs Hs' := fun H1s H1 e1 e2 => h H1s H1 (e.trans e1) e2
section
variable {X : Cx} {T : Tx} {δ : List Ent} {elt tg iter : Expr} {scope : Scope} {own : List (Str × Nat)} {pos gpos p0 : Pos} {g : TG} {ι : Type} {c P : Addr} {k : Nat}
/-- the generator stands, not yet begun -/
def Made (X : Cx) (pins : List (Addr × Obj)) (σ : L2.St) (H : Hp) (T : Tx) (Hs : Hp) (n : Nat) (pb : Nat → Bool) (a : Addr) (s5 : Shared) : Prop :=
  ∃ (gi : Nat) (te : Shared → Prop) (tw : Nat → Shared → Prop), Wk te tw a gi ∧ Li (model X.prog X.w) X.A.in1 te tw n pb gi 0 s5 ∧ s5.heap.IsGen a gi ∧
    ∀ s', te s' → ∃ His Hi, Inv X pins σ Hi s' ∧ Grow Hs H His Hi
theorem gen_made (ys : List ι) (enc : ι → PyData) (δx : ι → List Ent) (p : ι → Bool) (hr : Room (k + 1) X.A) (hN : X.N.Nodup) (TB : GxR.TabB X.base X.mg c P) (hP : P ∈ T.tabs) (hcode : X.env.code = .ref c) (hi : PI X tg iter (piD T δ (ys.map enc)))
    (ok : BlkOk X.N X.env.scope scope own) (nocell : ∀ y ∈ scope.names, y.2 ≠ .cell) (h0 : scope.names.lookup (".0" : Str) = some .local) (hco : scope.isCoroutine = false)
    (hg : ∀ A s H cl C code fp pn, PG (XGn X A s H scope cl C code fp pn) tg g) (htg : ∀ y ∈ ys, TgD g (enc y) (wipeD δ (own.map (·.2))) (δx y) (own.map (·.2)))
    (he : ∀ A s H cl C code fp pn, Room k (A.deeper (genEnv scope cl C code builtinsNs X.env)) → ∀ y ∈ ys, PE (XGn X A s H scope cl C code fp pn) elt (tD T (δx y) (.bool (p y)))) (hs : ∀ x, genFold iter X.env x = pure x)
    (pb : Nat → Bool) (hpb : ∀ i y, ys[i]? = some y → pb i = p y) {pins : List (Addr × Obj)} {s : Shared} {σ : L2.St} {H Hs : Hp} (I : Inv X pins σ H s) (at_ : At T Hs H σ δ) {Q' : Value → Shared → Prop}
    (hQ : ∀ a s5, Made X pins σ H T Hs ys.length pb a s5 → Q' (.ref a) s5) :
    wpAny (model X.prog X.w) X.A (eval (.GeneratorExp elt [⟨tg, iter, [], 0⟩] scope gpos) X.env) Q' X.xe s := by
  have hfree : ∀ y ∈ scope.names, y.2 = .free → ∃ c, X.env.cells.lookup y.1 = some c := fun y hy e => by
    rcases ok.free y hy e with k | k
    · exact I.ok.has _ (.inl k)
    · exact I.ok.has _ (.inr k)
  refine wpAny_GeneratorExp_make hco (closure_ok hfree) nocell h0 ok.kind hr.depth ?_ hs
  refine thn (hi.run pins s σ H (fun J H' => ∃ H1s, Grow Hs H H1s H' ∧ Src J (ys.map enc) H1s) I ⟨Hs, at_, fun J Hs' H' g1 src => ⟨Hs', g1, src⟩⟩) fun xv s1 h1 => thn h1 fun itv s2 h2 => ?_
  obtain ⟨it, fp, tn, J, H2, rfl, I2, Tn, st2, f2, H2s, g2, src⟩ := h2
  have at2 := at_.mono g2
  obtain ⟨ps, hPt, ht⟩ := at2.tabs.1 P hP
  have hPs : s2.heap.get? P = some { cls := .none, data := .fields ps } := I2.hok P _ hPt
  have cd : PySem.W.CodeHd s2.heap c P := TB.code.keeps fun b u e => (I2.bk b u e)
  have lim2 : s2.heap.NoLimit := I2.nolimit
  refine ⟨lim2, ?_⟩
  have cont : ∀ (code : Value) (h3 : Heap) (tk : Nat) (more : Array Value), Heap.ExtBut P s2.heap h3 → s2.heap.objs.size ≤ h3.objs.size → h3.get? P = some { cls := .none, data := .fields (ps ++ more) } → TriplesOk (ps ++ more).toList →
      wpAny (model X.prog X.w) X.A (builtinsFor X.env.globals X.env.builtins) (fun bi s₄ =>
        ∀ h', h'.Ns s₄.heap.objs.size (fun y => if y = ".0" then some (.ref it) else none) → Heap.SameBut s₄.heap.objs.size (s₄.heap.push { cls := .type "frame", data := .dict #[] }) h' →
          Q' (.ref h'.objs.size) { s₄ with
            gens := s₄.gens.push (.fresh (.compStart (.GeneratorExp elt [⟨tg, iter, [], 0⟩] scope gpos) 0 (.ref it) .none (genEnv scope (cloFrom X.env.cells scope.names []) s₄.heap.objs.size code bi X.env))),
            toks := s₄.toks + 1 + 1 + 1,
            heap := h'.push { cls := .type "generator", data := .fields #[.int s₄.gens.size 0, .str "<genexpr>" (s₄.toks + 1), .str (X.env.qual ++ "<genexpr>") (s₄.toks + 1 + 1)] } }) X.xe { s2 with heap := h3, toks := tk } := by
    intro code h3 tk more hx hsz hP3 ht3
    obtain ⟨bm, ob, e1, e2, e3, e4, e5, e6, e7, e8⟩ := TB.bm
    have I3 : Inv X pins σ (upd H2 P (.tbl (ps ++ more))) { s2 with heap := h3, toks := tk } := GxR.inv_tab (g' := s2.gens) (d' := s2.drawn) I2 hPt (fun b o hb e => hx b o hb e) hP3 I2.bare
    have g3 := grow_tab at2.sub hPt ht3
    refine wpAny_builtinsFor (m := X.mg) (by rw [I3.ok.glob]; exact I3.mod.glob.keeps I3.bk) e1 e2 (e4 |> fun e => I3.bk _ _ e5) e6 e7 e8 ?_
    intro h' hn hsb
    have fN : ∀ b ∈ fp, upd H2 P (.tbl (ps ++ more)) b = none := fun b hb => by
      have := (f2 b hb).1
      rw [upd_ne (fun z => by rw [z, hPt] at this; cases this)]
      exact this
    have hszh : h'.objs.size = h3.objs.size + 1 := by rw [hsb.1, Heap.size_push]
    have keep' : ∀ b o, h3.get? b = some o → h'.get? b = some o := fun b o e => hsb.extBut b o (Nat.ne_of_lt (Heap.lt_size e)) (Heap.get?_push_of_some _ e)
    refine hQ _ _ ?_
    have hgsz : (s2.gens.push (.fresh (.compStart (.GeneratorExp elt [⟨tg, iter, [], 0⟩] scope gpos) 0 (.ref it) .none (genEnv scope (cloFrom X.env.cells scope.names []) h3.objs.size code builtinsNs X.env)))).size = s2.gens.size + 1 := Array.size_push ..
    generalize hgo : ({ cls := .type "generator", data := .fields #[.int s2.gens.size 0, .str "<genexpr>" (tk + 1), .str (X.env.qual ++ "<genexpr>") (tk + 1 + 1)] } : Obj) = go
    have gos : go.cls = .type "generator" ∧ go.data = .fields #[.int s2.gens.size 0, .str "<genexpr>" (tk + 1), .str (X.env.qual ++ "<genexpr>") (tk + 1 + 1)] ∧ go.slots = #[] ∧ go.isFreed = false := by subst hgo; exact ⟨rfl, rfl, rfl, rfl⟩
    obtain ⟨gc, gd, gs, gf⟩ := gos
    generalize hE : genEnv scope (cloFrom X.env.cells scope.names []) h3.objs.size code builtinsNs X.env = cenv at *
    obtain ⟨XG, hXG⟩ : ∃ XG, XG = Cxg X (X.A.in1.in1.deeper cenv) { s2 with heap := h3, toks := tk } (upd H2 P (.tbl (ps ++ more))) cenv fp [(h'.objs.size, go)] := ⟨_, rfl⟩
    have hk5 : ∀ b o, h3.get? b = some o → (h'.push go).get? b = some o := fun b o e => Heap.get?_push_of_some _ (keep' b o e)
    have hself : (h'.push go).get? h'.objs.size = some go := Heap.get?_push_size _ gf
    have room : Room k (X.A.in1.in1.deeper cenv) := ⟨hr.hd, by have := hr.dp; show X.A.depth + 1 + 3 * k + 5 < _; omega, by have := hr.un; show X.A.units + 1 + 1 + 3 + 16 * k + 200 < _; omega⟩
    have JG : Inv XG [] (L2.wipe σ (own.map (·.2))) (upd H2 P (.tbl (ps ++ more))) { s2 with gens := s2.gens.push (.fresh (.compStart (.GeneratorExp elt [⟨tg, iter, [], 0⟩] scope gpos) 0 (.ref it) .none cenv)), toks := tk + 1 + 1 + 1, heap := h'.push go } := by
      rw [hXG]
      refine gen_start (m := fun y => if y = ".0" then some (.ref it) else none) I3 ok nocell hN (fun b hb => ⟨⟨fN b hb, (f2 b hb).2⟩, ?_⟩) hE.symm hr.hd ?_ (hn.push _) hk5 rfl (I2.bare.push rfl) ?_
      · obtain ⟨o, e, _⟩ := Tn.obj _ _ st2 b hb
        exact Nat.lt_of_lt_of_le (Heap.lt_size e) hsz
      · exact Around.frames_deeper I2.ok.frames
      · intro q hq
        rw [List.mem_singleton.mp hq]
        refine ⟨hself, ?_, fun v z => ?_⟩
        · show h3.objs.size < h'.objs.size
          omega
        · rw [gd] at z
          cases z
    have e0 : EnvD H2s (upd H2 P (.tbl (ps ++ more))) (L2.wipe σ (own.map (·.2))) (wipeD δ (own.map (·.2))) := (at2.mono g3).env.wipe _
    have atG : At T H2s (upd H2 P (.tbl (ps ++ more))) (L2.wipe σ (own.map (·.2))) (wipeD δ (own.map (·.2))) := ⟨g3.sub, e0, (at2.mono g3).tabs⟩
    have tn5 : tn 0 (h'.push go) := Tn.keep _ _ _ st2 fun b hb o e => hk5 b o (hx b o (fun z => by
      have h9 := (f2 b hb).1
      rw [z, hPt] at h9
      cases h9) e)
    have hW : Wk (Te XG (L2.wipe σ (own.map (·.2))) H2s (upd H2 P (.tbl (ps ++ more))) s2.gens.size) (Tw XG (L2.wipe σ (own.map (·.2))) fp tn H2s (upd H2 P (.tbl (ps ++ more))) s2.gens.size) h'.objs.size s2.gens.size :=
      wk_of (go := go) (by rw [hXG]; exact List.mem_singleton.mpr rfl) gc gd gs
    refine ⟨s2.gens.size, _, _, hW, ⟨⟨H2s, _, JG, tn5, fN, .refl g3.sub, by rw [hgsz]; exact Nat.lt_succ_self _⟩, _, Array.getElem?_push_size .., fun s'' tw'' => ⟨rfl, ?_⟩⟩, ⟨go, _, _, hself, gc, gd, gs⟩, fun s' ⟨His, Hi, I6, gr, _⟩ => ?_⟩
    · subst hXG
      subst hE
      have hfp2 : ∀ b ∈ fp, b ≠ h'.objs.size := fun b hb z => by
        obtain ⟨o, e, _⟩ := Tn.obj _ _ st2 b hb
        have := Nat.lt_of_lt_of_le (Heap.lt_size e) hsz
        rw [z] at this
        exact absurd this (by show ¬ h'.objs.size < h3.objs.size; omega)
      have loop := seg_turns (XG := XGn X X.A.in1.in1 { s2 with heap := h3, toks := tk } (upd H2 P (.tbl (ps ++ more))) scope (cloFrom X.env.cells scope.names []) h3.objs.size code fp [(h'.objs.size, go)]) (A := X.A.in1.in1) (scope := scope) (gpos := gpos) (it := it) (iter := iter) (gi := s2.gens.size)
        over_gen rfl rfl hco (fp := fp) (tn := tn) (J := J) (fun b hb => ⟨hb, fun q hq => by rw [List.mem_singleton.mp hq]; exact Ne.symm (hfp2 b hb)⟩) Tn (src_mono src g3.base) (hg _ _ _ _ _ _ _ _) htg (fun y hy => he _ _ _ _ _ _ _ _ room y hy) atG pb hpb ys.length 0 s'' s'' (Nat.sub_zero _) (Nat.zero_le _) tw''
      show Seg _ X.A.in1.in1 _ _ _ s'' _ ((compStart (.GeneratorExp elt [⟨tg, iter, [], 0⟩] scope gpos) 0 (.ref it) .none (genEnv scope (cloFrom X.env.cells scope.names []) h3.objs.size code builtinsNs X.env)).onRaise (leaving (genEnv scope (cloFrom X.env.cells scope.names []) h3.objs.size code builtinsNs X.env))) [] s''
      unfold compStart
      rw [Sem.onRaise_eq_wrap]
      show Seg _ X.A.in1.in1 _ _ _ s'' _ ((ask >>= _).wrap _ _ _ _) [] s''
      refine seg_bind_wrap (wpAny_askSetting ?_)
      split
      · exact seg_again rfl loop
      · obtain ⟨_, _, _, tn9, _⟩ := tw''
        first
          | exact seg_bind_wrap (wpAny_rule (seg_bind_wrap (wpAny_standAt (seg_bind_wrap (Tn.self _ 0 s'' _ _ tn9 (seg_again rfl loop))))))
          | (refine seg_bind_wrap (wpAny_rule ?_); show Seg _ X.A.in1.in1 _ _ _ s'' _ ((standAt iter.pos >>= _).wrap _ _ _ _) [] s''; exact seg_bind_wrap (wpAny_standAt (seg_bind_wrap (Tn.self _ 0 s'' _ _ tn9 (seg_again rfl loop)))))
    · have q : Un (frs X.stack) fp (upd H2 P (.tbl (ps ++ more))) Hi h3 s'.heap := by
        have := I6.base
        rw [hXG] at this
        exact this
      refine ⟨His, Hi, I3.call' (ch := fp) (I6.os.trans (by rw [hXG])) q (by have := I6.hok; rw [hXG] at this; exact this) I6.bare (fun b hb => ?_), (g2.trans g3).trans gr⟩
      obtain ⟨_, f1, _, f3, f4, f5⟩ := f2 b hb
      exact ⟨f3, f1, f4, f5⟩
  cases hf : codeAmong gpos ps.toList with
  | none =>
    refine wpAny_genexprCodeX hcode (cd.code hPs ht) (cd.tab hPs) hf fun c' h' tk hx hge hlt hco' _ htab' _ => ?_
    obtain ⟨o1, vs, f1, tf, fl, tg, inF, tx, tt, op, _, _, _, _, _, _, _, _, _, htr, _⟩ := hco'
    exact cont _ h' tk _ hx (Nat.le_trans hge (Nat.le_of_lt hlt)) htab'.2 htr
  | some cv =>
    refine wpAny_genexprCode_hit hcode (cd.code hPs ht) hf ?_
    exact cont cv s2.heap s2.toks #[] (Heap.ExtBut.refl _ _) (Nat.le_refl _) (by simpa using hPs) (by simpa using ht)
def pbOf (p : ι → Bool) (ys : List ι) (i : Nat) : Bool := match ys[i]? with
  | some y => p y
  | none => false
theorem pbOf_at {p : ι → Bool} {ys : List ι} {i : Nat} {y : ι} (h : ys[i]? = some y) : pbOf p ys i = p y := by
  unfold pbOf
  rw [h]
theorem any_pbOf (p : ι → Bool) (ys : List ι) : (List.range ys.length).any (pbOf p ys) = ys.any p := by
  rw [Bool.eq_iff_iff, List.any_eq_true, List.any_eq_true]
  constructor
  · rintro ⟨i, hi, h⟩
    have hi := List.mem_range.mp hi
    rw [pbOf_at (List.getElem?_eq_getElem hi)] at h
    exact ⟨_, List.getElem_mem hi, h⟩
  · rintro ⟨y, hy, h⟩
    obtain ⟨i, hi, e⟩ := List.getElem_of_mem hy
    refine ⟨i, List.mem_range.mpr hi, ?_⟩
    rw [pbOf_at (List.getElem?_eq_getElem hi), e]
    exact h
theorem all_pbOf (p : ι → Bool) (ys : List ι) : (List.range ys.length).all (pbOf p ys) = ys.all p := by
  rw [Bool.eq_iff_iff, List.all_eq_true, List.all_eq_true]
  constructor
  · intro h y hy
    obtain ⟨i, hi, e⟩ := List.getElem_of_mem hy
    have q := h i (List.mem_range.mpr hi)
    rw [pbOf_at (List.getElem?_eq_getElem hi), e] at q
    exact q
  · intro h i hi
    have hi := List.mem_range.mp hi
    rw [pbOf_at (List.getElem?_eq_getElem hi)]
    exact h _ (List.getElem_mem hi)
theorem boot_any' : bootBuiltins (Str.ofString "any") = some (.builtin "any") := by decide +kernel
theorem boot_all' : bootBuiltins (Str.ofString "all") = some (.builtin "all") := by decide +kernel
/-- any(test for tg in iter) -/
theorem pd_any (ys : List ι) (enc : ι → PyData) (δx : ι → List Ent) (p : ι → Bool) (hr : Room (k + 1) X.A) (hN : X.N.Nodup) (hm : X.mg "any" = none) (TB : GxR.TabB X.base X.mg c P) (hP : P ∈ T.tabs) (hcode : X.env.code = .ref c) (hi : PI X tg iter (piD T δ (ys.map enc)))
    (ok : BlkOk X.N X.env.scope scope own) (nocell : ∀ y ∈ scope.names, y.2 ≠ .cell) (h0 : scope.names.lookup (".0" : Str) = some .local) (hco : scope.isCoroutine = false)
    (hg : ∀ A s H cl C code fp pn, PG (XGn X A s H scope cl C code fp pn) tg g) (htg : ∀ y ∈ ys, TgD g (enc y) (wipeD δ (own.map (·.2))) (δx y) (own.map (·.2)))
    (he : ∀ A s H cl C code fp pn, Room k (A.deeper (genEnv scope cl C code builtinsNs X.env)) → ∀ y ∈ ys, PE (XGn X A s H scope cl C code fp pn) elt (tD T (δx y) (.bool (p y)))) (hs : ∀ x, genFold iter X.env x = pure x := by intro _; rfl)
    (hgl : Gl X "any" := by rfl) (hst : starEach [.GeneratorExp elt [⟨tg, iter, [], 0⟩] scope gpos] X.env = (false, eval (.GeneratorExp elt [⟨tg, iter, [], 0⟩] scope gpos) X.env) :: starEach [] X.env := by rfl) :
    PE X (.Call (.Name "any" p0) [.GeneratorExp elt [⟨tg, iter, [], 0⟩] scope gpos] [] pos) (tD T δ (.bool (ys.any p))) := by
  refine ⟨fun pins s σ H Q I ⟨Hs, at_, kk⟩ => ?_⟩
  refine wpAny_Call_Name_kw (ld_blt I hgl hm boot_any' ?_)
  refine PyProof.Rows.callWith_builtin1 ?_ hst (by rfl)
  rw [hst]
  show wpAny _ _ (spliced ((false, eval (.GeneratorExp elt [⟨tg, iter, [], 0⟩] scope gpos) X.env) :: backTo pos (starEach [] X.env))) _ _ s
  refine Calls.spliced_cons (gen_made (k := k) ys enc δx p hr hN TB hP hcode hi ok nocell h0 hco hg htg he hs (pbOf p ys) (fun i y h => pbOf_at h) I at_ fun a s5 ⟨gi, te, tw, hW, L, hg5, hend⟩ => ?_)
  refine Calls.spliced_nil ?_
  refine call_function_tree F.kind_any F.plain_any F.entry_any (F.args_any1 _) ?_
  unfold Builtin.«any»
  refine wpAny_bind (m := oneArg "any" _) (wpAny_pure ?_)
  refine wpAny_bind (wpAny_pyIter_gen hg5 ?_)
  refine wpAny_pure ⟨plainId_quiet F.plain_any_loop _, any_li hW hr.hd hr.depth ys.length 0 s5 rfl (Nat.zero_le _) L fun s' t' => ?_⟩
  obtain ⟨His, Hi, I', g'⟩ := hend s' t'
  refine ⟨.bl _, Hi, I', rfl, kk _ His Hi g' ?_⟩
  rw [List.drop_zero, any_pbOf]
  exact .bl _
/-- all(test for tg in iter) -/
theorem pd_all (ys : List ι) (enc : ι → PyData) (δx : ι → List Ent) (p : ι → Bool) (hr : Room (k + 1) X.A) (hN : X.N.Nodup) (hm : X.mg "all" = none) (TB : GxR.TabB X.base X.mg c P) (hP : P ∈ T.tabs) (hcode : X.env.code = .ref c) (hi : PI X tg iter (piD T δ (ys.map enc)))
    (ok : BlkOk X.N X.env.scope scope own) (nocell : ∀ y ∈ scope.names, y.2 ≠ .cell) (h0 : scope.names.lookup (".0" : Str) = some .local) (hco : scope.isCoroutine = false)
    (hg : ∀ A s H cl C code fp pn, PG (XGn X A s H scope cl C code fp pn) tg g) (htg : ∀ y ∈ ys, TgD g (enc y) (wipeD δ (own.map (·.2))) (δx y) (own.map (·.2)))
    (he : ∀ A s H cl C code fp pn, Room k (A.deeper (genEnv scope cl C code builtinsNs X.env)) → ∀ y ∈ ys, PE (XGn X A s H scope cl C code fp pn) elt (tD T (δx y) (.bool (p y)))) (hs : ∀ x, genFold iter X.env x = pure x := by intro _; rfl)
    (hgl : Gl X "all" := by rfl) (hst : starEach [.GeneratorExp elt [⟨tg, iter, [], 0⟩] scope gpos] X.env = (false, eval (.GeneratorExp elt [⟨tg, iter, [], 0⟩] scope gpos) X.env) :: starEach [] X.env := by rfl) :
    PE X (.Call (.Name "all" p0) [.GeneratorExp elt [⟨tg, iter, [], 0⟩] scope gpos] [] pos) (tD T δ (.bool (ys.all p))) := by
  refine ⟨fun pins s σ H Q I ⟨Hs, at_, kk⟩ => ?_⟩
  refine wpAny_Call_Name_kw (ld_blt I hgl hm boot_all' ?_)
  refine PyProof.Rows.callWith_builtin1 ?_ hst (by rfl)
  rw [hst]
  show wpAny _ _ (spliced ((false, eval (.GeneratorExp elt [⟨tg, iter, [], 0⟩] scope gpos) X.env) :: backTo pos (starEach [] X.env))) _ _ s
  refine Calls.spliced_cons (gen_made (k := k) ys enc δx p hr hN TB hP hcode hi ok nocell h0 hco hg htg he hs (pbOf p ys) (fun i y h => pbOf_at h) I at_ fun a s5 ⟨gi, te, tw, hW, L, hg5, hend⟩ => ?_)
  refine Calls.spliced_nil ?_
  refine call_function_tree F.kind_all F.plain_all F.entry_all (F.args_all1 _) ?_
  unfold Builtin.«all»
  refine wpAny_bind (m := oneArg "all" _) (wpAny_pure ?_)
  refine wpAny_bind (wpAny_pyIter_gen hg5 ?_)
  refine wpAny_pure ⟨plainId_quiet F.plain_all_loop _, all_li hW hr.hd hr.depth ys.length 0 s5 rfl (Nat.zero_le _) L fun s' t' => ?_⟩
  obtain ⟨His, Hi, I', g'⟩ := hend s' t'
  refine ⟨.bl _, Hi, I', rfl, kk _ His Hi g' ?_⟩
  rw [List.drop_zero, all_pbOf]
  exact .bl _
end
end K28

set_option Elab.async false
set_option linter.all false
set_option maxRecDepth 100000
set_option maxHeartbeats 2000000
/-! sorted, of data: whole numbers, tuples (empty ones too). -/
namespace K28
open PySem PySem.Spec PyProof.Rows L2

section
open PySem.W PySem.SeqAt
variable {prog : Program} {w : World} {A : Around} {E : Value → Shared → Prop} {s : Shared}
theorem call_tuple_lt {Q : Value → Shared → Prop} {l b : Addr} {items items2 : Array Value} {e r : Nat → Bool} (hl : s.heap.IsTuple l items) (hb : s.heap.IsTuple b items2)
    (he : ∀ j (h1 : j < items.size) (h2 : j < items2.size), EqAt A.in1 s items[j] items2[j] (e j)) (hr : ∀ j (h1 : j < items.size) (h2 : j < items2.size), e j = false → RcLt A.in1 s items[j] items2[j] (r j))
    (h : Q (.bool (firstLt e r (decide (items.size < items2.size)) (List.range (min items.size items2.size)))) s) : wpAny (model prog w) A (call (.builtin "tuple.__lt__") [.ref l, .ref b]) Q E s := by
  obtain ⟨⟨cls, dd, data, sl⟩, ho, hc, n, hd⟩ := id hl
  obtain ⟨⟨cls2, dd2, data2, sl2⟩, ho2, hc2, n2, hd2⟩ := id hb
  simp only at hc hd hc2 hd2
  subst hc hd hc2 hd2
  exact call_meets F.slot_tuple_lt ⟨_, ho, rfl⟩ F.entry_tuple_lt (F.args_tuple_lt_2 _ _) (tuple_ltAt l b items items2 n n2 dd dd2 sl sl2 e r) ⟨ho, ho2, he, hr, h⟩
theorem oneLt_tuple {xs ys : List PyData} {a b : Value} {as bs : List Addr} {Q : Bool → Shared → Prop} (ra : Reads s.heap a (.tuple xs) as) (rb : Reads s.heap b (.tuple ys) bs) (h : alikeAll xs ys = true)
    (hu : A.units + min (PyData.tuple xs).depth (PyData.tuple ys).depth < cLine) (hq : Q (dataLt (.tuple xs) (.tuple ys)) s) : wpAny (model prog w) A (oneLt' true a b) Q E s := by
  cases ra with
  | @tuple l o vs n _ as₁ h1 h2 h3 h4 =>
    cases rb with
    | @tuple l' o' vs' n' _ bs₁ k1 k2 k3 k4 =>
      have n1 : vs.size = xs.length := by simpa using ReadsAll.length _ _ _ h4
      have n2 : vs'.size = ys.length := by simpa using ReadsAll.length _ _ _ k4
      rw [dataLt_tuple, ← firstLt_toks xs ys h, ← n1, ← n2] at hq
      rw [oneLt'_eq]
      simp only [if_true]
      refine wpAny_bind (wpAny_cRoomFor (room_here hu) ?_)
      refine wpAny_bind (wpAny_callSpecialIfBound?_slot (T := "tuple") ⟨_, h1, h2⟩ F.slot_tuple_lt (call_tuple_lt (e := pairEq xs ys) (r := fun j => dataLt (xs.getD j .none) (ys.getD j .none)) ⟨_, h1, h2, _, h3⟩ ⟨_, k1, k2, _, k3⟩ (fun j j1 j2 => ?_) (fun j j1 j2 hj => ?_) ?_))
      · have := eqAt_alikeAll xs ys A.in1 s vs.toList vs'.toList _ _ h4 k4 h (room_in hu) j (by simpa using j1) (by simpa using j2)
        simpa using this
      · have := rcLt_alikeAll xs ys A.in1 s vs.toList vs'.toList _ _ h4 k4 h (room_in hu) j (by simpa using j1) (by simpa using j2) hj
        simpa using this
      · exact wpAny_truthy_bool hq
def IsTupV (h : Heap) (v : Value) : Prop := ∃ a o xs n, v = .ref a ∧ h.get? a = some o ∧ o.cls = .type "tuple" ∧ o.data = .seq xs n
theorem first_tup {M : Model} {a : Addr} {o : Obj} {xs : Array Value} {n : Nat} {Q : Option Value → Shared → Prop} (ho : s.heap.get? a = some o) (hc : o.cls = .type "tuple") (hd : o.data = .seq xs n) (h : Q xs[0]? s) : wpAny M A (firstOfTuple' (.ref a)) Q E s := by
  rw [kas_first_eq]
  refine wpAny_bind (Looks.here (show Looks M s.heap (typeOf (.ref a)) o.cls from (Looks.ld ho).andThen .now) ?_)
  rw [hc, if_neg (by first | decide | simp)]
  exact wpAny_bind (listItems_at ho hd (wpAny_pure h))
theorem mapM_first {M : Model} : ∀ (vs : List Value) {Q : List (Option Value) → Shared → Prop}, (∀ v ∈ vs, IsTupV s.heap v) → (∀ fs, Q fs s) → wpAny M A (vs.mapM firstOfTuple') Q E s
  | [], _, _, h => by rw [List.mapM_nil]; exact wpAny_pure (h _)
  | v :: vs, Q, t, h => by
    obtain ⟨a, o, xs, n, rfl, ho, hc, hd⟩ := t v List.mem_cons_self
    rw [List.mapM_cons]
    refine wpAny_bind (first_tup ho hc hd ?_)
    exact wpAny_bind (mapM_first vs (fun v hv => t v (List.mem_cons_of_mem _ hv)) fun fs => wpAny_pure (h _))
theorem kind_mixed {v : Value} {vs : List Value} {Q : SortKind → Shared → Prop} {M : Model} (t : ∀ u ∈ v :: vs, IsTupV s.heap u) (h0 : ∃ a o n, v = .ref a ∧ s.heap.get? a = some o ∧ o.cls = .type "tuple" ∧ o.data = .seq #[] n) (h : Q oneType' s) : wpAny M A (keyKind' (v :: vs).toArray) Q E s := by
  obtain ⟨a, o, n, rfl, ho, hc, hd⟩ := h0
  rw [kat_kind_eq, List.mapM_toArray, map_eq_pure_bind, List.mapM_cons]
  refine wpAny_bind (wpAny_bind (wpAny_bind (first_tup ho hc hd ?_)))
  refine wpAny_bind (mapM_first vs (fun v hv => t v (List.mem_cons_of_mem _ hv)) fun fs => wpAny_pure (wpAny_pure ?_))
  have e1 : ((((#[] : Array Value)[0]?) :: fs).toArray.all fun x => x.isSome) = false := by simp
  rw [if_neg (by rw [e1]; exact Bool.false_ne_true)]
  have e2 : (((((#[] : Array Value)[0]?) :: fs).toArray[0]?).bind id).isSome = false := by simp
  rw [if_neg (by rw [e2]; exact Bool.false_ne_true)]
  rw [oneTypeOnly'_eq, List.mapM_toArray, map_eq_pure_bind]
  have hT : ∀ u ∈ (Value.ref a :: vs), Looks M s.heap (typeOf u) (Value.type "tuple") := fun u hu => by
    obtain ⟨a', o', xs', n', rfl, ho', hc', _⟩ := t u hu
    exact hc' ▸ (Looks.ld ho').andThen .now
  refine wpAny_bind (wpAny_bind (wpAny_bind (kas_mapM (r := Value.type "tuple") _ (fun u hu Q' hq => (hT u hu).here hq) (wpAny_pure ?_))))
  have hall : ((List.map (fun _ => Value.type "tuple") (Value.ref a :: vs)).toArray.all fun x => x == Value.type "tuple") = true := by
    simp only [List.all_toArray, List.all_map, List.all_eq_true]
    intro _ _
    exact beq_self_eq_true _
  have h0 : (List.map (fun _ => Value.type "tuple") (Value.ref a :: vs)).toArray[0]? = some (Value.type "tuple") := by simp
  rw [h0]
  simp only [hall, if_true]
  exact wpAny_pure (wpAny_pure h)
/-- all are tuples with an item, or none is a tuple or None, or all are tuples and the first is empty -/
def SortOk (ds : List PyData) : Prop := Sortable ds ∨ ∃ r, ds = .tuple [] :: r ∧ ∀ d ∈ r, ∃ xs, d = .tuple xs
theorem sortsAt_ok {vs : List Value} {ds : List PyData} (e : EachIs (fun v d => ∃ as, Reads s.heap v d as) vs ds) (hal : AllAlike ds) (hk : SortOk ds) (hu : ∀ d, d ∈ ds → A.units + d.depth < cLine) : SortsAt prog w A s (dataKind s.heap ds) vs := by
  rcases hk with hk | ⟨r, rfl, ht⟩
  · exact .data e hal hk hu
  have tp : ∀ d ∈ PyData.tuple [] :: r, ∃ xs, d = PyData.tuple xs := fun d hd => by
    rcases List.mem_cons.mp hd with rfl | hd
    · exact ⟨[], rfl⟩
    · exact ht d hd
  refine ⟨fun v hv => ?_, oneType', ?_, fun h2 E Q hq => ?_⟩
  · obtain ⟨d, hd, as, r⟩ := e.left v hv
    exact ⟨_, dataKind_some hal hd r⟩
  · intro E x y a b Q ha hb hq
    obtain ⟨d, as, hd, ra, rfl⟩ := dataKind_inv ha
    obtain ⟨d', as', hd', rb, rfl⟩ := dataKind_inv hb
    obtain ⟨xs, rfl⟩ := tp d hd
    obtain ⟨ys, rfl⟩ := tp d' hd'
    rw [keyLt'_oneType]
    exact oneLt_tuple ra rb (by have := hal _ hd _ hd'; simpa [alike] using this) (Nat.lt_of_le_of_lt (Nat.add_le_add_left (Nat.min_le_left _ _) _) (hu _ hd)) hq
  · have tv : ∀ v ∈ vs, IsTupV s.heap v := fun v hv => by
      obtain ⟨d, hd, as, rr⟩ := e.left v hv
      obtain ⟨xs, rfl⟩ := tp d hd
      cases rr with
      | tuple h1 h2 h3 h4 => exact ⟨_, _, _, _, rfl, h1, h2, h3⟩
    cases e with
    | cons h t =>
      obtain ⟨as, rr⟩ := h
      refine kind_mixed tv ?_ hq
      cases rr with
      | @tuple a o xs n _ _ g1 g2 g3 g4 =>
        have e0 : xs = #[] := by
          have := SeqAt.ReadsAll.length _ _ _ g4
          rw [Array.length_toList, List.length_nil] at this
          exact Array.size_eq_zero_iff.mp this
        subst e0
        exact ⟨_, _, _, rfl, g1, g2, g3⟩
theorem sorted_dataM {β : Type} {R : Value → β → Prop} {enc : β → PyData} {bs : List β} {vs : List Value} {l : Addr} {Q : Value → Shared → Prop} (hl : s.heap.IsList l vs.toArray) (e : EachIs R vs bs) (er : EachIs (fun v b => ∃ as, Reads s.heap v (enc b) as) vs bs) (hal : AllAlike (bs.map enc)) (hk : SortOk (bs.map enc)) (hL : bs.length ≤ sizeLine)
    (hu : ∀ b, b ∈ bs → A.units + 2 + (enc b).depth < cLine) (h : ∀ out, out.length = bs.length → EachIs R out (bs.mergeSort (dataLe false enc)) → Q (.ref (s.heap.objs.size + 1)) { s with heap := sortedAll s.heap vs (List.toArray out) }) :
    wpAny (model prog w) A (call (.builtin "sorted") [.ref l]) Q E s := by
  have er' : EachIs (fun v b => ∃ as, Reads (sortingHeap (copyHeap s.heap vs) (s.heap.objs.size + 1) vs) v (enc b) as) vs bs := er.mono fun _ _ ⟨as, r⟩ => ⟨as, PyProof.Rows.Reads.keeps (fun _ _ => sorting_copy_old) r⟩
  exact sorted_vals hl (sortsAt_ok (s := { s with heap := sortingHeap (copyHeap s.heap vs) (s.heap.objs.size + 1) vs }) (each_map (R := fun v d => ∃ as, Reads (sortingHeap (copyHeap s.heap vs) (s.heap.objs.size + 1) vs) v d as) enc er') hal hk (bound_map (A := A.in1.in1) hu)) (by rw [e.length]; exact hL)
    (h _ (by rw [sortVals_length false rfl]; exact e.length) (sortVals_data false e er' hal))
end
theorem dpAll_len {K : PySem.W.Frag} {H : Hp} : ∀ {vs : List V} {ds : List PyData}, DpAll K H vs ds → vs.length = ds.length
  | _, _, .nil => rfl
  | _, _, .cons _ t => by rw [List.length_cons, List.length_cons, dpAll_len t]
open PySem.W in
def rSortedD (K : PySem.W.Frag) : List V → Hp → VK → Prop := fun vs H Q => ∃ (a : Addr) (ys : List V) (ds : List PyData), vs = [.ref a] ∧ SqL K H a ys ∧ DpAll K H ys ds ∧ AllAlike ds ∧ SortOk ds ∧ (∀ d ∈ ds, d.depth ≤ 60) ∧
  ∀ bs : List (V × PyData), bs.map Prod.fst = ys → bs.map Prod.snd = ds → ∀ l, H l = none → Q (.ref l) (upd H l (.lst ((bs.mergeSort (dataLe false Prod.snd)).map Prod.fst)))
open PySem.W in
theorem each_zip {K : PySem.W.Frag} {X : Cx} {pins : List (Addr × Obj)} {σ : L2.St} {H : Hp} {s : Shared} (I : Inv X pins σ H s) : ∀ {ys : List V} {ds : List PyData} {us : List Value}, DpAll X.K H ys ds → Vals ys us →
    EachIs (fun u (p : V × PyData) => RelV p.1 u) us (ys.zip ds) ∧ EachIs (fun u (p : V × PyData) => ∃ as, Reads s.heap u p.2 as) us (ys.zip ds)
  | _, _, _, .nil, .nil => ⟨.nil, .nil⟩
  | _, _, _, .cons h t, .cons r rs => by
    obtain ⟨h1, h2⟩ := each_zip (K := K) I t rs
    exact ⟨.cons r h1, .cons (Dp.reads I _ _ _ h r) h2⟩
open PySem.W in
theorem each_vals : ∀ {us : List Value} {bs : List (V × PyData)}, EachIs (fun u (p : V × PyData) => RelV p.1 u) us bs → Vals (bs.map Prod.fst) us
  | _, _, .nil => .nil
  | _, _, .cons h t => .cons h (each_vals t)
open PySem.W in
theorem cr_sortedD {X : Cx} (hu : X.A.units + 64 < cLine) : CallR X (.builtin "sorted") (rSortedD X.K) := by
  intro pins s σ H vs us Q I r h
  obtain ⟨a, ys, ds, rfl, hs, hd, hal, hk, hde, q⟩ := h
  obtain ⟨its, rv, hl, hz⟩ := I.list hs
  obtain ⟨u, rfl, ru⟩ := vals1 r
  obtain rfl : u = Value.ref a := ru
  obtain ⟨e1, e2⟩ := each_zip (K := X.K) I hd rv
  have hlen : ys.length = ds.length := dpAll_len hd
  have m1 : (ys.zip ds).map Prod.fst = ys := List.map_fst_zip (by omega)
  have m2 : (ys.zip ds).map Prod.snd = ds := List.map_snd_zip (by omega)
  have hzl : (ys.zip ds).length = ys.length := by rw [← List.length_map (f := Prod.fst), m1]
  refine sorted_dataM (enc := Prod.snd) hl.isList e1 e2 (by rw [m2]; exact hal) (by rw [m2]; exact hk) (by rw [hzl]; exact hz) (fun b hb => ?_) fun out ho eo => ?_
  · have := hde b.2 (by rw [← m2]; exact List.mem_map.mpr ⟨b, hb, rfl⟩)
    omega
  · obtain ⟨n, hn⟩ := sortedAll_at s.heap its out.toArray
    have hx : H (s.heap.objs.size + 1) = none := I.hok.fresh (Nat.le_succ _)
    refine ⟨.ref (s.heap.objs.size + 1), upd H (s.heap.objs.size + 1) (.lst (((ys.zip ds).mergeSort (dataLe false Prod.snd)).map Prod.fst)), I.laid (t' := s.toks) (fun b o e => sortedAll_old e) (Nat.le_succ _) ⟨?_, out, n, each_vals eo, hn⟩, rfl, q _ m1 m2 _ hx⟩
    rw [List.length_map, (List.mergeSort_perm _ _).length_eq, hzl]
    exact hz
theorem daAll_of {Hs : Hp} : ∀ {bs : List (V × PyData)}, (∀ b ∈ bs, Da Hs b.1 b.2) → DaAll Hs (bs.map Prod.fst) (bs.map Prod.snd)
  | [], _ => .nil
  | b :: bs, h => .cons (h b List.mem_cons_self) (daAll_of fun c hc => h c (List.mem_cons_of_mem _ hc))
theorem daAll_mem {Hs : Hp} : ∀ {bs : List (V × PyData)}, DaAll Hs (bs.map Prod.fst) (bs.map Prod.snd) → ∀ b ∈ bs, Da Hs b.1 b.2
  | b :: bs, .cons h t, c, hc => by
    rcases List.mem_cons.mp hc with rfl | hc
    · exact h
    · exact daAll_mem t c hc
mutual
theorem alike_pl : ∀ d : PyData, PySem.W.alike d d = true → plD d = true
  | .none, _ => by rw [plD] <;> simp
  | .bool _, _ => by rw [plD] <;> simp
  | .int _, _ => by rw [plD] <;> simp
  | .str _, _ => by rw [plD] <;> simp
  | .list xs, h => by rw [plD]; exact alikeA_pl xs (by simpa [PySem.W.alike] using h)
  | .tuple xs, h => by rw [plD]; exact alikeA_pl xs (by simpa [PySem.W.alike] using h)
  | .dict _, h => by simp [PySem.W.alike] at h
theorem alikeA_pl : ∀ ds : List PyData, PySem.W.alikeAll ds ds = true → plA ds = true
  | [], _ => by rw [plA]
  | d :: ds, h => by
    obtain ⟨h1, h2⟩ := PySem.W.alike_all_cons h
    rw [plA, alike_pl d h1, alikeA_pl ds h2]
    rfl
end
theorem allAlike_pl : ∀ {ds : List PyData}, (∀ d ∈ ds, PySem.W.alike d d = true) → plA ds = true
  | [], _ => by rw [plA]
  | d :: ds, h => by
    rw [plA, alike_pl d (h d List.mem_cons_self), allAlike_pl fun x hx => h x (List.mem_cons_of_mem _ hx)]
    rfl
open PySem.W in
theorem rc_sorted {K : PySem.W.Frag} {ds : List PyData} (hal : AllAlike ds) (hk : SortOk ds) (hd : ∀ d ∈ ds, d.depth ≤ 60) : RC (rSortedD K) [.list ds] (.list (ds.mergeSort (dataLe false id))) := fun Hs H vs Q s a k => by
  cases a with
  | cons h t =>
    cases t
    obtain ⟨p, us, rfl, e1, e2⟩ := h.lstV
    refine ⟨p, us, ds, rfl, SqL.of (s.lst e1), DaAll_dp (DaAll_mono s e2) (allAlike_pl fun d hd => hal d hd d hd), hal, hk, hd, fun bs m1 m2 l hl => k _ _ _ (.new s hl) (.lst upd_same (DaAll_mono (.new (s.back hl)) ?_))⟩
    subst m1
    subst m2
    have e : (bs.map Prod.snd).mergeSort (dataLe false id) = (bs.mergeSort (dataLe false Prod.snd)).map Prod.snd := (List.map_mergeSort (f := Prod.snd) (r := dataLe false Prod.snd) (s := dataLe false id) (fun _ _ _ _ => rfl)).symm
    rw [e]
    exact daAll_of fun b hb => daAll_mem e2 b ((List.mergeSort_perm _ _).mem_iff.mp hb)
end K28

set_option Elab.async false
set_option linter.all false
set_option maxRecDepth 100000
set_option maxHeartbeats 2000000
namespace K28
open PySem PySem.Spec PyProof.Rows L2

/-! ### the order in plain words -/
def ltN (x y : Nat) : Bool := decide (x < y)
def ltL {α : Type} [DecidableEq α] (lt : α → α → Bool) : List α → List α → Bool
  | [], [] => false
  | [], _ :: _ => true
  | _ :: _, [] => false
  | x :: xs, y :: ys => if x = y then ltL lt xs ys else lt x y
def ltP {α β : Type} [DecidableEq α] [DecidableEq β] (lt : α → α → Bool) (lt' : β → β → Bool) (p q : α × β) : Bool := if p.1 = q.1 then (if p.2 = q.2 then false else lt' p.2 q.2) else lt p.1 q.1
/-- a strict total order -/
structure Lin {α : Type} (lt : α → α → Bool) : Prop where
  irr : ∀ x, lt x x = false
  tra : ∀ x y z, lt x y = true → lt y z = true → lt x z = true
  tri : ∀ x y, x ≠ y → lt x y = true ∨ lt y x = true
theorem lin_N : Lin ltN := ⟨fun x => by simp [ltN], fun x y z a b => by simp [ltN] at *; omega, fun x y h => by simp [ltN]; omega⟩
theorem lin_L {α : Type} [DecidableEq α] {lt : α → α → Bool} (h : Lin lt) : Lin (ltL lt) where
  irr := fun xs => by
    induction xs with
    | nil => rfl
    | cons x xs ih => rw [ltL, if_pos rfl]; exact ih
  tra := fun xs => by
    induction xs with
    | nil =>
      intro ys zs a b
      cases ys with
      | nil => exact b
      | cons y ys =>
        cases zs with
        | nil => cases b
        | cons z zs => rfl
    | cons x xs ih =>
      intro ys zs a b
      cases ys with
      | nil => cases a
      | cons y ys =>
        cases zs with
        | nil => cases b
        | cons z zs =>
          rw [ltL] at a b ⊢
          by_cases e1 : x = y
          · subst e1
            by_cases e2 : x = z
            · subst e2
              rw [if_pos rfl] at a b ⊢
              exact ih _ _ a b
            · rw [if_neg e2] at b ⊢
              exact b
          · rw [if_neg e1] at a
            by_cases e2 : y = z
            · subst e2
              rw [if_neg e1]
              exact a
            · rw [if_neg e2] at b
              have c := h.tra _ _ _ a b
              by_cases e3 : x = z
              · subst e3
                rw [h.irr] at c
                cases c
              · rw [if_neg e3]
                exact c
  tri := fun xs => by
    induction xs with
    | nil =>
      intro ys hn
      cases ys with
      | nil => exact (hn rfl).elim
      | cons y ys => exact .inl rfl
    | cons x xs ih =>
      intro ys hn
      cases ys with
      | nil => exact .inr rfl
      | cons y ys =>
        rw [ltL, ltL]
        by_cases e : x = y
        · subst e
          rw [if_pos rfl, if_pos rfl]
          exact ih ys fun z => hn (by rw [z])
        · rw [if_neg e, if_neg (Ne.symm e)]
          exact h.tri _ _ e
theorem lin_P {α β : Type} [DecidableEq α] [DecidableEq β] {lt : α → α → Bool} {lt' : β → β → Bool} (h : Lin lt) (h' : Lin lt') : Lin (ltP lt lt') where
  irr := fun p => by simp [ltP]
  tra := fun ⟨a, b⟩ ⟨c, d⟩ ⟨e, f⟩ x y => by
    simp only [ltP] at *
    by_cases e1 : a = c
    · subst e1
      by_cases e2 : a = e
      · subst e2
        rw [if_pos rfl] at x y ⊢
        by_cases e3 : b = d
        · subst e3
          rw [if_pos rfl] at x
          cases x
        · rw [if_neg e3] at x
          by_cases e4 : d = f
          · subst e4
            rw [if_pos rfl] at y
            cases y
          · rw [if_neg e4] at y
            have c := h'.tra _ _ _ x y
            by_cases e5 : b = f
            · subst e5
              rw [h'.irr] at c
              cases c
            · rw [if_neg e5]
              exact c
      · rw [if_neg e2] at y ⊢
        exact y
    · rw [if_neg e1] at x
      by_cases e2 : c = e
      · subst e2
        rw [if_neg e1]
        exact x
      · rw [if_neg e2] at y
        have z := h.tra _ _ _ x y
        by_cases e3 : a = e
        · subst e3
          rw [h.irr] at z
          cases z
        · rw [if_neg e3]
          exact z
  tri := fun ⟨a, b⟩ ⟨c, d⟩ hn => by
    simp only [ltP]
    by_cases e1 : a = c
    · subst e1
      have e2 : b ≠ d := fun z => hn (by rw [z])
      rw [if_pos rfl, if_pos rfl, if_neg e2, if_neg (Ne.symm e2)]
      exact h'.tri _ _ e2
    · rw [if_neg e1, if_neg (Ne.symm e1)]
      exact h.tri _ _ e1
section
variable {α : Type} {lt : α → α → Bool}
def ins (lt : α → α → Bool) (x : α) : List α → List α
  | [] => [x]
  | y :: ys => if lt y x = true then y :: ins lt x ys else x :: y :: ys
def isort (lt : α → α → Bool) : List α → List α
  | [] => []
  | x :: xs => ins lt x (isort lt xs)
theorem ins_perm (x : α) : ∀ ys, (ins lt x ys).Perm (x :: ys)
  | [] => .refl _
  | y :: ys => by
    unfold ins
    split
    · exact ((ins_perm x ys).cons y).trans (List.Perm.swap ..)
    · exact .refl _
theorem isort_perm : ∀ xs : List α, (isort lt xs).Perm xs
  | [] => .refl _
  | x :: xs => (ins_perm x _).trans ((isort_perm xs).cons x)
theorem ins_sorted (h : Lin lt) (x : α) : ∀ ys : List α, ys.Pairwise (fun a b => lt b a = false) → (ins lt x ys).Pairwise (fun a b => lt b a = false)
  | [], _ => List.pairwise_singleton _ _
  | y :: ys, hs => by
    unfold ins
    obtain ⟨h1, h2⟩ := List.pairwise_cons.mp hs
    split
    · rename_i hy
      refine List.pairwise_cons.mpr ⟨fun z hz => ?_, ins_sorted h x ys h2⟩
      rcases List.mem_cons.mp ((ins_perm x ys).mem_iff.mp hz) with rfl | hz
      · cases q : lt z y with
        | false => rfl
        | true =>
          have := h.tra _ _ _ q hy
          rw [h.irr] at this
          cases this
      · exact h1 z hz
    · rename_i hy
      have hy : lt y x = false := by simpa using hy
      refine List.pairwise_cons.mpr ⟨fun z hz => ?_, hs⟩
      rcases List.mem_cons.mp hz with rfl | hz
      · exact hy
      · cases q : lt z x with
        | false => rfl
        | true =>
          exfalso
          have e1 := h1 z hz
          by_cases e : x = y
          · subst e
            rw [q] at e1
            cases e1
          · rcases h.tri x y e with w | w
            · have := h.tra _ _ _ q w
              rw [this] at e1
              cases e1
            · rw [w] at hy
              cases hy
theorem isort_sorted (h : Lin lt) : ∀ xs : List α, (isort lt xs).Pairwise (fun a b => lt b a = false)
  | [] => .nil
  | x :: xs => ins_sorted h x _ (isort_sorted h xs)
theorem sorted_uniq (h : Lin lt) : ∀ {l m : List α}, l.Pairwise (fun a b => lt b a = false) → m.Pairwise (fun a b => lt b a = false) → l.Perm m → l = m
  | [], m, _, _, p => p.nil_eq
  | x :: l, [], _, _, p => (by simpa using p.length_eq)
  | x :: l, y :: m, hl, hm, p => by
    obtain ⟨a1, a2⟩ := List.pairwise_cons.mp hl
    obtain ⟨b1, b2⟩ := List.pairwise_cons.mp hm
    have e : x = y := by
      apply Classical.byContradiction
      intro ne
      have hx : x ∈ m := by
        rcases List.mem_cons.mp (p.mem_iff.mp List.mem_cons_self) with z | z
        · exact (ne z).elim
        · exact z
      have hy : y ∈ l := by
        rcases List.mem_cons.mp (p.mem_iff.mpr List.mem_cons_self) with z | z
        · exact (ne z.symm).elim
        · exact z
      have q1 := a1 y hy
      have q2 := b1 x hx
      rcases h.tri x y ne with w | w
      · rw [w] at q2
        cases q2
      · rw [w] at q1
        cases q1
    subst e
    rw [sorted_uniq h a2 b2 (List.perm_cons _ |>.mp p)]
theorem ms_isort (h : Lin lt) (xs : List α) : xs.mergeSort (fun a b => !lt b a) = isort lt xs := by
  refine sorted_uniq h ?_ (isort_sorted h xs) ((List.mergeSort_perm _ _).trans (isort_perm xs).symm)
  have q := List.pairwise_mergeSort (le := fun a b => !lt b a) (fun a b c h1 h2 => ?_) (fun a b => ?_) xs
  · exact q.imp fun {a b} z => by simpa using z
  · have h1 : lt b a = false := by simpa using h1
    have h2 : lt c b = false := by simpa using h2
    show (!lt c a) = true
    cases q : lt c a with
    | false => rfl
    | true =>
      exfalso
      by_cases e : a = b
      · subst e
        rw [q] at h2
        cases h2
      · rcases h.tri a b e with w | w
        · have := h.tra _ _ _ q w
          rw [this] at h2
          cases h2
        · rw [w] at h1
          cases h1
  · show (!lt b a || !lt a b) = true
    cases q : lt b a with
    | false => rfl
    | true =>
      cases q2 : lt a b with
      | false => rfl
      | true =>
        have := h.tra _ _ _ q q2
        rw [h.irr] at this
        cases this
end
end K28

set_option Elab.async false
set_option linter.all false
set_option maxRecDepth 100000
set_option maxHeartbeats 2000000
namespace K28
open PySem PySem.Spec PyProof.Rows L2
open PySem.W (alike alikeAll dataLt dataLe AllAlike Sortable keyToks keyToksAll)

/-- an encoding whose items can be sorted -/
structure EOrd {α : Type} [DecidableEq α] (e : α → PyData) (k : Nat) (lt : α → α → Bool) : Prop extends Enc e k where
  al : ∀ x y, alike (e x) (e y) = true
  lt : ∀ x y, dataLt (e x) (e y) = lt x y
section
variable {α β : Type} [DecidableEq α] [DecidableEq β] {e : α → PyData} {e' : β → PyData} {k : Nat} {lt : α → α → Bool} {lt' : β → β → Bool}
theorem EOrd.alAll (h : EOrd e k lt) : ∀ xs ys : List α, alikeAll (xs.map e) (ys.map e) = true
  | [], _ => by rw [List.map_nil]; unfold alikeAll; rfl
  | _ :: _, [] => by rw [List.map_nil, List.map_cons]; unfold alikeAll; rfl
  | x :: xs, y :: ys => by rw [List.map_cons, List.map_cons, alikeAll, h.al, EOrd.alAll h xs ys]; rfl
theorem EOrd.ltAll (h : EOrd e k lt) : ∀ xs ys : List α, PyProof.Rows.lexLt itemOrd (keyToksAll (xs.map e)) (keyToksAll (ys.map e)) = ltL lt xs ys
  | [], [] => by
    show PyProof.Rows.lexLt itemOrd (keyToksAll []) (keyToksAll []) = false
    exact PyProof.Rows.lex_irrefl _
  | [], y :: ys => by
    rw [List.map_cons, List.map_nil, PySem.W.toks_all_cons]
    rfl
  | x :: xs, [] => by
    rw [List.map_cons, List.map_nil, PySem.W.toks_all_cons]
    rfl
  | x :: xs, y :: ys => by
    rw [List.map_cons, List.map_cons, ltL]
    by_cases q : x = y
    · subst q
      rw [if_pos rfl, PySem.W.dataLt_all_yes (h.al x x) (by rw [h.eq]; simp), EOrd.ltAll h xs ys]
    · rw [if_neg q, PySem.W.dataLt_all_no (h.al x y) (by rw [h.eq]; simp [q]), h.lt]
theorem EOrd.nat : EOrd nD 0 ltN := { Enc.nat with
  al := fun x y => by unfold nD; unfold alike; rfl
  lt := fun x y => by
    unfold nD ltN
    rw [PySem.W.dataLt_int]
    by_cases h : x < y
    · simp [h]
    · simp [h] }
theorem EOrd.tup (h : EOrd e k lt) : EOrd (fun xs : List α => PyData.tuple (xs.map e)) (k + 1) (ltL lt) := { Enc.tup h.toEnc with
  al := fun xs ys => by unfold alike; exact h.alAll xs ys
  lt := fun xs ys => by rw [PySem.W.dataLt_tuple]; exact h.ltAll xs ys }
theorem EOrd.pair (h : EOrd e k lt) (h' : EOrd e' k lt') : EOrd (fun p : α × β => PyData.tuple [e p.1, e' p.2]) (k + 1) (ltP lt lt') := { Enc.pair h.toEnc h'.toEnc with
  al := fun p q => by
    unfold alike alikeAll
    rw [h.al]
    unfold alikeAll
    rw [h'.al]
    unfold alikeAll
    rfl
  lt := fun p q => by
    rw [PySem.W.dataLt_pair (h.al _ _) (h'.al _ _), h.eq, h'.eq, h.lt, h'.lt]
    unfold ltP
    by_cases a : p.1 = q.1
    · rw [if_pos a, decide_eq_true a, if_pos rfl]
      by_cases b : p.2 = q.2
      · rw [if_pos b, decide_eq_true b, if_pos rfl]
      · rw [if_neg b, decide_eq_false b, if_neg Bool.false_ne_true]
    · rw [if_neg a, decide_eq_false a, if_neg Bool.false_ne_true] }
theorem EOrd.all (h : EOrd e k lt) (xs : List α) : AllAlike (xs.map e) := fun d hd d' hd' => by
  obtain ⟨x, _, rfl⟩ := List.mem_map.mp hd
  obtain ⟨y, _, rfl⟩ := List.mem_map.mp hd'
  exact h.al x y
theorem EOrd.sort (h : EOrd e k lt) (l : Lin lt) (xs : List α) : (xs.map e).mergeSort (dataLe false id) = (isort lt xs).map e := by
  rw [← ms_isort l, List.map_mergeSort (f := e) (r := fun a b => !lt b a) (s := dataLe false id)]
  intro a _ b _
  rw [PySem.W.dataLe_eq]
  show (!lt b a) = !dataLt (e b) (e a)
  rw [h.lt]
end
def ltLot : List Nat → List Nat → Bool := ltL ltN
def ltDd : List Nat × List Nat → List Nat × List Nat → Bool := ltP ltLot ltLot
theorem EOrd.lot : EOrd lotD 1 ltLot := EOrd.nat.tup
theorem EOrd.dd : EOrd ddD 2 ltDd := EOrd.lot.pair EOrd.lot
theorem EOrd.told : EOrd (tupD lotD) 2 (ltL ltLot) := EOrd.lot.tup
theorem lin_lot : Lin ltLot := lin_L lin_N
theorem lin_dd : Lin ltDd := lin_P lin_lot lin_lot

/-! sorted -/
section
variable {X : Cx} {T : Tx} {δ : List Ent} {e : Expr} {pos p : Pos}
theorem pd_sorted {ds : List PyData} (hu : X.A.units + 64 < cLine) (hal : AllAlike ds) (hk : SortOk ds) (hd : ∀ d ∈ ds, d.depth ≤ 60) (hm : X.mg "sorted" = none) (h : PE X e (tD T δ (.list ds))) (hg : Gl X "sorted" := by rfl) (he : starEach [e] X.env = (false, eval e X.env) :: starEach [] X.env := by rfl) :
    PE X (.Call (.Name "sorted" p) [e] [] pos) (tD T δ (.list (ds.mergeSort (dataLe false id)))) :=
  pd_callB (cr_sortedD hu) (rc_sorted hal hk hd) hm boot_sorted (pda_cons h pda_nil he) hg (he := he)
theorem pd_sortedE {α : Type} [DecidableEq α] {en : α → PyData} {k : Nat} {lt : α → α → Bool} (E : EOrd en k lt) (l : Lin lt) (hk : k ≤ 60) (xs : List α) (ok : SortOk (xs.map en)) (hu : X.A.units + 64 < cLine) (hm : X.mg "sorted" = none) (h : PE X e (tD T δ (listD en xs))) (hg : Gl X "sorted" := by rfl)
    (he : starEach [e] X.env = (false, eval e X.env) :: starEach [] X.env := by rfl) : PE X (.Call (.Name "sorted" p) [e] [] pos) (tD T δ (listD en (isort lt xs))) := by
  have q := pd_sorted (p := p) (pos := pos) hu (E.all xs) ok (fun d hd => by
    obtain ⟨x, _, rfl⟩ := List.mem_map.mp hd
    exact Nat.le_trans (E.sh x).2 hk) hm h hg he
  rw [E.sort l] at q
  exact q
theorem sok_nat (xs : List Nat) : SortOk (xs.map nD) := .inl (.others fun b => ⟨by unfold nD; simp, fun ys => by unfold nD; simp⟩)
theorem sok_dd (xs : List (List Nat × List Nat)) : SortOk (xs.map ddD) := .inl (.tuples fun b => ⟨_, _, rfl⟩)
theorem sok_lot {xs : List (List Nat)} : SortOk (([] :: xs).map lotD) := .inr ⟨xs.map lotD, rfl, fun d hd => by
  obtain ⟨x, _, rfl⟩ := List.mem_map.mp hd
  exact ⟨_, rfl⟩⟩
end
end K28

set_option Elab.async false
set_option linter.all false
set_option maxRecDepth 100000
set_option maxHeartbeats 2000000
namespace K28
open PySem PySem.Spec PyProof.Rows L2

/-! ### a def whose code object is known -/
structure FunC (K : PySem.W.Frag) (x qual : Str) (st : Stmt) (f : Addr) (fd : FuncData) (c : Addr) : Prop where
  fn : Fun K x qual st f fd
  code : fd.code = .ref c
section
variable {P : Program} {w : World} {K : PySem.W.Frag} {mg : Str → Option Value} {base : Heap} {T : Tx}
theorem fn_dataC {x qual : Str} {st : Stmt} {f c : Addr} {fd : FuncData} {N ps : List Str} {k : Nat} {R : List PyData → PyData → Prop} (FC : FunC K x qual st f fd c) (S : FnScope N ps (defScope st)) (hm : mg x = some (.ref f))
    (hb : Binds K fd ps []) (len : ∀ ds r, R ds r → ds.length = ps.length)
    (hbody : ∀ (A : Around) (outer : List Env) (s : Shared) (H : Hp) (E : XK) (H0s H0 : Hp) (ds : List PyData) (r : PyData), Room k (A.deeper (envOfC qual (defScope st) s.heap.objs.size f (.ref c))) → R ds r →
      ∃ o, (o = .rt r ∨ ∃ δ', o = .nx δ' ∧ r = .none) ∧ PSs (BX P w K mg base N qual st f (.ref c) A outer s H E) (defBody st) (tS T H0s H0 (δ0 N ds) o)) : Has P w K mg base T x (k + 1) R := by
  have hl : ∀ vs H Q E, spD T R vs H Q E → vs.length = ps.length := fun vs H Q E h => by
    obtain ⟨Hs, ds, r, _, d, hR, _⟩ := h
    rw [d.len]
    exact len ds r hR
  have hbody2 : ∀ (cdv : Value) (A : Around) (outer : List Env) (s : Shared) (H : Hp) (vs : List V) (Q : VK) (E : XK), cdv = .ref c → Room k (A.deeper (envOfC qual (defScope st) s.heap.objs.size f cdv)) → spD T R vs H Q E →
      ∃ t, PSs (BX P w K mg base N qual st f cdv A outer s H E) (defBody st) t ∧ t { nx := fun _ H' => Q .non H', rt := Q } (L2.start N vs) H := by
    intro cdv A outer s H vs Q E e hr h
    subst e
    obtain ⟨Hs, ds, r, sub, d, hR, tb, q⟩ := h
    obtain ⟨o, ho, hp⟩ := hbody A outer s H E Hs H ds r hr hR
    refine ⟨_, hp, Hs, ⟨.refl sub, env_start d, fun i e p w1 m _ => (δ0_mine w1 m).elim, tb⟩, ?_⟩
    · rcases ho with rfl | ⟨δ', rfl, rfl⟩
      · exact fun v Hs' H' g dd => q v Hs' H' g dd
      · exact fun σ' Hs' H' _ b => q .non Hs' H' b.gr .non
  obtain ⟨F, hc⟩ := FC
  refine ⟨f, fd, ps, ?_, hm, F.kp, hb⟩
  obtain ⟨oc, od, kV, doc, pm, an, cdv, ct, osl, rfl, lk, hcd⟩ := F.ex
  have hc : cdv = .ref c := hc
  refine fn_of lk hcd S hl fun A outer s H vs Q E hr hsp => ?_
  obtain ⟨t, h, q⟩ := hbody2 cdv A outer s H vs Q E hc hr hsp
  exact ⟨t, h.nox, q⟩
end

section
variable {X : Cx} {T : Tx} {δ : List Ent} {tg a b e : Expr} {es : List Expr} {pos p : Pos} {xs ds : List PyData} {x y d : PyData}
theorem pid_rangeI {i : Int} (h : PA X [a] (tDA T δ [.int i])) (h0 : -1000000 ≤ i) (hn : i ≤ 1000000) (hm : X.mg "range" = none) (hg : Gl X "range" := by rfl) (hs : starEach [a] X.env = [(false, eval a X.env)] := by rfl) :
    PI X tg (.Call (.Name "range" p) [a] [] pos) (piD T δ ((List.range i.toNat).map nD)) :=
  pi_imp (pi_range1 hg hm h hs) fun σ H R ⟨Hs, at_, k⟩ => ⟨Hs, at_, fun v H1s H1 g1 d1 => by
    have e0 := d1.intsV (ns := [i])
    subst e0
    refine ⟨i, rfl, by omega, by omega, ?_⟩
    have q := src_range (Hs := H1s) (lo := 0) (n := i.toNat)
    have e : (fun i : Nat => PyData.int (0 + (i : Nat))) = nD := by
      funext i
      rw [Int.zero_add]
      rfl
    rw [e] at q
    exact k _ H1s H1 g1 q⟩
/-! >= of data -/
def rGeD (K : PySem.W.Frag) : R2 := fun x y H Q => ∃ d e, Dp K H x d ∧ Dp K H y e ∧ PySem.W.alike d e = true ∧ d ≠ .none ∧ d.depth ≤ 60 ∧ Q (.bl (!PySem.W.dataLt d e)) H
theorem op_geD (hu : X.A.units + 64 < cLine) : OpR X (compareOp .GtE) (rGeD X.K) := by
  intro pins s σ H x y v u Q I rx ry h
  obtain ⟨d, e, hd, he, al, dn, dd, q⟩ := h
  obtain ⟨as, r1⟩ := Dp.reads I d x v hd rx
  obtain ⟨bs, r2⟩ := Dp.reads I e y u he ry
  exact PySem.W.ge_data r1 r2 al dn (by omega) ⟨.bl _, H, I, rfl, q⟩
theorem rd_geE {K : PySem.W.Frag} {α : Type} [DecidableEq α] {en : α → PyData} {k : Nat} {lt : α → α → Bool} (E : EOrd en k lt) (hk : k ≤ 60) {x y : α} (hn : en x ≠ .none) : RD (rGeD K) (en x) (en y) (.bool (!lt x y)) := fun Hs H v u Q s a b kk =>
  ⟨_, _, Da_dp (Da_mono s a) (E.sh x).pl, Da_dp (Da_mono s b) (E.sh y).pl, E.al x y, hn, Nat.le_trans (E.sh x).2 hk, by rw [E.lt]; exact kk _ Hs H (.refl s) (.bl _)⟩
/-! slices -/
def cutD {α : Type} (xs : List α) (lo hi : Option Int) : List α := (xs.drop (HT.sIx xs.length 0 lo)).take (HT.sIx xs.length xs.length hi - HT.sIx xs.length 0 lo)
theorem DaAll.cut {Hs : Hp} {vs : List V} (h : DaAll Hs vs ds) (lo hi : Option Int) : DaAll Hs (cutV vs lo hi) (cutD ds lo hi) := by
  unfold cutV cutD
  rw [h.len]
  exact (h.drop _).take _
/-- an int part -/
def tDO (T : Tx) (δ : List Ent) (o : Option Int) : TO := fun σ H Q => ∃ Hs, At T Hs H σ δ ∧ ∀ Hs' H', Grow Hs H Hs' H' → Q o H'
theorem po_imp {o : Option Expr} {t t' : TO} (h : PO X o t) (i : ∀ σ H Q, t' σ H Q → t σ H Q) : PO X o t' := ⟨fun pins s σ H Q I q => h.run pins s σ H Q I (i σ H Q q)⟩
theorem pod_none : PO X none (tDO T δ none) := po_imp po_none fun σ H Q ⟨Hs, at_, k⟩ => k Hs H (.refl at_.sub)
theorem pod_some {i : Int} (h : PE X e (tD T δ (.int i))) : PO X (some e) (tDO T δ (some i)) := po_imp (po_some h) fun σ H Q ⟨Hs, at_, k⟩ => ⟨Hs, at_, fun v H1s H1 g1 d1 => ⟨i, d1.intV, k H1s H1 g1⟩⟩
theorem pd_slL {lo hi : Option Expr} {l u : Option Int} {p2 : Pos} (h : PE X e (tD T δ (.list ds))) (hl : PO X lo (tDO T δ l)) (hh : PO X hi (tDO T δ u)) : PE X (.Subscript e (.Slice lo hi none p2) pos) (tD T δ (.list (cutD ds l u))) :=
  pe_imp (pe_slice sl_list h hl hh) fun σ H Q ⟨Hs, at_, k⟩ => ⟨Hs, at_, fun v H1s H1 g1 d1 => ⟨H1s, at_.mono g1, fun H2s H2 g2 => ⟨H2s, (at_.mono g1).mono g2, fun H3s H3 g3 => by
    obtain ⟨a, vs, rfl, e1, e2⟩ := d1.lstV
    refine ⟨a, vs, rfl, SqL.of (g3.heap.lst (g2.heap.lst (g1.sub.lst e1))), fun r hr => k _ _ _ (((g1.trans g2).trans g3).trans (.new g3.sub hr)) (.lst upd_same (DaAll_mono (.new (g3.sub.back hr)) ?_))⟩
    exact (DaAll_mono (g2.base.trans g3.base) e2).cut l u⟩⟩⟩
theorem pd_slT {lo hi : Option Expr} {l u : Option Int} {p2 : Pos} (h : PE X e (tD T δ (.tuple ds))) (hl : PO X lo (tDO T δ l)) (hh : PO X hi (tDO T δ u)) : PE X (.Subscript e (.Slice lo hi none p2) pos) (tD T δ (.tuple (cutD ds l u))) :=
  pe_imp (pe_slice sl_tupA h hl hh) fun σ H Q ⟨Hs, at_, k⟩ => ⟨Hs, at_, fun v H1s H1 g1 d1 => ⟨H1s, at_.mono g1, fun H2s H2 g2 => ⟨H2s, (at_.mono g1).mono g2, fun H3s H3 g3 => by
    obtain ⟨a, vs, rfl, e1, e2⟩ := d1.tupV
    have e3 := DaAll_mono (g2.base.trans g3.base) e2
    have e4 := (g2.base.trans g3.base).tup e1
    refine ⟨a, vs, rfl, SqT.of (g3.sub.tup e4), fun hw => ?_, fun _ r hr => k _ _ _ (((g1.trans g2).trans g3).trans (.new g3.sub hr)) (.tup upd_same (DaAll_mono (.new (g3.sub.back hr)) (e3.cut l u)))⟩
    have ec : cutD ds l u = ds := by
      unfold cutD
      rw [← e2.len, hw.1, hw.2, List.drop_zero, Nat.sub_zero, e2.len, List.take_length]
    rw [ec] at k
    exact k _ _ _ ((g1.trans g2).trans g3) (.tup e4 e3)⟩⟩⟩
/-! a method of a list that is data -/
theorem rc_count {K : PySem.W.Frag} {ns : List Int} {i : Int} : ∀ (Hs H : Hp) (v u : V) (Q : VK), Ex Hs H → Da Hs v (.list (ns.map .int)) → Da Hs u (.int i) → (∀ w Hs' H', Grow Hs H Hs' H' → Da Hs' w (.int (ns.count i : Nat)) → Q w H') → rCntI K v [u] H Q := fun Hs H v u Q s a b k => by
  cases b.intV
  obtain ⟨p, vs, rfl, e1, e2⟩ := a.lstV
  have e3 := e2.intsV
  subst e3
  exact ⟨p, ns, i, rfl, rfl, SqL.of (s.lst e1), k _ Hs H (.refl s) (.int _)⟩
end
end K28

set_option Elab.async false
set_option linter.all false
set_option maxRecDepth 100000
set_option maxHeartbeats 2000000
namespace K28
open PySem PySem.Spec PyProof.Rows L2

/-! ### lists of the def's own -/
section
variable {T : Tx} {H0s H0 Hs H : Hp} {σ : L2.St} {δ : List Ent} {xs : List PyData} {i : Nat}
/-- what an object of the def's own holds -/
def HoldsE (Hs : Hp) (p : Addr) (o : HO) : Ent → Prop
  | .own xs => ∃ vs, o = .lst vs ∧ DaAll Hs vs xs
  | .dct D => D.φ Hs p o
  | _ => False
theorem HoldsE.mine {Hs : Hp} {p : Addr} {o : HO} {x : Ent} (h : HoldsE Hs p o x) : x.mine := by
  cases x with
  | no => exact h
  | d x => exact h
  | own xs => trivial
  | dct D => trivial
/-- an object just made -/
theorem Bt.lay (b : Bt T H0s H0 Hs H σ δ) {p : Addr} {o : HO} {x : Ent} (hp : H p = none) (hx : HoldsE Hs p o x) : Bt T H0s H0 Hs (upd H p o) (σ.set i (some (V.ref p))) (δ.set i x) := by
  have hps := b.gr.sub.back hp
  have hp0 := b.gr.heap.back hp
  have e1 := b.env.mono (.up b.gr.sub (.new (o := o) hp))
  have old : ∀ (j : Nat) e r, δ[j]? = some e → e.mine → σ[j]? = some (some (V.ref r)) → r ≠ p := fun j e r u1 m u2 => by
    cases e with
    | no => exact m.elim
    | d x => exact m.elim
    | own xs =>
      obtain ⟨r', vs', z1, _, z3, _⟩ := b.env.own j xs u1
      rw [z1] at u2
      cases u2
      exact ne_of_none z3 hp
    | dct D =>
      obtain ⟨r', vs', z1, _, z3, _⟩ := b.env.dct j D u1
      rw [z1] at u2
      cases u2
      exact ne_of_none z3 hp
  refine ⟨⟨b.gr.base, b.gr.heap.newR hp0, b.gr.sub.newR hps, b.gr.own⟩, ⟨?_, fun j x q => ?_, fun j ys q => ?_, fun j k ys zs q1 q2 hne w1 w2 s1 s2 => ?_, fun j D q => ?_⟩, fun j e q w1 m w2 => ?_, b.tabs.mono (.up b.gr.sub (.new hp))⟩
  · rw [List.length_set, List.length_set]; exact e1.len
  · rcases set_get q with ⟨rfl, q2, hi⟩ | ⟨ne, q⟩
    · subst q2
      exact hx.elim
    · rw [List.getElem?_set_ne ne]
      exact e1.dat j x q
  · rcases set_get q with ⟨rfl, q2, hi⟩ | ⟨ne, q⟩
    · subst q2
      obtain ⟨vs, rfl, d⟩ := hx
      exact ⟨p, vs, List.getElem?_set_self (by rw [e1.len]; exact hi), hps, upd_same, d⟩
    · rw [List.getElem?_set_ne ne]
      exact e1.own j ys q
  · rcases set_get w1 with ⟨rfl, q3, hi⟩ | ⟨ne, w1⟩
    · rw [List.getElem?_set_self (by rw [e1.len]; exact hi)] at s1
      cases s1
      rcases set_get w2 with ⟨rfl, _, _⟩ | ⟨ne2, w2⟩
      · exact (hne rfl).elim
      · rw [List.getElem?_set_ne ne2] at s2
        exact Ne.symm (old k _ _ w2 trivial s2)
    · rw [List.getElem?_set_ne ne] at s1
      rcases set_get w2 with ⟨rfl, q3, hi⟩ | ⟨ne2, w2⟩
      · rw [List.getElem?_set_self (by rw [e1.len]; exact hi)] at s2
        cases s2
        exact old j _ _ w1 trivial s1
      · rw [List.getElem?_set_ne ne2] at s2
        exact b.env.dis j k ys zs _ _ hne w1 w2 s1 s2
  · rcases set_get q with ⟨rfl, q2, hi⟩ | ⟨ne, q⟩
    · subst q2
      exact ⟨p, o, List.getElem?_set_self (by rw [e1.len]; exact hi), hps, upd_same, hx⟩
    · rw [List.getElem?_set_ne ne]
      exact e1.dct j D q
  · rcases set_get w1 with ⟨rfl, q3, hi⟩ | ⟨ne, w1⟩
    · rw [List.getElem?_set_self (by rw [e1.len]; exact hi)] at w2
      cases w2
      exact hp0
    · rw [List.getElem?_set_ne ne] at w2
      exact b.own j e _ w1 m w2
theorem Bt.fresh (b : Bt T H0s H0 Hs H σ δ) {p : Addr} {vs : List V} (hp : H p = none) (d : DaAll Hs vs xs) : Bt T H0s H0 Hs (upd H p (.lst vs)) (σ.set i (some (V.ref p))) (δ.set i (.own xs)) := b.lay hp ⟨vs, rfl, d⟩
/-- where it stands -/
theorem Bt.place (b : Bt T H0s H0 Hs H σ δ) {e : Ent} (h : δ[i]? = some e) (m : e.mine) : ∃ p o, σ[i]? = some (some (V.ref p)) ∧ Hs p = none ∧ H p = some o ∧ HoldsE Hs p o e := by
  cases e with
  | no => exact m.elim
  | d x => exact m.elim
  | own xs =>
    obtain ⟨p, vs, h1, h2, h3, h4⟩ := b.env.own i xs h
    exact ⟨p, _, h1, h2, h3, vs, rfl, h4⟩
  | dct D =>
    obtain ⟨p, o, h1, h2, h3, h4⟩ := b.env.dct i D h
    exact ⟨p, o, h1, h2, h3, h4⟩
/-- two of them are the same kind: one dict alone -/
def OneD (δ : List Ent) (i : Nat) : Prop := ∀ (j : Nat) D, δ[j]? = some (.dct D) → j = i
/-- its new content -/
theorem Bt.rewrite (b : Bt T H0s H0 Hs H σ δ) {p : Addr} {e x : Ent} {o : HO} (h : δ[i]? = some e) (hs : σ[i]? = some (some (V.ref p))) (he : (∃ xs ys, e = .own xs ∧ x = .own ys) ∨ ((∃ D D', e = .dct D ∧ x = .dct D') ∧ OneD δ i)) (hx : HoldsE Hs p o x) : Bt T H0s H0 Hs (upd H p o) σ (δ.set i x) := by
  have m : e.mine := by
    rcases he with ⟨_, _, rfl, _⟩ | ⟨⟨_, _, rfl, _⟩, _⟩ <;> trivial
  obtain ⟨p', o', z1, z2, z3, z4⟩ := b.place h m
  rw [z1] at hs
  cases hs
  have hp0 := b.own i e p h m z1
  have hex : ∀ {H1 : Hp}, H1 p = none → Ex H1 H → Ex H1 (upd H p o) := fun {H1} hn e a u q => by
    have ha : a ≠ p := ne_of_none q hn
    rw [upd_ne ha]
    exact e a u q
  -- another one stands elsewhere
  have other : ∀ (j : Nat) e' q, j ≠ i → δ[j]? = some e' → e'.mine → σ[j]? = some (some (V.ref q)) → q ≠ p := fun j e' q hj w1 m' w2 => by
    obtain ⟨q', o'', y1, y2, y3, y4⟩ := b.place w1 m'
    rw [y1] at w2
    cases w2
    rcases he with ⟨xs, ys, rfl, rfl⟩ | ⟨⟨D, D', rfl, rfl⟩, one⟩
    · obtain ⟨vs, rfl, _⟩ := z4
      cases e' with
      | no => exact m'.elim
      | d x => exact m'.elim
      | own zs => exact b.env.dis j i zs xs q p hj w1 h y1 z1
      | dct D =>
        intro e2
        subst e2
        rw [z3] at y3
        cases y3
        exact D.nl y4 rfl
    · cases e' with
      | no => exact m'.elim
      | d x => exact m'.elim
      | own zs =>
        intro e2
        subst e2
        rw [z3] at y3
        cases y3
        obtain ⟨vs, rfl, _⟩ := y4
        exact D.nl z4 rfl
      | dct D2 => exact (hj (one j D2 w1)).elim
  refine ⟨⟨b.gr.base, hex hp0 b.gr.heap, hex z2 b.gr.sub, b.gr.own⟩, ⟨?_, fun j x q => ?_, fun j ws q => ?_, fun j k ws zs q1 q2 hne w1 w2 s1 s2 => ?_, fun j D q => ?_⟩, fun j e' q w1 m' w2 => ?_, ⟨fun P hP => ?_, b.tabs.2⟩⟩
  · rw [List.length_set]; exact b.env.len
  · rcases set_get q with ⟨rfl, q2, hi⟩ | ⟨ne, q⟩
    · subst q2
      exact hx.elim
    · exact b.env.dat j x q
  · rcases set_get q with ⟨rfl, q2, hi⟩ | ⟨ne, q⟩
    · subst q2
      obtain ⟨us, rfl, d⟩ := hx
      exact ⟨p, us, z1, z2, upd_same, d⟩
    · obtain ⟨r, vs', y1, y2, y3, y4⟩ := b.env.own j ws q
      exact ⟨r, vs', y1, y2, by rw [upd_ne (other j _ r (Ne.symm ne) q trivial y1)]; exact y3, y4⟩
  · have go : ∀ (j : Nat) ws, (δ.set i x)[j]? = some (.own ws) → ∃ ws', δ[j]? = some (.own ws') := fun j ws q => by
      rcases set_get q with ⟨rfl, q2, _⟩ | ⟨_, q⟩
      · rcases he with ⟨xs, ys, rfl, rfl⟩ | ⟨⟨D, D', rfl, rfl⟩, one⟩
        · exact ⟨xs, h⟩
        · cases q2
      · exact ⟨ws, q⟩
    obtain ⟨_, v1⟩ := go j ws w1
    obtain ⟨_, v2⟩ := go k zs w2
    exact b.env.dis j k _ _ _ _ hne v1 v2 s1 s2
  · rcases set_get q with ⟨rfl, q2, hi⟩ | ⟨ne, q⟩
    · subst q2
      exact ⟨p, o, z1, z2, upd_same, hx⟩
    · obtain ⟨r, o', y1, y2, y3, y4⟩ := b.env.dct j D q
      exact ⟨r, o', y1, y2, by rw [upd_ne (other j _ r (Ne.symm ne) q trivial y1)]; exact y3, y4⟩
  · rcases set_get w1 with ⟨rfl, _, _⟩ | ⟨_, w1⟩
    · exact b.own _ e _ h m w2
    · exact b.own j e' _ w1 m' w2
  · obtain ⟨ps, y1, y2⟩ := b.tabs.1 P hP
    refine ⟨ps, ?_, y2⟩
    rw [upd_ne (fun z => ?_)]
    · exact y1
    · rw [z, z3] at y1
      cases y1
      rcases he with ⟨xs, ys, rfl, rfl⟩ | ⟨⟨D, D', rfl, rfl⟩, one⟩
      · obtain ⟨vs, q, _⟩ := z4
        cases q
      · exact D.nt z4 rfl
theorem Bt.write (b : Bt T H0s H0 Hs H σ δ) {p : Addr} {ys : List PyData} {us : List V} (h : δ[i]? = some (.own xs)) (hs : σ[i]? = some (some (V.ref p))) (d : DaAll Hs us ys) : Bt T H0s H0 Hs (upd H p (.lst us)) σ (δ.set i (.own ys)) :=
  b.rewrite h hs (.inl ⟨xs, ys, rfl, rfl⟩) ⟨us, rfl, d⟩
/-- from now on data -/
theorem Bt.freeze (b : Bt T H0s H0 Hs H σ δ) (h : δ[i]? = some (.own xs)) : ∃ Hs', Ex Hs Hs' ∧ Bt T H0s H0 Hs' H σ (δ.set i (.d (.list xs))) := by
  obtain ⟨p, vs, z1, z2, z3, z4⟩ := b.env.own i xs h
  have hp0 := b.own i _ p h trivial z1
  have hp0s : H0s p = none := b.gr.base.back z2
  have e1 : Ex Hs (upd Hs p (.lst vs)) := .new z2
  refine ⟨upd Hs p (.lst vs), e1, ⟨b.gr.base.newR hp0s, b.gr.heap, fun a o q => ?_, fun q h1 h2 => ?_⟩, ⟨?_, fun j x q => ?_, fun j ws q => ?_, fun j k ws zs q1 q2 hne w1 w2 s1 s2 => ?_, fun j D q => ?_⟩, fun j ws q w1 m w2 => ?_, ⟨b.tabs.1, T.mono e1 b.tabs.2⟩⟩
  · by_cases ha : a = p
    · subst ha
      rw [upd_same] at q
      cases q
      exact .inl z3
    · rw [upd_ne ha] at q
      exact b.gr.sub a o q
  · rw [upd_ne (fun z => h2 (by rw [z]; exact hp0))]
    exact b.gr.own q h1 h2
  · rw [List.length_set]; exact b.env.len
  · rcases set_get q with ⟨rfl, q2, hi⟩ | ⟨ne, q⟩
    · cases q2
      exact ⟨_, z1, .lst upd_same (DaAll_mono e1 z4)⟩
    · obtain ⟨v, y1, y2⟩ := b.env.dat j x q
      exact ⟨v, y1, Da_mono e1 y2⟩
  · rcases set_get q with ⟨rfl, q2, hi⟩ | ⟨ne, q⟩
    · cases q2
    · obtain ⟨r, vs', y1, y2, y3, y4⟩ := b.env.own j ws q
      exact ⟨r, vs', y1, by rw [upd_ne (b.env.dis j i ws xs r p (Ne.symm ne) q h y1 z1)]; exact y2, y3, DaAll_mono e1 y4⟩
  · rcases set_get w1 with ⟨_, z, _⟩ | ⟨_, w1⟩
    · cases z
    · rcases set_get w2 with ⟨_, z, _⟩ | ⟨_, w2⟩
      · cases z
      · exact b.env.dis j k _ _ _ _ hne w1 w2 s1 s2
  · rcases set_get q with ⟨_, z, _⟩ | ⟨ne, q⟩
    · cases z
    · obtain ⟨r, o', y1, y2, y3, y4⟩ := b.env.dct j D q
      refine ⟨r, o', y1, ?_, y3, D.mono e1 y4⟩
      rw [upd_ne (fun z => ?_)]
      · exact y2
      · rw [z, z3] at y3
        cases y3
        exact D.nl y4 rfl
  · rcases set_get w1 with ⟨_, z, _⟩ | ⟨_, w1⟩
    · subst z
      exact m.elim
    · exact b.own j ws _ w1 m w2
end
section
variable {X : Cx} {T : Tx} {H0s H0 : Hp} {δ : List Ent} {o : Out} {sts : List Stmt} {e a b : Expr} {es : List Expr} {x y : PyData} {xs ds : List PyData} {pos p p2 : Pos}
theorem pds_freeze (i : Nat) (h : δ[i]? = some (.own xs)) (hp : PSs X sts (tS T H0s H0 (δ.set i (.d (.list xs))) o)) : PSs X sts (tS T H0s H0 δ o) := pss_imp hp fun D σ H ⟨Hs, b, k⟩ => by
  obtain ⟨Hs', e, b'⟩ := b.freeze h
  exact ⟨Hs', b', k.up e⟩
/-- name = [..], a list of the def's own -/
theorem pds_new (i : Nat) {s : Str} {ps lp : Pos} (hN : X.N.Nodup) (h : PA X es (tDA T δ ds)) (hl : ds.length ≤ 1000) (hi : X.N[i]? = some s := by rfl) (hx : Loc X.env.scope s := by first | exact Or.inl rfl | exact Or.inr rfl) (hs : swapsWith (.List es lp) (some (.Name s ps)) pos.line X.env = pure false := by rfl)
    (hf : X.fn s = true ∨ X.env.scope.names.lookup s = some .local := by first | exact .inl rfl | exact .inr rfl | assumption) : PS X (.Assign [.Name s ps] (.List es lp) pos) (tS T H0s H0 δ (.nx (δ.set i (.own ds)))) :=
  ps_imp (ps_set hN hi hx (pe_lst h) hs hf) fun D σ H ⟨Hs, b, k⟩ => ⟨Hs, b.at, fun vs Hs' H' g d => ⟨by rw [d.len]; exact Nat.le_of_lt (small1000 hl), fun q hq =>
    k _ Hs' _ g.base ((b.mono g).fresh hq d)⟩⟩
/-- name.append(e), the list the def's own -/
theorem pds_append (i : Nat) {s : Str} {p1 p3 : Pos} {zs : List PyData} (hδ : δ[i]? = some (.own xs)) (h : PE X e (tD T δ x)) (hl : xs.length ≤ 1000) (hz : xs ++ [x] = zs) (hi : X.N[i]? = some s := by rfl) (hv : Vis X.env.scope s := by first | exact Or.inl rfl | exact Or.inr (Or.inl rfl) | exact Or.inr (Or.inr rfl))
    (hd : (s == ("__debug__" : Str)) = false := by decide) (hcd : (s == ("__classdict__" : Str)) = false := by decide)
    (hbase : attributeBase (.Name s p1) "append" X.env (eval (.Name s p1) X.env) = eval (.Name s p1) X.env := by rfl)
    (hfew : ((backTo p2 (starEach [e] X.env)).all (fun x => !x.1) && (backToKw p2 (keywordEach [] X.env)).all (fun x => x.1.isSome)
      && decide (([e] : List Expr).length + ([] : List Keyword).length + (if ([] : List Keyword).isEmpty then 0 else 1) < 30)) = true := by rfl)
    (hline : (p3.endLine == p2.line) = true := by rfl) (hs : starEach [e] X.env = (false, eval e X.env) :: starEach [] X.env := by rfl) (hplain : (backTo p2 (starEach [] X.env)).any (·.1) = false := by rfl)
    (hsw : swapsWith (.Call (.Attribute (.Name s p1) "append" p3) [e] [] p2) none pos.line X.env = pure false := by rfl) :
    PS X (.Expr (.Call (.Attribute (.Name s p1) "append" p3) [e] [] p2) pos) (tS T H0s H0 δ (.nx (δ.set i (.own zs)))) := hz ▸
  ps_imp (ps_expr (pe_bm PySem.F.plainAttrs_list PySem.F.slot_list_append PySem.F.type_list_append mt_append (pe_var hi hv hd hcd) (pda_cons h pda_nil hs) hbase hfew hline hs hplain) hsw) fun D σ H ⟨Hs, b, k⟩ => by
    obtain ⟨q, vs, z1, z2, z3, z4⟩ := b.env.own i xs hδ
    refine ⟨_, z1, .inl ⟨rfl, vs, SqL.of z3⟩, Hs, b.at, fun us Hs' H' g d => ?_⟩
    cases d with
    | cons d t =>
      cases t
      refine ⟨q, vs, _, rfl, rfl, g.heap.lst z3, Nat.lt_of_le_of_lt (by rw [z4.len]; exact hl) (by decide : 1000 < sizeLine), ?_⟩
      exact k _ Hs' _ g.base ((b.mono g).write hδ z1 ((DaAll_mono g.base z4).app (.one d)))
/-- an item of a list of the def's own -/
theorem pd_ixO (i : Nat) {s : Str} {p1 : Pos} {j : Int} (hδ : δ[i]? = some (.own xs)) (hj : atI xs j = some x) (hb : PE X b (tD T δ (.int j))) (hi : X.N[i]? = some s := by rfl) (hv : Vis X.env.scope s := by first | exact Or.inl rfl | exact Or.inr (Or.inl rfl) | exact Or.inr (Or.inr rfl))
    (hd : (s == ("__debug__" : Str)) = false := by decide) (hcd : (s == ("__classdict__" : Str)) = false := by decide) (hs : PlainIx b := by intro _ _; rfl) : PE X (.Subscript (.Name s p1) b pos) (tD T δ x) :=
  pe_imp (pe_ix ix_list (pe_var hi hv hd hcd) hb hs) fun σ H Q ⟨Hs, at_, k⟩ => by
    obtain ⟨q, vs, z1, z2, z3, z4⟩ := at_.env.own i xs hδ
    refine ⟨_, z1, Hs, at_, fun u Hs' H' g d => ?_⟩
    cases d.intV
    have e3 := DaAll_mono g.base z4
    unfold atI at hj
    cases hx : ixN xs.length j with
    | none => rw [hx] at hj; cases hj
    | some n =>
      rw [hx] at hj
      obtain ⟨w, e1, e2⟩ := e3.get (i := n) hj
      refine ⟨q, vs, j, w, rfl, rfl, SqL.of (g.heap.lst z3), ?_, k _ Hs' H' g e2⟩
      unfold atI
      rw [z4.len, hx]
      exact e1
/-- a, b = x, y with plain local names -/
theorem pds_par (i j : Nat) {s t : Str} {px py pt pt2 : Pos} {kt k2 : Nat} (hc : X.calm = true) (hN : X.N.Nodup) (ha : PE X a (tD T δ x)) (hb : PE X b (tD T δ y)) (hij : i ≠ j := by decide) (hi : X.N[i]? = some s := by rfl) (hj : X.N[j]? = some t := by rfl)
    (hx : X.env.scope.names.lookup s = some .local := by rfl) (hy : X.env.scope.names.lookup t = some .local := by rfl) (he : starEach [a, b] X.env = (false, eval a X.env) :: starEach [b] X.env := by rfl) (he2 : starEach [b] X.env = (false, eval b X.env) :: starEach [] X.env := by rfl)
    (hw : swappedStores [.Tuple [.Name s px, .Name t py] kt pt] (.Tuple [a, b] k2 pt2) X.env = pure (some [s, t]) := by rfl)
    (hs : swapsWithSole [.Tuple [.Name s px, .Name t py] kt pt] (.Tuple [a, b] k2 pt2) pos.line X.env = pure false := by rfl) :
    PS X (.Assign [.Tuple [.Name s px, .Name t py] kt pt] (.Tuple [a, b] k2 pt2) pos) (tS T H0s H0 δ (.nx ((δ.set i (.d x)).set j (.d y)))) :=
  ps_imp (ps_par hc hN hi hj hij hx hy (pda_cons ha (pda_cons hb pda_nil he2) he) hw hs) fun D σ H ⟨Hs, b, k⟩ => ⟨Hs, b.at, fun vs Hs' H' g d => by
    cases d with
    | cons d1 t =>
      cases t with
      | cons d2 t2 =>
        cases t2
        exact ⟨_, _, rfl, k _ Hs' H' g.base (((b.mono g).set d1).set d2)⟩⟩
/-- a, b = x, [] : b a list of the def's own -/
theorem pds_parR (i j : Nat) {s t : Str} {px py pt pt2 lp : Pos} {kt k2 : Nat} (hc : X.calm = true) (hN : X.N.Nodup) (ha : PE X a (tD T δ x)) (hij : i ≠ j := by decide) (hi : X.N[i]? = some s := by rfl) (hj : X.N[j]? = some t := by rfl)
    (hx : X.env.scope.names.lookup s = some .local := by rfl) (hy : X.env.scope.names.lookup t = some .local := by rfl) (he : starEach [a, .List [] lp] X.env = (false, eval a X.env) :: starEach [.List [] lp] X.env := by rfl) (he2 : starEach [.List [] lp] X.env = (false, eval (.List [] lp) X.env) :: starEach [] X.env := by rfl)
    (hw : swappedStores [.Tuple [.Name s px, .Name t py] kt pt] (.Tuple [a, .List [] lp] k2 pt2) X.env = pure (some [s, t]) := by rfl)
    (hs : swapsWithSole [.Tuple [.Name s px, .Name t py] kt pt] (.Tuple [a, .List [] lp] k2 pt2) pos.line X.env = pure false := by rfl) :
    PS X (.Assign [.Tuple [.Name s px, .Name t py] kt pt] (.Tuple [a, .List [] lp] k2 pt2) pos) (tS T H0s H0 δ (.nx ((δ.set i (.d x)).set j (.own [])))) :=
  ps_imp (ps_par hc hN hi hj hij hx hy (pa_cons ha (pa_cons (pe_lst pa_nil) pa_nil he2) he) hw hs) fun D σ H ⟨Hs, b, k⟩ => ⟨Hs, b.at, fun v Hs' H' g d => ⟨Nat.zero_le _, fun q hq =>
    ⟨_, _, rfl, k _ Hs' _ g.base (((b.mono g).set d).fresh hq .nil)⟩⟩⟩
/-- a, b = [], y : a a list of the def's own -/
theorem pds_parL (i j : Nat) {s t : Str} {px py pt pt2 lp : Pos} {kt k2 : Nat} (hc : X.calm = true) (hN : X.N.Nodup) (hl : ds.length ≤ 1000) (hb : PA X es (tDA T δ ds)) (hij : i ≠ j := by decide) (hi : X.N[i]? = some s := by rfl) (hj : X.N[j]? = some t := by rfl)
    (hx : X.env.scope.names.lookup s = some .local := by rfl) (hy : X.env.scope.names.lookup t = some .local := by rfl) (he : starEach [.List [] lp, .List es p2] X.env = (false, eval (.List [] lp) X.env) :: starEach [.List es p2] X.env := by rfl) (he2 : starEach [.List es p2] X.env = (false, eval (.List es p2) X.env) :: starEach [] X.env := by rfl)
    (hw : swappedStores [.Tuple [.Name s px, .Name t py] kt pt] (.Tuple [.List [] lp, .List es p2] k2 pt2) X.env = pure (some [s, t]) := by rfl)
    (hs : swapsWithSole [.Tuple [.Name s px, .Name t py] kt pt] (.Tuple [.List [] lp, .List es p2] k2 pt2) pos.line X.env = pure false := by rfl) :
    PS X (.Assign [.Tuple [.Name s px, .Name t py] kt pt] (.Tuple [.List [] lp, .List es p2] k2 pt2) pos) (tS T H0s H0 δ (.nx ((δ.set j (.d (.list ds))).set i (.own [])))) :=
  ps_imp (ps_par hc hN hi hj hij hx hy (pa_cons (pe_lst pa_nil) (pa_cons (pd_lst hb hl) pa_nil he2) he) hw hs) fun D σ H ⟨Hs, b, k⟩ => ⟨Nat.zero_le _, fun q hq => by
    have b1 : At T Hs (upd H q (.lst [])) σ δ := b.at.mono (.up b.gr.sub (.new hq))
    refine ⟨Hs, b1, fun v Hs' H' g d => ⟨_, _, rfl, ?_⟩⟩
    have b2 := (b.fresh (i := i) (xs := []) hq .nil).mono g
    have b3 := b2.set (i := j) d
    rw [List.set_comm _ _ hij, List.set_comm _ _ hij] at b3
    rw [List.set_comm _ _ hij]
    exact k _ Hs' H' g.base b3⟩
end
end K28

set_option Elab.async false
set_option linter.all false
set_option maxRecDepth 100000
set_option maxHeartbeats 4000000
namespace K28
open PySem PySem.Spec PyProof.Rows L2

/-- the numbers of the top -/
structure Cn (mg : Str → Option Value) : Prop where
  people : ∃ t, mg "MOST_PEOPLE" = some (.int 7 t)
  row : ∃ t, mg "MOST_ROW" = some (.int 30 t)
  listed : ∃ t, mg "MOST_LISTED" = some (.int 5 t)
  gath : ∃ t, mg "MOST_GATHERINGS" = some (.int 20 t)
  least : ∃ t, mg "MOST_LEAST" = some (.int 4 t)
theorem ix_nat {α : Type} {e : α → PyData} {xs : List α} {k : Nat} {x : α} (h : xs[k]? = some x) : atI (xs.map e) (k : Nat) = some (e x) := by
  have hl : k < xs.length := (List.getElem?_eq_some_iff.mp h).1
  unfold atI ixN
  rw [List.length_map, if_pos (Int.natCast_nonneg k), if_pos (by omega)]
  show (xs.map e)[((k : Nat) : Int).toNat]? = _
  rw [Int.toNat_natCast, List.getElem?_map, h]
  rfl
theorem ix_nat' {α : Type} {e : α → PyData} {xs : List α} {i : Int} {k : Nat} {x : α} (hi : i = (k : Nat)) (h : xs[k]? = some x) : atI (xs.map e) i = some (e x) := by rw [hi]; exact ix_nat h
section
variable {X : Cx} {T : Tx} {δ : List Ent} {e : Expr} {pos p p2 : Pos} {j : Nat} {α : Type}
theorem pd_web0 {W : Web} (h : PE X e (tD T δ (webD W))) : PE X (.Subscript e (.Constant (.int 0) j p) pos) (tD T δ (nD W.n)) := pd_ix ix_tup (rd_ixT (xs := [nD W.n, .tuple (W.ps.map prD)]) (i := 0) rfl) h pd_int
theorem pd_web1 {W : Web} (h : PE X e (tD T δ (webD W))) : PE X (.Subscript e (.Constant (.int 1) j p) pos) (tD T δ (.tuple (W.ps.map prD))) := pd_ix ix_tup (rd_ixT (xs := [nD W.n, .tuple (W.ps.map prD)]) (i := 1) rfl) h pd_int
theorem pd_fst {a b : PyData} (h : PE X e (tD T δ (.tuple [a, b]))) : PE X (.Subscript e (.Constant (.int 0) j p) pos) (tD T δ a) := pd_ix ix_tup (rd_ixT (xs := [a, b]) (i := 0) rfl) h pd_int
theorem pd_snd {a b : PyData} (h : PE X e (tD T δ (.tuple [a, b]))) : PE X (.Subscript e (.Constant (.int 1) j p) pos) (tD T δ b) := pd_ix ix_tup (rd_ixT (xs := [a, b]) (i := 1) rfl) h pd_int
theorem pd_lenT {en : α → PyData} {xs : List α} (hm : X.mg "len" = none) (h : PE X e (tD T δ (.tuple (xs.map en)))) (hg : Gl X "len" := by rfl) (he : starEach [e] X.env = (false, eval e X.env) :: starEach [] X.env := by rfl) : PE X (.Call (.Name "len" p2) [e] [] pos) (tD T δ (nD xs.length)) :=
  pd_is (pd_callB call_len_seq rc_lenT hm boot_len (pda_cons h pda_nil he) hg (he := he)) (by rw [List.length_map]; rfl)
theorem pd_lenL {en : α → PyData} {xs : List α} (hm : X.mg "len" = none) (h : PE X e (tD T δ (.list (xs.map en)))) (hg : Gl X "len" := by rfl) (he : starEach [e] X.env = (false, eval e X.env) :: starEach [] X.env := by rfl) : PE X (.Call (.Name "len" p2) [e] [] pos) (tD T δ (nD xs.length)) :=
  pd_is (pd_callB call_len_seq rc_lenL hm boot_len (pda_cons h pda_nil he) hg (he := he)) (by rw [List.length_map]; rfl)
theorem pd_neg {i : Int} (h : PE X e (tD T δ (.int i))) : PE X (.UnaryOp .USub e pos) (tD T δ (.int (-i))) :=
  pe_imp (pe_un un_neg h) fun σ H Q ⟨Hs, at_, k⟩ => ⟨Hs, at_, fun v H1s H1 g1 d1 => ⟨i, d1.intV, k _ H1s H1 g1 (.int _)⟩⟩
theorem pid_rangeZ {tg a : Expr} {i : Int} {n : Nat} (h : PA X [a] (tDA T δ [.int i])) (e : i.toNat = n) (h0 : -1000000 ≤ i) (hn : i ≤ 1000000) (hm : X.mg "range" = none) (hg : Gl X "range" := by rfl) (hs : starEach [a] X.env = [(false, eval a X.env)] := by rfl) :
    PI X tg (.Call (.Name "range" p) [a] [] pos) (piD T δ ((List.range n).map nD)) := e ▸ pid_rangeI h h0 hn hm hg hs
theorem pd_tuple {ds : List PyData} (hm : X.mg "tuple" = none) (h : PE X e (tD T δ (.list ds))) (hg : Gl X "tuple" := by rfl) (he : starEach [e] X.env = (false, eval e X.env) :: starEach [] X.env := by rfl) : PE X (.Call (.Name "tuple" p2) [e] [] pos) (tD T δ (.tuple ds)) :=
  pd_callTy call_tuple_of rc_tupL hm boot_tuple (pda_cons h pda_nil he) hg (he := he)
end
def ltPr : Nat × Nat → Nat × Nat → Bool := ltP ltN ltN
theorem EOrd.pr : EOrd prD 1 ltPr := EOrd.nat.pair EOrd.nat
def webOk (W : Web) : Bool := decide (1 ≤ W.n) && decide (W.n ≤ 7) && W.ps.all (fun p => decide (p.1 < p.2) && decide (p.2 < W.n)) && decide (W.ps.length ≤ 100) && (List.range (W.ps.length - 1)).all fun k => ltPr (W.ps.getD k (0, 0)) (W.ps.getD (k + 1) (0, 0))
theorem webOk_of {W : Web} (h : webOk W = true) : (1 ≤ W.n ∧ W.n ≤ 7) ∧ (∀ p ∈ W.ps, p.1 < p.2 ∧ p.2 < W.n) ∧ W.ps.length ≤ 100 ∧ ∀ k, k < W.ps.length - 1 → ltPr (W.ps.getD k (0, 0)) (W.ps.getD (k + 1) (0, 0)) = true := by
  unfold webOk at h
  simp only [Bool.and_eq_true, List.all_eq_true, decide_eq_true_eq, List.mem_range] at h
  exact ⟨h.1.1.1, h.1.1.2, h.1.2, h.2⟩
section
variable {P : Program} {w : World} {K : PySem.W.Frag} {mg : Str → Option Value} {base : Heap} {T : Tx}
/-! ### need_web -/
def rNeed_web : List PyData → PyData → Prop := fun ds r => ∃ W, webOk W = true ∧ ds = [webD W] ∧ r = .none
abbrev s_nweb : Stmt := top 10
theorem sc_nweb : FnScope ["web", "pair", "k"] ["web"] (defScope s_nweb) := ⟨rfl, rfl, rfl, by decide +kernel, rfl, by decide +kernel, by decide +kernel⟩
theorem h_nweb {f c Pt : Addr} {fd : FuncData} (F : FunC K "need_web" "need_web" s_nweb f fd c) (TB : GxR.TabB base mg c Pt) (hP : Pt ∈ T.tabs) (hm : mg "need_web" = some (.ref f)) (B : Bi mg) (C : Cn mg) (hI : Has P w K mg base T "is_in" 1 rIs_in) : Has P w K mg base T "need_web" 3 rNeed_web := by
  refine fn_dataC F sc_nweb hm (F.fn.binds fun _ _ _ _ _ _ us hl => match us, hl with | [_], _ => rfl) (fun ds r h => ?_) fun A outer s H E H0s H0 ds r hr hR => ?_
  · obtain ⟨W, _, rfl, _⟩ := h
    rfl
  · obtain ⟨W, hW, rfl, rfl⟩ := hR
    obtain ⟨⟨h1, h7⟩, hps, hlen, hinc⟩ := webOk_of hW
    obtain ⟨tp, hpeople⟩ := C.people
    have hr1 := hr.mono (show 1 ≤ 2 by decide)
    refine ⟨.nx [.d (webD W), .no, .no], .inr ⟨_, rfl, rfl⟩, ?_⟩
    have w0 : ∀ {X : Cx} {δ : List Ent}, True := trivial
    refine pds_cons (δ1 := [.d (webD W), .no, .no]) (pds_ifF (pdt_is (PW.pt (pdw_or (pdt_not (pdt_val (pd_isi (pd_var 0 rfl) kit_tup_tup boot_tuple B.isinstance B.tuple))) fun _ => pdw_or (pdt_cmp op_ne rd_neI (pd_callB call_len_seq (rc_lenT (xs := [nD W.n, .tuple (W.ps.map prD)])) B.len boot_len (pda_cons (pd_var 0 rfl) pda_nil)) pd_int (by rfl)) fun _ => pdw_one (pdt_not (pdt_val (pd_call hI hr1 ⟨_, 1, 7, rfl, rfl⟩ (pda_cons (pd_web0 (pd_var 0 rfl)) (pda_cons pd_int (pda_cons (pd_glob (by rfl) hpeople) pda_nil)))))))) ?_) pds_nil) ?_
    · have a1 : decide ((1 : Int) ≤ (W.n : Nat)) = true := decide_eq_true (by omega)
      have a2 : decide (((W.n : Nat) : Int) ≤ 7) = true := decide_eq_true (by omega)
      rw [a1, a2]
      rfl
    refine pds_cons (δ1 := [.d (webD W), .no, .no]) (pds_ifF (pdt_is (pdt_not (pdt_val (pd_isi (pd_web1 (pd_var 0 rfl)) kit_tup_tup boot_tuple B.isinstance B.tuple))) rfl) pds_nil) ?_
    refine pds_cons (δ1 := [.d (webD W), .no, .no]) ?_ ?_
    · refine pds_for (ks := [1]) (g := gName 1) W.ps prD (fun _ => [.d (webD W), .no, .no]) (fun _ p => [.d (webD W), .d (prD p), .no]) rfl PassesOwn.never rfl (pid_tup (pd_web1 (pd_var 0 rfl)))
        (pg_name (i := 1) sc_nweb.nd rfl (Or.inl rfl)) (fun k y hy => tg_name (by decide)) (fun k y => by simpa using mineSub_get (i := 0) (b := [.d (webD W), .no, .no]) (a := [.d (webD W), .d (prD y), .no]) (ks := [1]) trivial) (fun k y hy => ?_)
      · obtain ⟨hy1, hy2⟩ := hps y (List.mem_of_getElem? hy)
        refine pds_less (δ1 := [.d (webD W), .d (prD y), .no]) (.refl _) (pds_cons (δ1 := [.d (webD W), .d (prD y), .no]) (pds_ifF (pdt_is (PW.pt (pdw_or (pdt_not (pdt_val (pd_isi (pd_var 1 rfl) kit_tup_tup boot_tuple B.isinstance B.tuple))) fun _ => pdw_or (pdt_cmp op_ne rd_neI (pd_callB call_len_seq (rc_lenT (xs := [nD y.1, nD y.2])) B.len boot_len (pda_cons (pd_var 1 rfl) pda_nil)) pd_int (by rfl)) fun _ => pdw_one (pdt_not (pdt_val (pd_call hI hr1 ⟨_, 0, (W.n : Nat) - 1, rfl, rfl⟩ (pda_cons (pd_ix ix_tup (rd_ixT (xs := [nD y.1, nD y.2]) (i := 0) rfl) (pd_var 1 rfl) pd_int) (pda_cons pd_int (pda_cons (pd_op op_sub rd_II (pd_web0 (pd_var 0 rfl)) pd_int) pda_nil)))))))) ?_) pds_nil) ?_)
        · have a1 : decide ((0 : Int) ≤ (y.1 : Nat)) = true := decide_eq_true (by omega)
          have a2 : decide (((y.1 : Nat) : Int) ≤ (W.n : Nat) - 1) = true := decide_eq_true (by omega)
          rw [a1, a2]
          rfl
        refine pds_weak (δ1 := [.d (webD W), .d (prD y), .no]) (less_of ⟨rfl, trivial⟩) (pds_one (pds_ifF (pdt_is (pdt_not (pdt_val (pd_call hI hr1 ⟨_, (y.1 : Nat) + 1, (W.n : Nat) - 1, rfl, rfl⟩ (pda_cons (pd_ix ix_tup (rd_ixT (xs := [nD y.1, nD y.2]) (i := 1) rfl) (pd_var 1 rfl) pd_int) (pda_cons (pd_op op_add rd_II (pd_ix ix_tup (rd_ixT (xs := [nD y.1, nD y.2]) (i := 0) rfl) (pd_var 1 rfl) pd_int) pd_int) (pda_cons (pd_op op_sub rd_II (pd_web0 (pd_var 0 rfl)) pd_int) pda_nil)))))) ?_) pds_nil))
        have a1 : decide (((y.1 : Nat) : Int) + 1 ≤ (y.2 : Nat)) = true := decide_eq_true (by omega)
        have a2 : decide (((y.2 : Nat) : Int) ≤ (W.n : Nat) - 1) = true := decide_eq_true (by omega)
        rw [a1, a2]
        rfl
    · refine pds_one (pds_ifF (pdt_is (pdt_val (pd_any (k := 1) (own := [("k", 2)]) (g := gName 2) (List.range (W.ps.length - 1)) nD (fun k => [.d (webD W), .no, .d (nD k)]) (fun k => !ltPr (W.ps.getD k (0, 0)) (W.ps.getD (k + 1) (0, 0))) hr sc_nweb.nd B.any TB hP rfl ?_
        (blkOk_by (N := ["web", "pair", "k"]) (sc := defScope s_nweb) (by decide +kernel)) (by decide +kernel) rfl rfl (fun _ _ _ _ _ _ _ _ => pg_name (i := 2) sc_nweb.nd rfl (Or.inl rfl)) (fun y _ => tg_name (by decide)) (fun A s H cl C code fp pn hrG y hy => ?_))) ?_) pds_nil)
      · exact pid_rangeZ (pda_cons (pd_op op_sub rd_II (pd_lenT B.len (pd_web1 (pd_var 0 rfl))) pd_int) pda_nil) (by omega) (by omega) (by omega) B.range
      · have hy := List.mem_range.mp hy
        have g1 : W.ps[y]? = some (W.ps.getD y (0, 0)) := by rw [List.getD_eq_getElem?_getD, List.getElem?_eq_getElem (by omega)]; rfl
        have g2 : W.ps[y + 1]? = some (W.ps.getD (y + 1) (0, 0)) := by rw [List.getD_eq_getElem?_getD, List.getElem?_eq_getElem (by omega)]; rfl
        exact pd_cmp (op_geD (hu64 hrG)) (rd_geE EOrd.pr (by decide) (by unfold prD; simp)) (pd_ix ix_tup (rd_ixT (ix_nat g1)) (pd_web1 (pd_var 0 rfl)) (pd_var 2 rfl))
          (pd_ix ix_tup (rd_ixT (ix_nat' (by omega) g2)) (pd_web1 (pd_var 0 rfl)) (pd_op op_add rd_II (pd_var 2 rfl) pd_int)) (by rfl)
      · rw [Bool.eq_false_iff]
        intro z
        obtain ⟨k, hk, e⟩ := List.any_eq_true.mp z
        rw [hinc k (List.mem_range.mp hk)] at e
        cases e
end
end K28

set_option Elab.async false
set_option linter.all false
set_option maxRecDepth 100000
set_option maxHeartbeats 4000000
namespace K28
open PySem PySem.Spec PyProof.Rows L2

section
variable {X : Cx} {T : Tx} {H0s H0 : Hp} {δ : List Ent} {elt tg iter : Expr} {ifs : List Expr} {scope : Scope} {own : List (Str × Nat)} {pos spos : Pos} {g : TG} {ι : Type}
/-- name = [elt for ..], the name a local -/
theorem pds_lc (i : Nat) {y : Str} {py : Pos} (ys : List ι) (enc : ι → PyData) (δx : ι → List Ent) (p : ι → Bool) (f : ι → PyData) (hc : X.calm = true) (hN : X.N.Nodup) (hi : PI X tg iter (piD T δ (ys.map enc))) (hl : ys.length ≤ 1000000) (ok : BlkOk X.N X.env.scope scope own)
    (hg : ∀ (s : Shared) (H : Hp) (C : Addr) (cl : List (Str × Addr)) (fp : List Addr), PG (X.blk s H scope (compEnvC scope cl C X.env) fp) tg g)
    (htg : ∀ y ∈ ys, TgD g (enc y) (wipeD δ (own.map (·.2))) (δx y) (own.map (·.2)))
    (ht : ∀ (s : Shared) (H : Hp) (C : Addr) (cl : List (Str × Addr)) (fp : List Addr), ∀ y ∈ ys, PTs (X.blk s H scope (compEnvC scope cl C X.env) fp) ifs (tDT T (δx y) (p y)))
    (he : ∀ (s : Shared) (H : Hp) (C : Addr) (cl : List (Str × Addr)) (fp : List Addr), ∀ y ∈ ys, p y = true → PE (X.blk s H scope (compEnvC scope cl C X.env) fp) elt (tD T (δx y) (f y)))
    (hy : X.N[i]? = some y := by rfl) (hyl : X.env.scope.names.lookup y = some .local := by rfl) (hsw : swapsWith (.ListComp elt [⟨tg, iter, ifs, 0⟩] scope pos) (some (.Name y py)) spos.line X.env = pure true := by rfl)
    (hs : ∀ x, foldedSetIterable iter X.env x = pure x := by intro _; rfl) :
    PS X (.Assign [.Name y py] (.ListComp elt [⟨tg, iter, ifs, 0⟩] scope pos) spos) (tS T H0s H0 δ (.nx (δ.set i (.d (.list ((ys.filter p).map f)))))) := by
  refine ps_imp (ps_setLc (g := g) (own := own) (tt := fun σ H Q => ∃ y, y ∈ ys ∧ tDT T (δx y) (p y) σ H Q) (te := fun σ H Q => ∃ y, (y ∈ ys ∧ p y = true) ∧ tD T (δx y) (f y) σ H Q) hc hN hy hyl hsw hi ok hg ?_ ?_ hs) fun D σ H ⟨Hs, b, k⟩ =>
    lc_read hl htg ⟨Hs, b.at, fun v Hs' H' g d => k _ Hs' H' g.base ((b.mono g).set d)⟩
  · intro s H C cl fp
    exact ⟨fun pins s σ H Q I ⟨y, hy, q⟩ => (ht _ _ _ _ _ y hy).run pins s σ H Q I q⟩
  · intro s H C cl fp
    exact ⟨fun pins s σ H Q I ⟨y, hy, q⟩ => (he _ _ _ _ _ y hy.1 hy.2).run pins s σ H Q I q⟩
end
/-- no name is a list of the def's own -/
def ownFree : List Ent → Prop
  | [] => True
  | .own _ :: _ => False
  | .dct _ :: _ => False
  | .no :: r => ownFree r
  | .d _ :: r => ownFree r
theorem ownFree_get : ∀ {δ : List Ent} {i : Nat} {e : Ent}, ownFree δ → δ[i]? = some e → ¬ e.mine
  | [], _, _, _, h => by simp at h
  | .own _ :: _, _, _, f, _ => f.elim
  | .dct _ :: _, _, _, f, _ => f.elim
  | .no :: r, 0, e, _, h => by
    have h : Ent.no = e := by simpa using h
    subst h
    exact fun z => z
  | .no :: r, i + 1, _, f, h => ownFree_get (δ := r) (i := i) f (by simpa using h)
  | .d x :: r, 0, e, _, h => by
    have h : Ent.d x = e := by simpa using h
    subst h
    exact fun z => z
  | .d _ :: r, i + 1, _, f, h => ownFree_get (δ := r) (i := i) f (by simpa using h)
section
variable {X : Cx} {T : Tx} {H0s H0 : Hp} {δ δe : List Ent} {tg iter : Expr} {pos : Pos}
/-- a loop, all names data -/
theorem pds_forD {body : List Stmt} {ι : Type} {g : TG} {ks : List Nat} (ys : List ι) (enc : ι → PyData) (δs : Nat → List Ent) (δt : Nat → ι → List Ent) (h0 : δs 0 = δ) (he : δs ys.length = δe) (hp : PassesOwn (model X.prog X.w) X.A X.env X.xe) (hc : X.calm = true) (hi : PI X tg iter (piD T δ (ys.map enc))) (hg : PG X tg g)
    (ht : ∀ k y, ownFree (δt k y)) (htg : ∀ k y, ys[k]? = some y → TgD g (enc y) (δs k) (δt k y) ks) (hb : ∀ k y, ys[k]? = some y → PSs X body (tS T H0s H0 (δt k y) (.nx (δs (k + 1)))))
    (hf : ∀ x, foldedSetIterable iter X.env x = pure x := by intro _; rfl) : PS X (.For tg iter body [] pos) (tS T H0s H0 δ (.nx δe)) := by
  rw [← he]
  exact pds_for ys enc δs δt h0 hp hc hi hg htg (fun k y i e h m => (ownFree_get (ht k y) h m).elim) hb hf
/-- .. over range(n) -/
theorem pds_forN {body : List Stmt} {g : TG} {ks : List Nat} (n : Nat) (δs δt : Nat → List Ent) (h0 : δs 0 = δ) (he : δs n = δe) (hp : PassesOwn (model X.prog X.w) X.A X.env X.xe) (hc : X.calm = true) (hi : PI X tg iter (piD T δ ((List.range n).map nD))) (hg : PG X tg g)
    (ht : ∀ k, ownFree (δt k)) (htg : ∀ k, TgD g (nD k) (δs k) (δt k) ks) (hb : ∀ k, k < n → PSs X body (tS T H0s H0 (δt k) (.nx (δs (k + 1)))))
    (hf : ∀ x, foldedSetIterable iter X.env x = pure x := by intro _; rfl) : PS X (.For tg iter body [] pos) (tS T H0s H0 δ (.nx δe)) := by
  have key : ∀ k y, (List.range n)[k]? = some y → k < n ∧ y = k := fun k y hy => by
    have hk : k < n := by simpa using (List.getElem?_eq_some_iff.mp hy).1
    rw [List.getElem?_range hk] at hy
    exact ⟨hk, (Option.some.inj hy).symm⟩
  refine pds_forD (ks := ks) (List.range n) nD δs (fun k _ => δt k) h0 (by rw [List.length_range]; exact he) hp hc hi hg (fun k _ => ht k) (fun k y hy => ?_) (fun k y hy => hb k (key k y hy).1) hf
  obtain ⟨_, rfl⟩ := key k y hy
  exact htg y
end
theorem ix_last {α : Type} {e : α → PyData} {xs : List α} {x : α} (h : xs.getLast? = some x) : atI (xs.map e) (-1) = some (e x) := by
  have hn : xs ≠ [] := by intro z; rw [z] at h; cases h
  have hl : 0 < xs.length := List.length_pos_iff.mpr hn
  unfold atI ixN
  rw [List.length_map, if_neg (by omega), if_pos (by omega)]
  have e1 : ((-1 : Int) + (xs.length : Nat)).toNat = xs.length - 1 := by omega
  rw [List.getLast?_eq_getElem?] at h
  first
    | (show (xs.map e)[((-1 : Int) + (xs.length : Nat)).toNat]? = _
       rw [e1, List.getElem?_map, h]; rfl)
    | (show (xs.map e)[((xs.length : Nat) + (-1 : Int)).toNat]? = _
       rw [show ((xs.length : Nat) + (-1 : Int)).toNat = xs.length - 1 by omega, List.getElem?_map, h]; rfl)
def incr (l : List Nat) : Bool := (List.range (l.length - 1)).all fun k => decide (l.getD k 0 < l.getD (k + 1) 0)
def isLot (W : Web) (l : List Nat) : Bool := l.all (fun o => decide (o < W.n)) && incr l
section
variable {P : Program} {w : World} {K : PySem.W.Frag} {mg : Str → Option Value} {base : Heap} {T : Tx}
/-! ### is_lot -/
def rIs_lot : List PyData → PyData → Prop := fun ds r => ∃ W l, 1 ≤ W.n ∧ l.length ≤ 1000 ∧ ds = [webD W, lotD l] ∧ r = .bool (isLot W l)
abbrev s_islot : Stmt := top 13
theorem sc_islot : FnScope ["web", "value", "one", "k"] ["web", "value"] (defScope s_islot) := ⟨rfl, rfl, rfl, by decide +kernel, rfl, by decide +kernel, by decide +kernel⟩
theorem h_islot {f c Pt : Addr} {fd : FuncData} (F : FunC K "is_lot" "is_lot" s_islot f fd c) (TB : GxR.TabB base mg c Pt) (hP : Pt ∈ T.tabs) (hm : mg "is_lot" = some (.ref f)) (B : Bi mg) (hI : Has P w K mg base T "is_in" 1 rIs_in) : Has P w K mg base T "is_lot" 3 rIs_lot := by
  refine fn_dataC F sc_islot hm (F.fn.binds fun _ _ _ _ _ _ us hl => match us, hl with | [_, _], _ => rfl) (fun ds r h => ?_) fun A outer s H E H0s H0 ds r hr hR => ?_
  · obtain ⟨W, l, _, _, rfl, _⟩ := h
    rfl
  · obtain ⟨W, l, hn, hl, rfl, rfl⟩ := hR
    have hr1 := hr.mono (show 1 ≤ 2 by decide)
    have ht : PT (BX P w K mg base ["web", "value", "one", "k"] "is_lot" s_islot f (.ref c) A outer s H E) (match defBody s_islot with | .If t _ _ _ :: _ => t | _ => .Constant .none 0 ⟨0, 0, 0, 0⟩) (tDT T [.d (webD W), .d (lotD l), .no, .no] (!(l.all fun o => decide (o < W.n)))) := by
      refine pdt_is (PW.pt (pdw_or (pdt_not (pdt_val (pd_isi (pd_var 1 rfl) kit_tup_tup boot_tuple B.isinstance B.tuple))) fun _ => pdw_one (pdt_not (pdt_val
        (pd_all (k := 1) (own := [("one", 2)]) (g := gName 2) l nD (fun o => [.d (webD W), .d (lotD l), .d (nD o), .no]) (fun o => decide (o < W.n)) hr sc_islot.nd B.all TB hP rfl (pid_tup (pd_var 1 rfl)) (blkOk_by (N := ["web", "value", "one", "k"]) (sc := defScope s_islot) (by decide +kernel)) (by decide +kernel) rfl rfl (fun _ _ _ _ _ _ _ _ => pg_name (i := 2) sc_islot.nd rfl (Or.inl rfl)) (fun y _ => tg_name (by decide))
          (fun A s H cl C code fp pn hrG y hy => pd_is (pd_call hI hrG ⟨(y : Nat), 0, (W.n : Nat) - 1, rfl, rfl⟩ (pda_cons (pd_var 2 rfl) (pda_cons pd_int (pda_cons (pd_op op_sub rd_II (pd_web0 (pd_var 0 rfl)) pd_int) pda_nil)))) ?_)))))) rfl
      have a1 : decide ((0 : Int) ≤ (y : Nat)) = true := decide_eq_true (by omega)
      rw [a1, Bool.true_and]
      congr 1
      rw [decide_eq_decide]
      omega
    unfold isLot
    cases ha : l.all fun o => decide (o < W.n) with
    | false =>
      rw [ha] at ht
      exact ⟨.rt (.bool false), .inl rfl, pds_end (pds_ifT ht (pds_one (pds_ret pd_bl)))⟩
    | true =>
      rw [ha] at ht
      refine ⟨_, .inl rfl, pds_cons (δ1 := [.d (webD W), .d (lotD l), .no, .no]) (pds_ifF ht pds_nil) (pds_one (pds_ret ?_))⟩
      rw [Bool.true_and]
      refine pd_all (k := 1) (own := [("k", 3)]) (g := gName 3) (List.range (l.length - 1)) nD (fun k => [.d (webD W), .d (lotD l), .no, .d (nD k)]) (fun k => decide (l.getD k 0 < l.getD (k + 1) 0)) hr sc_islot.nd B.all TB hP rfl
        (pid_rangeZ (pda_cons (pd_op op_sub rd_II (pd_lenT B.len (pd_var 1 rfl)) pd_int) pda_nil) (by omega) (by omega) (by omega) B.range) (blkOk_by (N := ["web", "value", "one", "k"]) (sc := defScope s_islot) (by decide +kernel)) (by decide +kernel) rfl rfl (fun _ _ _ _ _ _ _ _ => pg_name (i := 3) sc_islot.nd rfl (Or.inl rfl)) (fun y _ => tg_name (by decide))
          (fun A s H cl C code fp pn hrG y hy => ?_)
      have hy := List.mem_range.mp hy
      have g1 : l[y]? = some (l.getD y 0) := by rw [List.getD_eq_getElem?_getD, List.getElem?_eq_getElem (by omega)]; rfl
      have g2 : l[y + 1]? = some (l.getD (y + 1) 0) := by rw [List.getD_eq_getElem?_getD, List.getElem?_eq_getElem (by omega)]; rfl
      refine pd_is (pd_cmp op_lt rd_IB (pd_ix ix_tup (rd_ixT (ix_nat (e := nD) (xs := l) g1)) (pd_var 1 rfl) (pd_var 3 rfl)) (pd_ix ix_tup (rd_ixT (ix_nat' (e := nD) (xs := l) (k := y + 1) (by omega) g2)) (pd_var 1 rfl) (pd_op op_add rd_II (pd_var 3 rfl) pd_int)) (by rfl)) ?_
      congr 1
      rw [decide_eq_decide]
      omega
end
end K28

set_option Elab.async false
set_option linter.all false
set_option maxRecDepth 100000
set_option maxHeartbeats 4000000
namespace K28
open PySem PySem.Spec PyProof.Rows L2

theorem filt_all {α : Type} (xs : List α) : xs.filter (fun _ => true) = xs := List.filter_eq_self.mpr fun _ _ => rfl
def isGath (W : Web) (l : List Nat) : Bool := isLot W l && !(W.ps.any fun p => memB p.1 l && memB p.2 l)
theorem dec_memB {i : Nat} : ∀ {l : List Nat}, decide ((i : Int) ∈ l.map fun n => ((n : Nat) : Int)) = memB i l
  | [] => by simp [memB]
  | n :: l => by
    have ih := dec_memB (i := i) (l := l)
    unfold memB at ih ⊢
    rw [List.map_cons, List.any_cons, ← ih]
    by_cases h : n = i
    · subst h; simp
    · have h2 : ¬ (i : Int) = ((n : Nat) : Int) := by omega
      by_cases h3 : (i : Int) ∈ l.map fun n => ((n : Nat) : Int)
      · simp [h, h2, h3]
      · simp [h, h2, h3]
theorem map_nD (l : List Nat) : l.map nD = (l.map fun n => ((n : Nat) : Int)).map PyData.int := by
  rw [List.map_map]; rfl
theorem rd_inNT {K : PySem.W.Frag} {i : Nat} {l : List Nat} : RD (rIn K false) (nD i) (lotD l) (.bool (memB i l)) := by
  have q := rd_inT (K := K) (i := (i : Int)) (ns := l.map fun n => ((n : Nat) : Int)) (neg := false)
  rw [← map_nD] at q
  have e : (if false = true then !decide ((i : Int) ∈ l.map fun n => ((n : Nat) : Int)) else decide ((i : Int) ∈ l.map fun n => ((n : Nat) : Int))) = memB i l := dec_memB
  rw [e] at q
  exact q
theorem rd_inNL {K : PySem.W.Frag} {i : Nat} {l : List Nat} : RD (rIn K false) (nD i) (listD nD l) (.bool (memB i l)) := by
  have q := rd_in (K := K) (i := (i : Int)) (ns := l.map fun n => ((n : Nat) : Int)) (neg := false)
  rw [← map_nD] at q
  have e : (if false = true then !decide ((i : Int) ∈ l.map fun n => ((n : Nat) : Int)) else decide ((i : Int) ∈ l.map fun n => ((n : Nat) : Int))) = memB i l := dec_memB
  rw [e] at q
  exact q
theorem rd_notNT {K : PySem.W.Frag} {i : Nat} {l : List Nat} : RD (rIn K true) (nD i) (lotD l) (.bool (!memB i l)) := by
  have q := rd_inT (K := K) (i := (i : Int)) (ns := l.map fun n => ((n : Nat) : Int)) (neg := true)
  rw [← map_nD] at q
  have e : (if true = true then !decide ((i : Int) ∈ l.map fun n => ((n : Nat) : Int)) else decide ((i : Int) ∈ l.map fun n => ((n : Nat) : Int))) = !memB i l := by rw [if_pos rfl, dec_memB]
  rw [e] at q
  exact q
theorem rd_notNL {K : PySem.W.Frag} {i : Nat} {l : List Nat} : RD (rIn K true) (nD i) (listD nD l) (.bool (!memB i l)) := by
  have q := rd_in (K := K) (i := (i : Int)) (ns := l.map fun n => ((n : Nat) : Int)) (neg := true)
  rw [← map_nD] at q
  have e : (if true = true then !decide ((i : Int) ∈ l.map fun n => ((n : Nat) : Int)) else decide ((i : Int) ∈ l.map fun n => ((n : Nat) : Int))) = !memB i l := by rw [if_pos rfl, dec_memB]
  rw [e] at q
  exact q
theorem rd_eqN {i j : Nat} : RD rEq (nD i) (nD j) (.bool (decide (i = j))) := by
  have q := rd_eqI (i := (i : Int)) (j := (j : Int))
  have e : decide ((i : Int) = (j : Int)) = decide (i = j) := by rw [decide_eq_decide]; omega
  rw [e] at q
  exact q
theorem rd_neN {i j : Nat} : RD rNe (nD i) (nD j) (.bool (!decide (i = j))) := by
  have q := rd_neI (i := (i : Int)) (j := (j : Int))
  have e : decide ((i : Int) = (j : Int)) = decide (i = j) := by rw [decide_eq_decide]; omega
  rw [e] at q
  exact q
section
variable {P : Program} {w : World} {K : PySem.W.Frag} {mg : Str → Option Value} {base : Heap} {T : Tx}
/-! ### is_gathering -/
def rIs_gath : List PyData → PyData → Prop := fun ds r => ∃ W l, 1 ≤ W.n ∧ l.length ≤ 1000 ∧ ds = [webD W, lotD l] ∧ r = .bool (isGath W l)
abbrev s_isg : Stmt := top 14
theorem sc_isg : FnScope ["web", "value", "one", "other"] ["web", "value"] (defScope s_isg) := ⟨rfl, rfl, rfl, by decide +kernel, rfl, by decide +kernel, by decide +kernel⟩
theorem h_isg {f c Pt : Addr} {fd : FuncData} (F : FunC K "is_gathering" "is_gathering" s_isg f fd c) (TB : GxR.TabB base mg c Pt) (hP : Pt ∈ T.tabs) (hm : mg "is_gathering" = some (.ref f)) (B : Bi mg) (hL : Has P w K mg base T "is_lot" 3 rIs_lot) : Has P w K mg base T "is_gathering" 4 rIs_gath := by
  refine fn_dataC F sc_isg hm (F.fn.binds fun _ _ _ _ _ _ us hl => match us, hl with | [_, _], _ => rfl) (fun ds r h => ?_) fun A outer s H E H0s H0 ds r hr hR => ?_
  · obtain ⟨W, l, _, _, rfl, _⟩ := h
    rfl
  · obtain ⟨W, l, hn, hl, rfl, rfl⟩ := hR
    refine ⟨_, .inl rfl, pds_one (pds_ret (pd_and (pd_call hL hr ⟨W, l, hn, hl, rfl, rfl⟩ (pda_cons (pd_var 0 rfl) (pda_cons (pd_var 1 rfl) pda_nil))) fun _ => pd_one (pd_not
      (pd_any (k := 2) (own := [("one", 2), ("other", 3)]) (g := gTup K 2 (gCons (gName 2) (gCons (gName 3) gNil))) W.ps prD (fun p => [.d (webD W), .d (lotD l), .d (nD p.1), .d (nD p.2)]) (fun p => memB p.1 l && memB p.2 l) hr sc_isg.nd B.any TB hP rfl
        (pid_tup (pd_web1 (pd_var 0 rfl))) (blkOk_by (N := ["web", "value", "one", "other"]) (sc := defScope s_isg) (by decide +kernel)) (by decide +kernel) rfl rfl
        (fun _ _ _ _ _ _ _ _ => pg_tup rfl (pgs_cons (pg_name (i := 2) sc_isg.nd rfl (Or.inl rfl)) (pgs_cons (pg_name (i := 3) sc_isg.nd rfl (Or.inl rfl)) pgs_nil))) (fun y _ => tg_pair (by decide) (by decide))
        (fun A s H cl C code fp pn hrG y hy => pd_and (pd_cmp op_in_seq rd_inNT (pd_var 2 rfl) (pd_var 1 rfl) (by rfl)) fun _ => pd_one (pd_cmp op_in_seq rd_inNT (pd_var 3 rfl) (pd_var 1 rfl) (by rfl)))))))⟩
/-! ### all_lots -/
def lots : Nat → List (List Nat)
  | 0 => [[]]
  | k + 1 => lots k ++ (lots k).map (· ++ [k])
theorem lots_len : ∀ k, (lots k).length = 2 ^ k
  | 0 => rfl
  | k + 1 => by rw [lots, List.length_append, List.length_map, lots_len k, Nat.pow_succ]; omega
theorem lots_hd : ∀ k, ∃ r, lots k = [] :: r
  | 0 => ⟨[], rfl⟩
  | k + 1 => by
    obtain ⟨r, e⟩ := lots_hd k
    exact ⟨r ++ (lots k).map (· ++ [k]), by rw [lots, e, List.cons_append]⟩
theorem lots_mem : ∀ k, ∀ l ∈ lots k, l.length ≤ k
  | 0, l, h => by
    rw [lots] at h
    rw [List.mem_singleton.mp h]
    exact Nat.le_refl _
  | k + 1, l, h => by
    rw [lots] at h
    rcases List.mem_append.mp h with h | h
    · exact Nat.le_succ_of_le (lots_mem k l h)
    · obtain ⟨m, hm, rfl⟩ := List.mem_map.mp h
      have := lots_mem k m hm
      simp
      omega
def allLots (n : Nat) : List (List Nat) := isort ltLot (lots n)
def rAll_lots : List PyData → PyData → Prop := fun ds r => ∃ W, W.n ≤ 7 ∧ ds = [webD W] ∧ r = listD lotD (allLots W.n)
abbrev s_lots : Stmt := top 15
theorem sc_lots : FnScope ["web", "found", "person", "one"] ["web"] (defScope s_lots) := ⟨rfl, rfl, rfl, by decide +kernel, rfl, by decide +kernel, by decide +kernel⟩
theorem pow_7 {k : Nat} (h : k ≤ 7) : 2 ^ k ≤ 128 := by
  have := Nat.pow_le_pow_right (show 0 < 2 by decide) h
  simpa using this
theorem h_lots {f : Addr} {fd : FuncData} (F : Fun K "all_lots" "all_lots" s_lots f fd) (hm : mg "all_lots" = some (.ref f)) (B : Bi mg) : Has P w K mg base T "all_lots" 1 rAll_lots := by
  refine fn_data F sc_lots hm (F.binds fun _ _ _ _ _ _ us hl => match us, hl with | [_], _ => rfl) (fun ds r h => ?_) fun cdv A outer s H E H0s H0 ds r hr hR => ?_
  · obtain ⟨W, _, rfl, _⟩ := h
    rfl
  · obtain ⟨W, hn, rfl, rfl⟩ := hR
    refine ⟨.rt (listD lotD (allLots W.n)), .inl rfl, ?_⟩
    refine pds_cons (δ1 := [.d (webD W), .d (listD lotD (lots 0)), .no, .no]) (pds_set 1 sc_lots.nd (pd_lst (ds := [lotD []]) (pda_cons (pd_tup (ds := []) pda_nil (by decide)) pda_nil) (by show 1 ≤ 1000; decide))) ?_
    refine pds_cons (δ1 := [.d (webD W), .d (listD lotD (lots W.n)), .no, .no]) ?_ ?_
    · refine pds_forN (ks := [2]) (g := gName 2) W.n (fun k => [.d (webD W), .d (listD lotD (lots k)), .no, .no]) (fun k => [.d (webD W), .d (listD lotD (lots k)), .d (nD k), .no]) rfl rfl PassesOwn.never rfl
        (pid_range (n := W.n) (pda_cons (pd_web0 (pd_var 0 rfl)) pda_nil) (by omega) B.range) (pg_name (i := 2) sc_lots.nd rfl (Or.inr rfl)) (fun k => trivial) (fun k => tg_name (by decide)) (fun y hk => ?_)
      · skip
        refine pds_weak (δ1 := [.d (webD W), .d (listD lotD (lots (y + 1))), .d (nD y), .no]) (less_of ⟨rfl, rfl, trivial⟩) (pds_one (pds_set 1 sc_lots.nd (pd_is (pd_op op_cat (rd_cat ?_) (pd_var 1 rfl) (pd_lc (own := [("one", 3)]) (lots y) lotD (fun l => [.d (webD W), .d (listD lotD (lots y)), .d (nD y), .d (lotD l)]) (fun _ => true) (fun l => lotD (l ++ [y])) rfl sc_lots.nd
          (pid_list (pd_var 1 rfl)) ?_ (blkOk_by (N := ["web", "found", "person", "one"]) (sc := defScope s_lots) (by decide +kernel)) (fun _ _ _ _ _ => pg_name (i := 3) sc_lots.nd rfl (Or.inl rfl)) (fun y _ => tg_name (by decide)) (fun _ _ _ _ _ _ _ => pts_no)
          (fun _ _ _ _ _ l hl _ => pd_is (pd_tup (pda_starT (pd_var 3 rfl) (pda_cons (pd_var 2 rfl) pda_nil)) ?_) ?_))) ?_)))
        · have := pow_7 (show y ≤ 7 by omega)
          have := lots_len y
          have e2 := List.length_filter_le (fun _ => true) (lots y)
          simp only [List.length_map]
          omega
        · have := pow_7 (show y ≤ 7 by omega)
          have := lots_len y
          omega
        · have := lots_mem y l hl
          simp only [List.length_append, List.length_map, List.length_cons, List.length_nil]
          omega
        · unfold lotD
          rw [List.map_append]
          rfl
        · unfold listD
          rw [lots, List.map_append, List.map_map, filt_all]
          rfl
    · obtain ⟨rest, e⟩ := lots_hd W.n
      refine pds_one (pds_ret (pd_sortedE EOrd.lot lin_lot (by decide) (lots W.n) ?_ (hu64 hr) B.sorted (pd_var 1 rfl)))
      rw [e]
      exact sok_lot
/-! ### all_gatherings -/
def gaths (W : Web) : List (List Nat) := (allLots W.n).filter (isGath W)
theorem allLots_mem {n : Nat} {l : List Nat} (h : l ∈ allLots n) : l.length ≤ n := lots_mem n l ((isort_perm _).mem_iff.mp h)
theorem allLots_len (n : Nat) : (allLots n).length = 2 ^ n := (isort_perm _).length_eq.trans (lots_len n)
def rAll_gath : List PyData → PyData → Prop := fun ds r => ∃ W, 1 ≤ W.n ∧ W.n ≤ 7 ∧ ds = [webD W] ∧ r = listD lotD (gaths W)
abbrev s_gath : Stmt := top 16
theorem sc_gath : FnScope ["web", "one"] ["web"] (defScope s_gath) := ⟨rfl, rfl, rfl, by decide +kernel, rfl, by decide +kernel, by decide +kernel⟩
theorem h_gath {f : Addr} {fd : FuncData} (F : Fun K "all_gatherings" "all_gatherings" s_gath f fd) (hm : mg "all_gatherings" = some (.ref f)) (B : Bi mg) (hL : Has P w K mg base T "all_lots" 1 rAll_lots) (hG : Has P w K mg base T "is_gathering" 4 rIs_gath) : Has P w K mg base T "all_gatherings" 5 rAll_gath := by
  refine fn_data F sc_gath hm (F.binds fun _ _ _ _ _ _ us hl => match us, hl with | [_], _ => rfl) (fun ds r h => ?_) fun cdv A outer s H E H0s H0 ds r hr hR => ?_
  · obtain ⟨W, _, _, rfl, _⟩ := h
    rfl
  · obtain ⟨W, h1, hn, rfl, rfl⟩ := hR
    refine ⟨_, .inl rfl, pds_one (pds_ret (pd_lc (own := [("one", 1)]) (allLots W.n) lotD (fun l => [.d (webD W), .d (lotD l)]) (isGath W) lotD rfl sc_gath.nd (pid_list (pd_call hL (hr.mono (by decide)) ⟨W, hn, rfl, rfl⟩ (pda_cons (pd_var 0 rfl) pda_nil)))
      ?_ (blkOk_by (N := ["web", "one"]) (sc := defScope s_gath) (by decide +kernel)) (fun _ _ _ _ _ => pg_name (i := 1) sc_gath.nd rfl (Or.inl rfl)) (fun y _ => tg_name (by decide))
      (fun _ _ _ _ _ l hl => pts_one (pdt_val (pd_call hG hr ⟨W, l, h1, ?_, rfl, rfl⟩ (pda_cons (pd_var 0 rfl) (pda_cons (pd_var 1 rfl) pda_nil))))) (fun _ _ _ _ _ l hl _ => pd_var 1 rfl)))⟩
    · have := pow_7 hn
      have := allLots_len W.n
      omega
    · have := allLots_mem hl
      omega
/-! ### came -/
def came (W : Web) (g : List Nat) (p : Nat) : List Nat := isort ltN (g.filter (fun o => !decide (o = p) && !areFoes W o p) ++ [p])
theorem came_len (W : Web) (g : List Nat) (p : Nat) : (came W g p).length ≤ g.length + 1 := by
  unfold came
  rw [(isort_perm _).length_eq, List.length_append]
  have := List.length_filter_le (fun o => !decide (o = p) && !areFoes W o p) g
  simp only [List.length_cons, List.length_nil]
  omega
def rCame : List PyData → PyData → Prop := fun ds r => ∃ W g p, g.length ≤ 900 ∧ ds = [webD W, lotD g, nD p] ∧ r = lotD (came W g p)
abbrev s_came : Stmt := top 17
theorem sc_came : FnScope ["web", "gathering", "person", "rest", "one"] ["web", "gathering", "person"] (defScope s_came) := ⟨rfl, rfl, rfl, by decide +kernel, rfl, by decide +kernel, by decide +kernel⟩
theorem h_came {f : Addr} {fd : FuncData} (F : Fun K "came" "came" s_came f fd) (hm : mg "came" = some (.ref f)) (B : Bi mg) (hA : Has P w K mg base T "are_foes" 1 rAre) : Has P w K mg base T "came" 2 rCame := by
  refine fn_data F sc_came hm (F.binds fun _ _ _ _ _ _ us hl => match us, hl with | [_, _, _], _ => rfl) (fun ds r h => ?_) fun cdv A outer s H E H0s H0 ds r hr hR => ?_
  · obtain ⟨W, g, p, _, rfl, _⟩ := h
    rfl
  · obtain ⟨W, g, p, hg, rfl, rfl⟩ := hR
    have hfl := List.length_filter_le (fun o => !decide (o = p) && !areFoes W o p) g
    refine ⟨.rt (lotD (came W g p)), .inl rfl, pds_cons (δ1 := [.d (webD W), .d (lotD g), .d (nD p), .d (listD nD (g.filter fun o => !decide (o = p) && !areFoes W o p)), .no]) (pds_lc 3 (own := [("one", 4)]) g nD (fun o => [.d (webD W), .d (lotD g), .d (nD p), .no, .d (nD o)]) (fun o => !decide (o = p) && !areFoes W o p) nD rfl sc_came.nd
      (pid_tup (pd_var 1 rfl)) (by omega) (blkOk_by (N := ["web", "gathering", "person", "rest", "one"]) (sc := defScope s_came) (by decide +kernel)) (fun _ _ _ _ _ => pg_name (i := 4) sc_came.nd rfl (Or.inl rfl)) (fun y _ => tg_name (by decide))
      (fun _ _ _ _ _ o ho => pts_one (PW.pt (pdw_and (pdt_cmp op_ne rd_neN (pd_var 4 rfl) (pd_var 2 rfl) (by rfl)) fun _ => pdw_one (pdt_not (pdt_val (pd_call hA hr ⟨W, o, p, rfl, rfl⟩ (pda_cons (pd_var 0 rfl) (pda_cons (pd_var 4 rfl) (pda_cons (pd_var 2 rfl) pda_nil)))))))))
      (fun _ _ _ _ _ o ho _ => pd_var 4 rfl)) (pds_one (pds_ret (pd_tuple B.tuple (pd_sortedE EOrd.nat lin_N (by decide) _ (sok_nat _) (hu64 hr) B.sorted (pd_is (pd_lst (pda_starL (pd_var 3 rfl) (pda_cons (pd_var 2 rfl) pda_nil)) ?_) ?_)))))⟩
    · simp only [List.length_append, List.length_map, List.length_cons, List.length_nil]
      omega
    · unfold listD
      rw [List.map_append]
      rfl
/-! ### is_row, need_row -/
def rIs_row : List PyData → PyData → Prop := fun ds r => ∃ W l, 1 ≤ W.n ∧ ds = [webD W, lotD l] ∧ r = .bool (decide (l.length ≤ 30) && l.all (fun o => decide (o < W.n)))
abbrev s_isrow : Stmt := top 18
theorem sc_isrow : FnScope ["web", "value", "one"] ["web", "value"] (defScope s_isrow) := ⟨rfl, rfl, rfl, by decide +kernel, rfl, by decide +kernel, by decide +kernel⟩
theorem h_isrow {f c Pt : Addr} {fd : FuncData} (F : FunC K "is_row" "is_row" s_isrow f fd c) (TB : GxR.TabB base mg c Pt) (hP : Pt ∈ T.tabs) (hm : mg "is_row" = some (.ref f)) (B : Bi mg) (C : Cn mg) (hI : Has P w K mg base T "is_in" 1 rIs_in) : Has P w K mg base T "is_row" 3 rIs_row := by
  refine fn_dataC F sc_isrow hm (F.fn.binds fun _ _ _ _ _ _ us hl => match us, hl with | [_, _], _ => rfl) (fun ds r h => ?_) fun A outer s H E H0s H0 ds r hr hR => ?_
  · obtain ⟨W, l, _, rfl, _⟩ := h
    rfl
  · obtain ⟨W, l, hn, rfl, rfl⟩ := hR
    obtain ⟨tr, hrow⟩ := C.row
    refine ⟨_, .inl rfl, pds_one (pds_ret (pd_is (pd_and (pd_isi (pd_var 1 rfl) kit_tup_tup boot_tuple B.isinstance B.tuple) fun _ => pd_and (pd_cmp op_le rd_IB (pd_lenT B.len (pd_var 1 rfl)) (pd_glob (by rfl) hrow) (by rfl)) fun _ => pd_one
      (pd_all (k := 1) (own := [("one", 2)]) (g := gName 2) l nD (fun o => [.d (webD W), .d (lotD l), .d (nD o)]) (fun o => decide (o < W.n)) hr sc_isrow.nd B.all TB hP rfl (pid_tup (pd_var 1 rfl)) (blkOk_by (N := ["web", "value", "one"]) (sc := defScope s_isrow) (by decide +kernel)) (by decide +kernel) rfl rfl (fun _ _ _ _ _ _ _ _ => pg_name (i := 2) sc_isrow.nd rfl (Or.inl rfl)) (fun y _ => tg_name (by decide))
          (fun A s H cl C code fp pn hrG y hy => pd_is (pd_call hI hrG ⟨(y : Nat), 0, (W.n : Nat) - 1, rfl, rfl⟩ (pda_cons (pd_var 2 rfl) (pda_cons pd_int (pda_cons (pd_op op_sub rd_II (pd_web0 (pd_var 0 rfl)) pd_int) pda_nil)))) ?_))) ?_))⟩
    · have a1 : decide ((0 : Int) ≤ (y : Nat)) = true := decide_eq_true (by omega)
      rw [a1, Bool.true_and]
      congr 1
      rw [decide_eq_decide]
      omega
    · rw [Bool.true_and]
      congr 2
      rw [decide_eq_decide]
      omega
def rNeed_row : List PyData → PyData → Prop := fun ds r => ∃ W l, 1 ≤ W.n ∧ l.length ≤ 30 ∧ (∀ o ∈ l, o < W.n) ∧ ds = [webD W, lotD l] ∧ r = .none
abbrev s_nrow : Stmt := top 19
theorem sc_nrow : FnScope ["web", "row"] ["web", "row"] (defScope s_nrow) := ⟨rfl, rfl, rfl, by decide +kernel, rfl, by decide +kernel, by decide +kernel⟩
theorem h_nrow {f : Addr} {fd : FuncData} (F : Fun K "need_row" "need_row" s_nrow f fd) (hm : mg "need_row" = some (.ref f)) (hI : Has P w K mg base T "is_row" 3 rIs_row) : Has P w K mg base T "need_row" 4 rNeed_row := by
  refine fn_data F sc_nrow hm (F.binds fun _ _ _ _ _ _ us hl => match us, hl with | [_, _], _ => rfl) (fun ds r h => ?_) fun cdv A outer s H E H0s H0 ds r hr hR => ?_
  · obtain ⟨W, l, _, _, _, rfl, _⟩ := h
    rfl
  · obtain ⟨W, l, hn, hl, ha, rfl, rfl⟩ := hR
    refine ⟨.nx [.d (webD W), .d (lotD l)], .inr ⟨_, rfl, rfl⟩, pds_one (pds_ifF (pdt_is (pdt_not (pdt_val (pd_call hI hr ⟨W, l, hn, rfl, rfl⟩ (pda_cons (pd_var 0 rfl) (pda_cons (pd_var 1 rfl) pda_nil))))) ?_) pds_nil)⟩
    rw [decide_eq_true hl, List.all_eq_true.mpr fun o ho => decide_eq_true (ha o ho)]
    rfl
/-! ### trace -/
def st (W : Web) (g : List Nat) (row : List Nat) : Nat → List Nat
  | 0 => g
  | k + 1 => came W (st W g row k) (row.getD k 0)
theorem st_len (W : Web) (g row : List Nat) : ∀ k, (st W g row k).length ≤ g.length + k
  | 0 => Nat.le_refl _
  | k + 1 => by
    have h1 := st_len W g row k
    have h2 := came_len W (st W g row k) (row.getD k 0)
    rw [st]
    omega
def traceL (W : Web) (g row : List Nat) (k : Nat) : List (List Nat) := (List.range (k + 1)).map (st W g row)
def rTrace : List PyData → PyData → Prop := fun ds r => ∃ W g row, g.length ≤ 100 ∧ row.length ≤ 30 ∧ ds = [webD W, lotD g, lotD row] ∧ r = listD lotD (traceL W g row row.length)
abbrev s_trace : Stmt := top 20
theorem sc_trace : FnScope ["web", "gathering", "row", "found", "person"] ["web", "gathering", "row"] (defScope s_trace) := ⟨rfl, rfl, rfl, by decide +kernel, rfl, by decide +kernel, by decide +kernel⟩
theorem h_trace {f : Addr} {fd : FuncData} (F : Fun K "trace" "trace" s_trace f fd) (hm : mg "trace" = some (.ref f)) (hC : Has P w K mg base T "came" 2 rCame) : Has P w K mg base T "trace" 3 rTrace := by
  refine fn_data F sc_trace hm (F.binds fun _ _ _ _ _ _ us hl => match us, hl with | [_, _, _], _ => rfl) (fun ds r h => ?_) fun cdv A outer s H E H0s H0 ds r hr hR => ?_
  · obtain ⟨W, g, row, _, _, rfl, _⟩ := h
    rfl
  · obtain ⟨W, g, row, hg, hrow, rfl, rfl⟩ := hR
    refine ⟨.rt (listD lotD (traceL W g row row.length)), .inl rfl, ?_⟩
    refine pds_cons (δ1 := [.d (webD W), .d (lotD g), .d (lotD row), .own ((traceL W g row 0).map lotD), .no]) (pds_new 3 sc_trace.nd (pda_cons (pd_var 1 rfl) pda_nil) (by show 1 ≤ 1000; decide)) ?_
    refine pds_cons (δ1 := [.d (webD W), .d (lotD g), .d (lotD row), .own ((traceL W g row row.length).map lotD), .no]) ?_ (pds_freeze 3 rfl (pds_one (pds_ret (pd_var 3 rfl))))
    refine pds_for (ks := [4]) (g := gName 4) row nD (fun k => [.d (webD W), .d (lotD g), .d (lotD row), .own ((traceL W g row k).map lotD), .no]) (fun k p => [.d (webD W), .d (lotD g), .d (lotD row), .own ((traceL W g row k).map lotD), .d (nD p)]) rfl PassesOwn.never rfl
        (pid_tup (pd_var 2 rfl)) (pg_name (i := 4) sc_trace.nd rfl (Or.inl rfl)) (fun k y hy => tg_name (by decide)) (fun k y => by simpa using mineSub_get (i := 0) (b := [.d (webD W), .d (lotD g), .d (lotD row), .own ((traceL W g row k).map lotD), .no]) (a := [.d (webD W), .d (lotD g), .d (lotD row), .own ((traceL W g row k).map lotD), .d (nD y)]) (ks := [4]) ⟨rfl, by decide, trivial⟩) (fun k y hy => ?_)
    · have hk : k < row.length := (List.getElem?_eq_some_iff.mp hy).1
      have hl := st_len W g row k
      have e1 : row.getD k 0 = y := by rw [List.getD_eq_getElem?_getD, hy]; rfl
      have e2 : (traceL W g row k).getLast? = some (st W g row k) := by
        unfold traceL
        rw [List.range_succ, List.map_append]
        simp
      have e3 : (traceL W g row k).map lotD ++ [lotD (came W (st W g row k) y)] = (traceL W g row (k + 1)).map lotD := by
        unfold traceL
        rw [List.range_succ (n := k + 1), List.map_append, List.map_append]
        show _ = _ ++ [lotD (st W g row (k + 1))]
        rw [st, e1]
      refine pds_weak (δ1 := [.d (webD W), .d (lotD g), .d (lotD row), .own ((traceL W g row (k + 1)).map lotD), .d (nD y)]) (less_of ⟨rfl, rfl, rfl, rfl, trivial⟩) (pds_one
        (pds_append 3 rfl (pd_call hC hr ⟨W, st W g row k, y, by omega, rfl, rfl⟩ (pda_cons (pd_var 0 rfl) (pda_cons (pd_ixO 3 rfl (ix_last e2) (pd_neg pd_int)) (pda_cons (pd_var 4 rfl) pda_nil)))) (by unfold traceL; simp; omega) e3))
end
end K28

set_option Elab.async false
set_option linter.all false
set_option maxRecDepth 100000
set_option maxHeartbeats 2000000
namespace K28
open PySem PySem.Spec PyProof.Rows L2

/-! ### data as keys -/
mutual
def nk : PyData → NestedKey
  | .int i => .num i
  | .tuple xs => .tup (nkA xs)
  | _ => .none
def nkA : List PyData → List NestedKey
  | [] => []
  | x :: xs => nk x :: nkA xs
end
mutual
/-- whole numbers and tuples of such -/
def pureD : PyData → Bool
  | .int _ => true
  | .tuple xs => pureA xs
  | _ => false
def pureA : List PyData → Bool
  | [] => true
  | x :: xs => pureD x && pureA xs
end
mutual
theorem nk_is {h : Heap} : ∀ (d : PyData) (v : Value) (as : List Addr), Reads h v d as → pureD d = true → NestedIs h (nk d) v
  | .int i, _, _, r, _ => by
    cases r with
    | int i t => rw [nk]; exact .int i t
  | .tuple xs, _, _, r, p => by
    cases r with
    | tuple h1 h2 h3 h4 => rw [nk]; exact .tup h1 h2 h3 (nkA_is xs _ _ h4 (by rw [pureD] at p; exact p))
  | .none, _, _, _, p => by simp [pureD] at p
  | .bool _, _, _, _, p => by simp [pureD] at p
  | .str _, _, _, _, p => by simp [pureD] at p
  | .list _, _, _, _, p => by simp [pureD] at p
  | .dict _, _, _, _, p => by simp [pureD] at p
theorem nkA_is {h : Heap} : ∀ (ds : List PyData) (vs : List Value) (as : List Addr), ReadsAll h vs ds as → pureA ds = true → NestedAll h (nkA ds) vs
  | [], _, _, r, _ => by cases r; rw [nkA]; exact .nil
  | d :: ds, _, _, r, p => by
    rw [pureA, Bool.and_eq_true] at p
    cases r with
    | cons r1 r2 => rw [nkA]; exact .cons (nk_is d _ _ r1 p.1) (nkA_is ds _ _ r2 p.2)
end
mutual
theorem nk_inj : ∀ (d e : PyData), pureD d = true → pureD e = true → nk d = nk e → d = e
  | .int i, .int j, _, _, h => by rw [nk, nk] at h; cases h; rfl
  | .int i, .tuple ys, _, _, h => by rw [nk, nk] at h; cases h
  | .tuple xs, .int j, _, _, h => by rw [nk, nk] at h; cases h
  | .tuple xs, .tuple ys, p, q, h => by
    rw [nk, nk] at h
    rw [pureD] at p q
    rw [nkA_inj xs ys p q (NestedKey.tup.inj h)]
  | .none, _, p, _, _ => by simp [pureD] at p
  | .bool _, _, p, _, _ => by simp [pureD] at p
  | .str _, _, p, _, _ => by simp [pureD] at p
  | .list _, _, p, _, _ => by simp [pureD] at p
  | .dict _, _, p, _, _ => by simp [pureD] at p
  | _, .none, _, p, _ => by simp [pureD] at p
  | _, .bool _, _, p, _ => by simp [pureD] at p
  | _, .str _, _, p, _ => by simp [pureD] at p
  | _, .list _, _, p, _ => by simp [pureD] at p
  | _, .dict _, _, p, _ => by simp [pureD] at p
theorem nkA_inj : ∀ (ds es : List PyData), pureA ds = true → pureA es = true → nkA ds = nkA es → ds = es
  | [], [], _, _, _ => rfl
  | [], _ :: _, _, _, h => by rw [nkA, nkA] at h; cases h
  | _ :: _, [], _, _, h => by rw [nkA, nkA] at h; cases h
  | d :: ds, e :: es, p, q, h => by
    rw [nkA, nkA] at h
    rw [pureA, Bool.and_eq_true] at p q
    injection h with h1 h2
    rw [nk_inj d e p.1 q.1 h1, nkA_inj ds es p.2 q.2 h2]
end
mutual
theorem nk_depth : ∀ d : PyData, (nk d).depth ≤ d.depth
  | .int i => by rw [nk]; simp [NestedKey.depth]
  | .tuple xs => by
    rw [nk]
    simp only [NestedKey.depth, PyData.depth]
    have := nkA_depth xs
    omega
  | .none => by simp [nk, NestedKey.depth]
  | .bool _ => by simp [nk, NestedKey.depth]
  | .str _ => by simp [nk, NestedKey.depth]
  | .list _ => by simp [nk, NestedKey.depth]
  | .dict _ => by simp [nk, NestedKey.depth]
theorem nkA_depth : ∀ ds : List PyData, NestedKey.depthAll (nkA ds) ≤ PyData.depthAll ds
  | [] => by simp [nkA, NestedKey.depthAll]
  | d :: ds => by
    rw [nkA]
    simp only [NestedKey.depthAll, PyData.depthAll]
    have := nk_depth d
    have := nkA_depth ds
    omega
end
/-- an encoding by tuples of whole numbers, nested -/
structure KEnc {α : Type} [DecidableEq α] (e : α → PyData) (k : Nat) : Prop extends Enc e k where
  pu : ∀ x, pureD (e x) = true
  le : k ≤ 8
section
variable {α β : Type} [DecidableEq α] [DecidableEq β] {e : α → PyData} {e' : β → PyData} {k : Nat}
theorem KEnc.inj (h : KEnc e k) {x y : α} (q : nk (e x) = nk (e y)) : x = y := by
  have e1 := nk_inj _ _ (h.pu x) (h.pu y) q
  have e2 := h.eq x y
  rw [← e1, h.eq x x] at e2
  simpa using e2
theorem pureA_map {e : α → PyData} (h : ∀ x, pureD (e x) = true) : ∀ xs : List α, pureA (xs.map e) = true
  | [] => by rw [List.map_nil, pureA]
  | x :: xs => by rw [List.map_cons, pureA, h, pureA_map h xs]; rfl
theorem KEnc.nat : KEnc nD 0 := { Enc.nat with pu := fun x => by unfold nD; rw [pureD], le := by decide }
theorem KEnc.tup (h : KEnc e k) (hk : k + 1 ≤ 8) : KEnc (fun xs : List α => PyData.tuple (xs.map e)) (k + 1) := { Enc.tup h.toEnc with pu := fun xs => by rw [pureD]; exact pureA_map h.pu xs, le := hk }
theorem KEnc.pair (h : KEnc e k) (h' : KEnc e' k) (hk : k + 1 ≤ 8) : KEnc (fun p : α × β => PyData.tuple [e p.1, e' p.2]) (k + 1) := { Enc.pair h.toEnc h'.toEnc with
  pu := fun p => by rw [pureD, pureA, pureA, pureA, h.pu, h'.pu]; rfl
  le := hk }
end
theorem KEnc.lot : KEnc lotD 1 := KEnc.nat.tup (by decide)
theorem KEnc.dd : KEnc ddD 2 := KEnc.lot.pair KEnc.lot (by decide)
theorem KEnc.told : KEnc (tupD lotD) 2 := KEnc.lot.tup (by decide)

/-- x put behind, if it is not there -/
def insA {α : Type} [DecidableEq α] (xs : List α) (x : α) : List α := if memB x xs = true then xs else xs ++ [x]
def ddp {α : Type} [DecidableEq α] (xs : List α) : List α := xs.foldl insA []
theorem insA_len {α : Type} [DecidableEq α] (xs : List α) (x : α) : (insA xs x).length ≤ xs.length + 1 := by
  unfold insA
  split
  · omega
  · simp
/-! ### kinds of dicts -/
structure DKd (P : Program) (w : World) (α : Type) [DecidableEq α] where
  enc : α → PyData
  ok : List α → Hp → Addr → HO → Prop
  mono : ∀ {ks : List α} {Hs Hs' : Hp} {p : Addr} {o : HO}, Ex Hs Hs' → ok ks Hs p o → ok ks Hs' p o
  nl : ∀ {ks : List α} {Hs : Hp} {p : Addr} {o : HO} {xs : List V}, ok ks Hs p o → o ≠ .lst xs
  nt : ∀ {ks : List α} {Hs : Hp} {p : Addr} {o : HO} {ps : Array Value}, ok ks Hs p o → o ≠ .tbl ps
  new : ∀ {h : Heap}, sysModules < h.objs.size → ∃ o, (∀ Hs, ok [] Hs h.objs.size o) ∧ ∀ H, ObjOk P w H (h.push { cls := .type "dict", data := .dict #[] }) h.objs.size o
  set : ∀ {Y : Cx} {pins : List (Addr × Obj)} {σ : L2.St} {Hs H : Hp} {s : Shared} {E : Value → Shared → Prop} {D : Addr} {o : HO} {ks : List α} {a : α} {y v : V} {u r : Value} {Q : Unit → Shared → Prop}, Y.prog = P → Y.w = w → Y.A.units + 64 < cLine → Inv Y pins σ H s →
    H D = some o → ok ks Hs D o → Ex Hs H → Da Hs y (enc a) → RelV y u → RelV v r → ks.length ≤ 1000 → (∀ s' o', Inv Y pins σ (upd H D o') s' → ok (insA ks a) Hs D o' → Q () s') → wpAny (model P w) Y.A (dictSet D u r) Q E s
  setI : ∀ {Y : Cx} {pins : List (Addr × Obj)} {σ : L2.St} {Hs H : Hp} {s : Shared} {E : Value → Shared → Prop} {D : Addr} {o : HO} {ks : List α} {a : α} {y v : V} {u r : Value} {Q : Unit → Shared → Prop}, Y.prog = P → Y.w = w → Y.A.units + 64 < cLine → Inv Y pins σ H s →
    H D = some o → ok ks Hs D o → Ex Hs H → Da Hs y (enc a) → RelV y u → RelV v r → ks.length ≤ 1000 → (∀ s' o', Inv Y pins σ (upd H D o') s' → ok (insA ks a) Hs D o' → Q () s') → wpAny (model P w) Y.A (setItem (.ref D) u r) Q E s
def DKd.dct {P : Program} {w : World} {α : Type} [DecidableEq α] (D : DKd P w α) (ks : List α) : Dct := ⟨D.ok ks, D.mono, D.nl, D.nt⟩

/-! whole numbers -/
def okI (ks : List Nat) (Hs : Hp) (p : Addr) (o : HO) : Prop := ∃ kvs : List (Key × V), o = .dK kvs ∧ kvs.map (·.1) = ks.map fun n => Sum.inl ((n : Nat) : Int)
theorem putK_keys {kvs : List (Key × V)} {ks : List Nat} {a : Nat} {v : V} (h : kvs.map (·.1) = ks.map fun n => Sum.inl ((n : Nat) : Int)) : (putK kvs (Sum.inl ((a : Nat) : Int)) v).map (·.1) = (insA ks a).map fun n => Sum.inl ((n : Nat) : Int) := by
  have e1 : (kvs.any fun kv => decide (kv.1 = Sum.inl ((a : Nat) : Int))) = memB a ks := by
    have : (kvs.any fun kv => decide (kv.1 = Sum.inl ((a : Nat) : Int))) = ((kvs.map (·.1)).any fun k => decide (k = Sum.inl ((a : Nat) : Int))) := by rw [List.any_map]; rfl
    rw [this, h, List.any_map]
    unfold memB
    congr 1
    funext n
    show decide ((Sum.inl ((n : Nat) : Int) : Key) = Sum.inl ((a : Nat) : Int)) = decide (n = a)
    rw [decide_eq_decide]
    constructor
    · intro z
      have := Sum.inl.inj z
      omega
    · intro z
      rw [z]
  unfold putK insA
  rw [e1]
  cases memB a ks with
  | true =>
    simp only [if_true]
    rw [List.map_map, ← h]
    refine List.map_congr_left fun kv _ => ?_
    show (if kv.1 = _ then (kv.1, v) else kv).1 = kv.1
    split <;> rfl
  | false =>
    simp only [Bool.false_eq_true, if_false]
    rw [List.map_append, List.map_append, h]
    rfl
def kdI (P : Program) (w : World) : DKd P w Nat where
  enc := nD
  ok := okI
  mono := fun _ h => h
  nl := fun ⟨kvs, e, _⟩ z => by rw [e] at z; cases z
  nt := fun ⟨kvs, e, _⟩ z => by rw [e] at z; cases z
  new := fun hb => ⟨.dK [], fun _ => ⟨[], rfl, rfl⟩, fun _ => dk_empty _ hb⟩
  set := fun {Y pins σ Hs H s E D o ks a y v u r Q} hP hw hu I hD hok hs hy ry rv hl hQ => by
    subst hP hw
    obtain ⟨kvs, rfl, hk⟩ := hok
    have ey : y = kV (Sum.inl ((a : Nat) : Int)) := hy.intV
    subst ey
    have hlen : kvs.length = ks.length := by rw [← List.length_map (f := fun p : Key × V => p.1), hk, List.length_map]
    exact d_dictSet I hD (by rw [hlen]; exact Nat.lt_of_le_of_lt hl (by decide)) ry rv fun s' I' => hQ s' _ I' ⟨_, rfl, putK_keys hk⟩
  setI := fun {Y pins σ Hs H s E D o ks a y v u r Q} hP hw hu I hD hok hs hy ry rv hl hQ => by
    subst hP hw
    obtain ⟨kvs, rfl, hk⟩ := hok
    have ey : y = kV (Sum.inl ((a : Nat) : Int)) := hy.intV
    subst ey
    have hlen : kvs.length = ks.length := by rw [← List.length_map (f := fun p : Key × V => p.1), hk, List.length_map]
    exact d_setItem (by omega) I (.k hD (by rw [hlen]; exact Nat.lt_of_le_of_lt hl (by decide))) ry rv fun s' I' => hQ s' _ I' ⟨_, rfl, putK_keys hk⟩

/-! tuples of whole numbers, nested -/
def EntN (P : Program) (w : World) (p : Addr) (ys : List (NestedKey × Addr × Value)) (h : Heap) : Prop :=
  ∃ o es ep, h.get? p = some o ∧ o.ExactDict ∧ o.data = .dict es ep ∧ es.toList = ys.map (entryOfKey (nestedKind P w)) ∧ (ys.map (·.1)).Nodup
section
variable {P : Program} {w : World} {α : Type} [DecidableEq α] {e : α → PyData} {k : Nat}
def fN (e : α → PyData) (x : α × Addr × Value) : NestedKey × Addr × Value := (nk (e x.1), x.2)
def okN (P : Program) (w : World) (e : α → PyData) (ks : List α) (Hs : Hp) (p : Addr) (o : HO) : Prop :=
  ∃ xs : List (α × Addr × Value), xs.map (·.1) = ks ∧ (∀ x ∈ xs, Da Hs (.ref x.2.1) (e x.1)) ∧ (p == sysModules) = false ∧ o = .ext (EntN P w p (xs.map (fN e)))
theorem extN_ok {H : Hp} {h : Heap} {p : Addr} {ys : List (NestedKey × Addr × Value)} (z : EntN P w p ys h) : ObjOk P w H h p (.ext (EntN P w p ys)) :=
  ⟨z, let ⟨o, _, _, ho, _⟩ := z; ⟨o, ho⟩, fun h1 h2 ⟨o, es, ep, ho, r⟩ hk => ⟨o, es, ep, hk o ho, r⟩⟩
theorem isKey {Y : Cx} {pins : List (Addr × Obj)} {σ : L2.St} {H : Hp} {s : Shared} (K : KEnc e k) (I : Inv Y pins σ H s) {a : Addr} {x : α} (h : Da H (.ref a) (e x)) : (nestedKind Y.prog Y.w).is s.heap (nk (e x)) a := by
  obtain ⟨as, r⟩ := Dp.reads I (e x) (.ref a) (.ref a) (Da_dp h (K.sh x).pl) rfl
  exact ⟨nk_is _ _ _ r (K.pu x), Nat.le_trans (nk_depth _) (Nat.le_trans (K.sh x).2 K.le)⟩
theorem atKey_fN (K : KEnc e k) (a : α) : ∀ xs : List (α × Addr × Value), (atKey (xs.map (fN e)) (nk (e a))).isSome = memB a (xs.map (·.1))
  | [] => rfl
  | x :: xs => by
    have ih := atKey_fN K a xs
    unfold atKey memB at *
    rw [List.map_cons, List.map_cons, List.find?_cons, List.any_cons, ← ih]
    by_cases h : x.1 = a
    · have : decide ((fN e x).1 = nk (e a)) = true := decide_eq_true (by rw [← h]; rfl)
      rw [this, decide_eq_true h]
      simp
    · have : decide ((fN e x).1 = nk (e a)) = false := decide_eq_false fun z => h (K.inj z)
      rw [this, decide_eq_false h]
      simp
def putN (xs : List (α × Addr × Value)) (a : α) (b : Addr) (v : Value) : List (α × Addr × Value) :=
  if memB a (xs.map (·.1)) = true then xs.map (fun x => if x.1 = a then (x.1, x.2.1, v) else x) else xs ++ [(a, b, v)]
theorem putN_stored (K : KEnc e k) (xs : List (α × Addr × Value)) (a : α) (b : Addr) (v : Value) : storedH (xs.map (fN e)) (nk (e a)) b v = (putN xs a b v).map (fN e) := by
  unfold storedH putN
  rw [atKey_fN K]
  cases memB a (xs.map (·.1)) with
  | true =>
    simp only [if_true]
    rw [List.map_map, List.map_map]
    refine List.map_congr_left fun x _ => ?_
    show putAt (nk (e a)) v (fN e x) = fN e (if x.1 = a then (x.1, x.2.1, v) else x)
    unfold putAt
    by_cases h : x.1 = a
    · rw [if_pos (show (fN e x).1 = nk (e a) by rw [← h]; rfl), if_pos h]
      rfl
    · rw [if_neg (show ¬ (fN e x).1 = nk (e a) from fun z => h (K.inj z)), if_neg h]
  | false =>
    simp only [Bool.false_eq_true, if_false]
    rw [List.map_append]
    rfl
theorem putN_keys (xs : List (α × Addr × Value)) (a : α) (b : Addr) (v : Value) : (putN xs a b v).map (·.1) = insA (xs.map (·.1)) a := by
  unfold putN insA
  cases memB a (xs.map (·.1)) with
  | true =>
    simp only [if_true]
    rw [List.map_map]
    refine List.map_congr_left fun x _ => ?_
    show (if x.1 = a then (x.1, x.2.1, v) else x).1 = x.1
    split <;> rfl
  | false =>
    simp only [Bool.false_eq_true, if_false]
    rw [List.map_append]
    rfl
theorem putN_mem {xs : List (α × Addr × Value)} {a : α} {b : Addr} {v : Value} {x : α × Addr × Value} (h : x ∈ putN xs a b v) : (∃ y ∈ xs, y.1 = x.1 ∧ y.2.1 = x.2.1) ∨ (x.1 = a ∧ x.2.1 = b) := by
  unfold putN at h
  split at h
  · obtain ⟨y, hy, rfl⟩ := List.mem_map.mp h
    refine .inl ⟨y, hy, ?_⟩
    split <;> exact ⟨rfl, rfl⟩
  · rcases List.mem_append.mp h with h | h
    · exact .inl ⟨x, h, rfl, rfl⟩
    · rw [List.mem_singleton.mp h]
      exact .inr ⟨rfl, rfl⟩
theorem okN_at {Y : Cx} {pins : List (Addr × Obj)} {σ : L2.St} {Hs H : Hp} {s : Shared} {D : Addr} {xs : List (α × Addr × Value)} (K : KEnc e k) (I : Inv Y pins σ H s) (hs : Ex Hs H) (hD : H D = some (.ext (EntN Y.prog Y.w D (xs.map (fN e))))) (hx : ∀ x ∈ xs, Da Hs (.ref x.2.1) (e x.1)) :
    s.heap.DictOfH (nestedKind Y.prog Y.w) D (xs.map (fN e)) := by
  obtain ⟨⟨o, es, ep, h1, h2, h3, h4, h5⟩, _⟩ := I.hok D _ hD
  refine ⟨o, es, ep, h1, h2, h3, h4, fun z hz => ?_, h5⟩
  obtain ⟨x, hm, rfl⟩ := List.mem_map.mp hz
  exact isKey K I (Da_mono hs (hx x hm))
def kdN (P : Program) (w : World) (K : KEnc e k) (hT : ∀ x, ∃ ds, e x = .tuple ds) : DKd P w α where
  enc := e
  ok := okN P w e
  mono := fun g ⟨xs, h1, h2, h3⟩ => ⟨xs, h1, fun x hx => Da_mono g (h2 x hx), h3⟩
  nl := fun ⟨xs, _, _, _, z⟩ q => by rw [z] at q; cases q
  nt := fun ⟨xs, _, _, _, z⟩ q => by rw [z] at q; cases q
  new := fun {h} hb => ⟨_, fun Hs => ⟨[], rfl, fun x hx => absurd hx (by simp), beq_eq_false_iff_ne.mpr (Ne.symm (Nat.ne_of_lt hb)), rfl⟩, fun H => extN_ok ⟨_, #[], 0, Heap.get?_push_size _ rfl, ⟨rfl, rfl, rfl⟩, rfl, rfl, List.nodup_nil⟩⟩
  set := fun {Y pins σ Hs H s E D o ks a y v u r Q} hP hw hu I hD hok hs hy ry rv hl hQ => by
    subst hP hw
    obtain ⟨xs, hks, hx, hsm, rfl⟩ := hok
    obtain ⟨b, rfl⟩ : ∃ b, y = .ref b := by
      obtain ⟨ds, hds⟩ := hT a
      rw [hds] at hy
      obtain ⟨b, _, e1, _⟩ := hy.tupV
      exact ⟨b, e1⟩
    obtain rfl : u = Value.ref b := ry
    have hm := okN_at K I hs hD hx
    have hlen : xs.length = ks.length := by rw [← hks, List.length_map]
    refine wpAny_dictSet_heap (knd := nestedKind Y.prog Y.w) (show Y.A.units + 8 < cLine by omega) (isKey K I (Da_mono hs hy)) hm (fun h' hm' sb => ?_) (by rw [List.length_map, hlen]; exact Nat.le_of_lt (Nat.lt_of_le_of_lt hl (by decide)))
    rw [putN_stored K] at hm'
    obtain ⟨o, es, ep, h1, h2, h3, h4, _, h5⟩ := hm'
    refine hQ _ (.ext (EntN Y.prog Y.w D ((putN xs a b r).map (fN e)))) (d_write I (by rw [hD]; exact True.intro) sb ⟨o, h1⟩ (extN_ok ⟨o, es, ep, h1, h2, h3, h4, h5⟩)) ⟨_, by rw [putN_keys, hks], fun x hxm => ?_, hsm, rfl⟩
    rcases putN_mem hxm with ⟨z, hz, e1, e2⟩ | ⟨e1, e2⟩
    · rw [← e1, ← e2]
      exact hx z hz
    · rw [e1, e2]
      exact hy
  setI := fun {Y pins σ Hs H s E D o ks a y v u r Q} hP hw hu I hD hok hs hy ry rv hl hQ => by
    subst hP hw
    obtain ⟨xs, hks, hx, hsm, rfl⟩ := hok
    obtain ⟨b, rfl⟩ : ∃ b, y = .ref b := by
      obtain ⟨ds, hds⟩ := hT a
      rw [hds] at hy
      obtain ⟨b, _, e1, _⟩ := hy.tupV
      exact ⟨b, e1⟩
    obtain rfl : u = Value.ref b := ry
    have hm := okN_at K I hs hD hx
    have hlen : xs.length = ks.length := by rw [← hks, List.length_map]
    refine wpAny_setItem_heap (knd := nestedKind Y.prog Y.w) (show Y.A.units + 1 + 8 < cLine by omega) (isKey K I (Da_mono hs hy)) hm (fun h' hm' sb => ?_) (by rw [List.length_map, hlen]; exact Nat.le_of_lt (Nat.lt_of_le_of_lt hl (by decide)))
    rw [putN_stored K] at hm'
    obtain ⟨o, es, ep, h1, h2, h3, h4, _, h5⟩ := hm'
    refine hQ _ (.ext (EntN Y.prog Y.w D ((putN xs a b r).map (fN e)))) (d_write I (by rw [hD]; exact True.intro) sb ⟨o, h1⟩ (extN_ok ⟨o, es, ep, h1, h2, h3, h4, h5⟩)) ⟨_, by rw [putN_keys, hks], fun x hxm => ?_, hsm, rfl⟩
    rcases putN_mem hxm with ⟨z, hz, e1, e2⟩ | ⟨e1, e2⟩
    · rw [← e1, ← e2]
      exact hx z hz
    · rw [e1, e2]
      exact hy
end
end K28

set_option Elab.async false
set_option linter.all false
set_option maxRecDepth 100000
set_option maxHeartbeats 4000000
namespace K28
open PySem PySem.Spec PyProof.Rows L2
/-! {key: value for target in iter}, by a kind of dict -/
section
variable {X : Cx}
def tDk {α : Type} [DecidableEq α] {P : Program} {w : World} (kd : DKd P w α) (wi : TI) (g : TG) (tt : TT) (tk tv : TE) (vs : List Nat) : TE := fun σ H Q => wi σ H fun J H1 => ∀ D o, H1 D = none → (∀ Hs, kd.ok [] Hs D o) → ∃ W : Nat → Nat → Hp → Prop, (∃ m, W 0 m (upd H1 D o)) ∧ ∀ i m H, W i m H →
  (J.stop i H ∧ Q (.ref D) H) ∨ (J.go i H ∧ ∃ Nx : Hp → Prop, (∀ H', Nx H' → ∃ m', m' < m ∧ W (i + 1) m' H') ∧ ∀ x H', J.yld i H x H' → g x (wipe σ vs) H' fun σ2 H2 => wipe σ2 vs = wipe σ vs ∧ tt σ2 H2 fun b H3 =>
    if b = true then tk σ2 H3 fun y H4 => tv σ2 H4 fun z H5 => ∃ o1 Hs ks a, H5 D = some o1 ∧ kd.ok ks Hs D o1 ∧ Ex Hs H5 ∧ Da Hs y (kd.enc a) ∧ ks.length ≤ 1000 ∧ ∀ o2, kd.ok (insA ks a) Hs D o2 → Nx (upd H5 D o2) else Nx H3)
theorem dk_core {α : Type} [DecidableEq α] (kd : DKd X.prog X.w α) (hu : X.A.units + 64 < cLine) {pins : List (Addr × Obj)} {s : Shared} {σ : L2.St} {H : Hp} {Q : VK} {kx vx tg iter : Expr} {ifs : List Expr} {scope : Scope} {own : List (Str × Nat)} {pos pos' : Pos} {wi : TI} {g : TG} {tt : TT} {tk tv : TE} {use : Option (Value → Sem Unit)} {Qf : Value → Shared → Prop}
    (hc : X.calm = true) (hN : X.N.Nodup) (I : Inv X pins σ H s) (hi : PI X tg iter wi) (ok : BlkOk X.N X.env.scope scope own)
    (hg : ∀ (s : Shared) (H : Hp) (C : Addr) (cl : List (Str × Addr)) (fp : List Addr), PG (X.blk s H scope (compEnvC scope cl C X.env) fp) tg g) (ht : ∀ (s : Shared) (H : Hp) (C : Addr) (cl : List (Str × Addr)) (fp : List Addr), PTs (X.blk s H scope (compEnvC scope cl C X.env) fp) ifs tt)
    (hk : ∀ (s : Shared) (H : Hp) (C : Addr) (cl : List (Str × Addr)) (fp : List Addr), PE (X.blk s H scope (compEnvC scope cl C X.env) fp) kx tk)
    (he : ∀ (s : Shared) (H : Hp) (C : Addr) (cl : List (Str × Addr)) (fp : List Addr), PE (X.blk s H scope (compEnvC scope cl C X.env) fp) vx tv) (hs : ∀ x, foldedSetIterable iter X.env x = pure x)
    (h : tDk kd wi g tt tk tv (own.map (·.2)) σ H Q)
    (hRR : ∀ D C s' m H', Inv X pins σ H' s' → Q (.ref D) H' → s'.heap.Ns C m → FpOk X pins H' C → compPost (model X.prog X.w) X.A X.xe use Qf (.ref D) C (.ok .next) s') :
    wpAny (model X.prog X.w) X.A (comprehension (.DictComp kx vx [⟨tg, iter, ifs, 0⟩] scope pos) scope X.env pos' newDict false (eval iter X.env) use) Qf X.xe s := by
  have hfree : ∀ y ∈ scope.names, y.2 = .free → ∃ c, X.env.cells.lookup y.1 = some c := fun y hy e => by
    rcases ok.free y hy e with k | k
    · exact I.ok.has _ (.inl k)
    · exact I.ok.has _ (.inr k)
  refine wpAny_comprehension_free (use := use) rfl hs (closure_ok hfree) ok.kind (fun y hy e => by rw [ok.uniq y hy, e])
    (thn (hi.run pins s σ H _ I h) fun xv s1 hx => thn hx fun itv s2 h2 => ?_)
  obtain ⟨it, fp, tn, J, H2, e, I2, T, st2, f2, q⟩ := h2
  subst e
  refine wpAny_newObj_type (newEnv_comp ?_)
  generalize hD : s2.heap.objs.size = D
  have hDn : H2 D = none := I2.hok.fresh (Nat.le_of_eq hD)
  obtain ⟨o0, ok0, new0⟩ := kd.new I2.big
  rw [hD] at ok0
  obtain ⟨W, ⟨m0, w0⟩, turn⟩ := q D o0 hDn ok0
  -- the new list
  generalize hs3 : ({ s2 with heap := s2.heap.push { cls := .type "dict", data := .dict #[] } } : Shared) = s3
  have I3 : Inv X pins σ (upd H2 D o0) s3 := by
    rw [← hs3]
    refine I2.laid (t' := s2.toks) (fun b o e => Heap.get?_push_of_some _ e) (Nat.le_of_eq hD) ?_
    rw [← hD]
    exact new0 _
  have h3 : s3.heap = s2.heap.push { cls := .type "dict", data := .dict #[] } := by rw [← hs3]
  have sz : ∀ b ∈ fp, b < s2.heap.objs.size := fun b hb => by
    obtain ⟨o, e, _⟩ := T.obj _ _ st2 b hb
    exact Heap.lt_size e
  have f3 : ∀ b ∈ fp, FpOk X pins (upd H2 D o0) b ∧ b < s3.heap.objs.size := fun b hb => by
    have hlt := sz b hb
    refine ⟨⟨?_, (f2 b hb).2⟩, by rw [h3, Heap.size_push]; exact Nat.lt_succ_of_lt hlt⟩
    rw [upd_ne (by rw [← hD]; exact Nat.ne_of_lt hlt)]
    exact (f2 b hb).1
  have st3 : tn 0 s3.heap := T.keep _ _ _ st2 fun b _ o e => by rw [h3]; exact Heap.get?_push_of_some _ e
  have I4 := block_start I3 ok hN f3
  have pg := hg s3 (upd H2 D o0) s3.heap.objs.size (cellsFrom (s3.heap.objs.size + 1) scope.names (cloFrom X.env.cells scope.names [])) fp
  have pt := ht s3 (upd H2 D o0) s3.heap.objs.size (cellsFrom (s3.heap.objs.size + 1) scope.names (cloFrom X.env.cells scope.names [])) fp
  have pk := hk s3 (upd H2 D o0) s3.heap.objs.size (cellsFrom (s3.heap.objs.size + 1) scope.names (cloFrom X.env.cells scope.names [])) fp
  have pe := he s3 (upd H2 D o0) s3.heap.objs.size (cellsFrom (s3.heap.objs.size + 1) scope.names (cloFrom X.env.cells scope.names [])) fp
  show codeAny _ _ (.compStart (.DictComp kx vx [⟨tg, iter, ifs, 0⟩] scope pos) 0 (.ref it) (.ref D) (compEnvC scope (cellsFrom (s3.heap.objs.size + 1) scope.names (cloFrom X.env.cells scope.names [])) s3.heap.objs.size X.env)) (compPost (model X.prog X.w) X.A X.xe use Qf (.ref D) s3.heap.objs.size) { s3 with heap := pushCells (s3.heap.push { cls := .type "dict", data := .dict #[] }) scope.names }
  have nfp : ∀ b ∈ fp, (upd H2 D o0) b = none := fun b hb => (f3 b hb).1.1
  generalize hce : compEnvC scope (cellsFrom (s3.heap.objs.size + 1) scope.names (cloFrom X.env.cells scope.names [])) s3.heap.objs.size X.env = ce at I4 pg pt pk pe ⊢
  have cL : ce.locals = s3.heap.objs.size := by subst hce; rfl
  generalize hH3 : upd H2 D o0 = H3 at I3 I4 pg pt pk pe w0 nfp f3
  generalize hs4 : ({ s3 with heap := pushCells (s3.heap.push { cls := .type "dict", data := .dict #[] }) scope.names } : Shared) = s4 at I4 ⊢
  have st4 : tn 0 s4.heap := T.keep _ _ _ st3 fun b _ o e => by rw [← hs4]; exact pushCells_keeps _ _ _ _ (Heap.get?_push_of_some _ e)
  have stat : ∀ {σ' : L2.St} {H' : Hp} {s' : Shared}, Inv (X.blk s3 H3 scope ce fp) [] σ' H' s' → (∀ b ∈ fp, H' b = none) → ∀ b ∈ fp, FpOk (X.blk s3 H3 scope ce fp) [] H' b := fun {σ' H' s'} I' hn b hb =>
    ⟨hn b hb, (I'.ok.exf b hb).1, I'.ok.exfs b hb, .inl hb, fun x c e => (I'.ok.exf b hb).2 x c e, fun p hp => absurd (show p ∈ ([] : List (Addr × Obj)) ++ [] from hp) (by simp)⟩
  have loop : codeAny (model X.prog X.w) X.A (.compLoop (.DictComp kx vx [⟨tg, iter, ifs, 0⟩] scope pos) 0 (.ref it) (.ref D) ce) (compPost (model X.prog X.w) X.A X.xe use Qf (.ref D) s3.heap.objs.size) s4 := by
    refine compLoop_anyD (fun n s' => ∃ i H', Inv (X.blk s3 H3 scope ce fp) [] (wipe σ (own.map (·.2))) H' s' ∧ tn i s'.heap ∧ (∀ b ∈ fp, H' b = none) ∧ W i n H') ?_ m0 ⟨0, H3, I4, st4, nfp, w0⟩
    rintro n s5 ⟨i, H5, I5, st5, n5, w5⟩
    rcases turn i n H5 w5 with ⟨stop, qq⟩ | ⟨go, Nx, hNx, step⟩
    · have td := T.done (X.blk s3 H3 scope ce fp) rfl rfl rfl hc i [] s5 _ H5 (fun _ _ => False) I5 (stat I5 n5) st5 stop
      refine thnF td fun r s6 ⟨hr, I6⟩ => ?_
      subst hr
      -- back in the def's context
      have I7 : Inv X pins σ H5 s6 := I3.call' (ch := fp) I6.os I6.base I6.hok I6.bare fun b hb => ⟨(f3 b hb).1.2.2.2.1, (f3 b hb).1.2.1, (f3 b hb).1.2.2.2.2.1, (f3 b hb).1.2.2.2.2.2⟩
      have nC : H5 s3.heap.objs.size = none := by
        have z : H5 ce.locals = none := I6.free
        rw [cL] at z
        exact z
      obtain ⟨m, hn, _⟩ := I6.loc
      have hn : s6.heap.Ns ce.locals m := hn
      rw [cL] at hn
      exact hRR D s3.heap.objs.size s6 m H5 I7 qq hn (I3.fpOk (Nat.le_refl _) nC)
    · have ti := T.item (X.blk s3 H3 scope ce fp) rfl rfl rfl hc i [] s5 _ H5 (fun _ _ => False) I5 (stat I5 n5) st5 go
      refine thnF ti fun r s6 ⟨u, hr, h6⟩ => ?_
      subst hr
      refine thnF h6 fun _ s7 ⟨x, H7, I7, r7, y7, st7, n7⟩ => ?_
      have I7' := I7.pinned (stat I7 n7) (T.obj _ _ st7)
      refine thnF (pg.run _ s7 _ H7 x u _ I7' r7 (step x H7 y7)) fun _ s8 ⟨σ8, H8, I8, hw8, q8⟩ => ?_
      refine thnF (pt.run _ s8 σ8 H8 _ I8 q8) fun b s9 ⟨H9, I9, q9⟩ => ?_
      -- the turn's end
      have fin : ∀ {s' : Shared} {H' : Hp}, Inv (X.blk s3 H3 scope ce fp) ([] ++ pinsAt fp s7.heap) σ8 H' s' → Nx H' → ∃ m, m < n ∧ ∃ i H', Inv (X.blk s3 H3 scope ce fp) [] (wipe σ (own.map (·.2))) H' s' ∧ tn i s'.heap ∧ (∀ b ∈ fp, H' b = none) ∧ W i m H' := fun {s' H'} I' nx => by
        obtain ⟨m', hm, w'⟩ := hNx H' nx
        have pin' : ∀ b ∈ fp, ∀ o, s7.heap.get? b = some o → s'.heap.get? b = some o ∧ H' b = none := fun b hb o e =>
          let z := I'.pin (b, o) (List.mem_append_right _ (List.mem_append_right _ (mem_pinsAt hb e)))
          ⟨z.1, z.2.1⟩
        have hl : (wipe σ (own.map (·.2))).length = σ8.length := by rw [← hw8, wipe_length]
        refine ⟨m', hm, i + 1, H', (I'.unpinned (pins := [])).weak hl (fun j v e => ?_), T.keep _ _ _ st7 fun b hb o e => (pin' b hb o e).1, fun b hb => ?_, w'⟩
        · rw [← hw8] at e
          exact (wipe_some e).1
        · obtain ⟨o, e, _⟩ := T.obj _ _ st7 b hb
          exact (pin' b hb o e).2
      cases b with
      | false =>
        simp only [Bool.false_eq_true, if_false] at q9 ⊢
        exact fin I9 q9
      | true =>
        simp only [if_true] at q9 ⊢
        refine thnF (pk.run _ s9 σ8 H9 _ I9 q9) fun z s10 ⟨yk, H10, I10, r10, q10⟩ => ?_
        refine thnF (pe.run _ s10 σ8 H10 _ I10 q10) fun z2 s11 ⟨yv, H11, I11, r11, o1, Hs1, ks1, a1, hD11, hok1, hex1, hda1, hl1, nx⟩ => ?_
        exact kd.set (Y := X.blk s3 H3 scope ce fp) rfl rfl hu I11 hD11 hok1 hex1 hda1 r10 r11 hl1 fun s12 o2 I12 hok2 => fin I12 (nx o2 hok2)
  exact codeAny_compStart_dict loop (T.self X.A 0 _ _ _ st4 loop)

theorem exec_dc {i : Nat} {y : Str} {py : Pos} {kx vx tg iter : Expr} {ifs : List Expr} {scope : Scope} {own : List (Str × Nat)} {pos spos : Pos} {wi : TI} {g : TG} {tt : TT} {tk tv : TE} {α : Type} [DecidableEq α] (kd : DKd X.prog X.w α) (hu : X.A.units + 64 < cLine) (hc : X.calm = true) (hN : X.N.Nodup) (hy : X.N[i]? = some y) (hyl : X.env.scope.names.lookup y = some .local)
    (hsw : swapsWith (.DictComp kx vx [⟨tg, iter, ifs, 0⟩] scope pos) (some (.Name y py)) spos.line X.env = pure true) (hi : PI X tg iter wi) (ok : BlkOk X.N X.env.scope scope own)
    (hg : ∀ (s : Shared) (H : Hp) (C : Addr) (cl : List (Str × Addr)) (fp : List Addr), PG (X.blk s H scope (compEnvC scope cl C X.env) fp) tg g) (ht : ∀ (s : Shared) (H : Hp) (C : Addr) (cl : List (Str × Addr)) (fp : List Addr), PTs (X.blk s H scope (compEnvC scope cl C X.env) fp) ifs tt)
    (hk : ∀ (s : Shared) (H : Hp) (C : Addr) (cl : List (Str × Addr)) (fp : List Addr), PE (X.blk s H scope (compEnvC scope cl C X.env) fp) kx tk)
    (he : ∀ (s : Shared) (H : Hp) (C : Addr) (cl : List (Str × Addr)) (fp : List Addr), PE (X.blk s H scope (compEnvC scope cl C X.env) fp) vx tv) (hs : ∀ x, foldedSetIterable iter X.env x = pure x := by intro _; rfl) :
    PS X (.Assign [.Name y py] (.DictComp kx vx [⟨tg, iter, ifs, 0⟩] scope pos) spos) (tAsg (tDk kd wi g tt tk tv (own.map (·.2))) (gName i)) := by
  refine ⟨fun pins s σ H D I h => ?_⟩
  rw [exec_Assign_Name_used _ _ _ _ hsw]
  refine wpAny_bind (wpAny_standAt (wpAny_bind ?_))
  show wpAny _ X.A (do let _ ← comprehension (.DictComp kx vx [⟨tg, iter, ifs, 0⟩] scope pos) scope X.env (firstIterPos [⟨tg, iter, ifs, 0⟩] pos) newDict false (eval iter X.env) (some (assign (.Name y py) X.env))) _ _ s
  have h : tDk kd wi g tt tk tv (own.map (·.2)) σ H (fun x H1 => gName i x σ H1 D.nx) := h
  refine wpAny_bind (thn (dk_core kd hu (Qf := fun _ s' => SP X pins D .next s') hc hN I hi ok hg ht hk he hs h fun L C s' m H' I' q hn f => ?_) fun _ s' hq => wpAny_pure (wpAny_pure hq))
  show wpAny _ _ (assign (.Name y py) X.env (.ref L)) _ _ _
  refine wpAny_assign_Name (store_ok2 (v := V.ref L) I' hN hy (.inl hyl) rfl (fun s2 I2 ⟨a, sb, ha⟩ => ?_) (.inr hyl))
  obtain ⟨f0, f1, f2, f3, f4, f5⟩ := f
  have haC : C ≠ a := by
    rcases ha with z | z
    · rw [z]; exact f1
    · exact fun e => f4 y a z e.symm
  refine ⟨m, hn.sameBut sb haC, fun h3 sb3 => ?_⟩
  exact ⟨_, H', I2.turned (t' := s2.toks) (fun b o hb e => (sb3.2 b hb).trans e) f0 f1 f3 f4 f5, q⟩
end
end K28

set_option Elab.async false
set_option linter.all false
set_option maxRecDepth 100000
set_option maxHeartbeats 4000000
namespace K28
open PySem PySem.Spec PyProof.Rows L2

/-! ### dicts in a def -/
/-- the heap without the object at D -/
def del (H : Hp) (D : Addr) : Hp := fun a => if a = D then none else H a
theorem del_self {H : Hp} {D : Addr} : del H D D = none := if_pos rfl
theorem upd_del {H : Hp} {D : Addr} {o : HO} (h : H D = some o) : upd (del H D) D o = H := by
  funext a
  by_cases e : a = D
  · subst e
    rw [upd_same, h]
  · rw [upd_ne e]
    exact if_neg e
theorem Grow.del {Hs H Hs' H' : Hp} {D : Addr} (g : Grow Hs H Hs' H') (h : H D = none) (hs : Hs' D = none) : Grow Hs H Hs' (del H' D) := by
  have key : ∀ {H1 : Hp}, H1 D = none → Ex H1 H' → Ex H1 (K28.del H' D) := fun {H1} hn e a u q => by
    have ha : a ≠ D := ne_of_none q hn
    have e1 : K28.del H' D a = H' a := if_neg ha
    rw [e1]
    exact e a u q
  exact ⟨g.base, key h g.heap, key hs g.sub, g.own⟩
section
variable {X : Cx} {T : Tx} {H0s H0 : Hp} {δ : List Ent} {kx vx tg iter e : Expr} {scope : Scope} {own : List (Str × Nat)} {pos spos p : Pos} {g : TG} {ι α : Type} [DecidableEq α]
theorem ddp_take {ka : ι → α} {ys : List ι} {i : Nat} {y : ι} (h : ys[i]? = some y) : ddp ((ys.take (i + 1)).map ka) = insA (ddp ((ys.take i).map ka)) (ka y) := by
  unfold ddp
  rw [List.take_add_one, h, List.map_append, List.foldl_append]
  rfl
theorem ddp_len : ∀ xs : List α, (ddp xs).length ≤ xs.length := fun xs => by
  unfold ddp
  have key : ∀ (xs acc : List α), (xs.foldl insA acc).length ≤ acc.length + xs.length := fun xs => by
    induction xs with
    | nil => intro acc; exact Nat.le_refl _
    | cons x xs ih =>
      intro acc
      have h1 := ih (insA acc x)
      have h2 := insA_len acc x
      rw [List.foldl_cons, List.length_cons]
      omega
  have := key xs []
  simpa using this
/-- name = {key: value for target in iter} -/
theorem pds_dk (i : Nat) {y : Str} {py : Pos} {P : Program} {w : World} (kd : DKd P w α) (ys : List ι) (enc : ι → PyData) (δx : ι → List Ent) (ka : ι → α) {ks : List α} (hks : ddp (ys.map ka) = ks) {x : PyData} (hu : X.A.units + 64 < cLine) (hc : X.calm = true) (hN : X.N.Nodup) (hi : PI X tg iter (piD T δ (ys.map enc))) (hl : ys.length ≤ 1000) (ok : BlkOk X.N X.env.scope scope own)
    (hg : ∀ (s : Shared) (H : Hp) (C : Addr) (cl : List (Str × Addr)) (fp : List Addr), PG (X.blk s H scope (compEnvC scope cl C X.env) fp) tg g)
    (htg : ∀ y ∈ ys, TgD g (enc y) (wipeD δ (own.map (·.2))) (δx y) (own.map (·.2)))
    (hk : ∀ (s : Shared) (H : Hp) (C : Addr) (cl : List (Str × Addr)) (fp : List Addr), ∀ y ∈ ys, PE (X.blk s H scope (compEnvC scope cl C X.env) fp) kx (tD T (δx y) (kd.enc (ka y))))
    (he : ∀ (s : Shared) (H : Hp) (C : Addr) (cl : List (Str × Addr)) (fp : List Addr), ∀ y ∈ ys, PE (X.blk s H scope (compEnvC scope cl C X.env) fp) vx (tD T (δx y) x))
    (hy : X.N[i]? = some y := by rfl) (hyl : X.env.scope.names.lookup y = some .local := by rfl) (hsw : swapsWith (.DictComp kx vx [⟨tg, iter, [], 0⟩] scope pos) (some (.Name y py)) spos.line X.env = pure true := by rfl)
    (hs : ∀ x, foldedSetIterable iter X.env x = pure x := by intro _; rfl) (hP : X.prog = P := by rfl) (hw : X.w = w := by rfl) :
    PS X (.Assign [.Name y py] (.DictComp kx vx [⟨tg, iter, [], 0⟩] scope pos) spos) (tS T H0s H0 δ (.nx (δ.set i (.dct (kd.dct ks))))) := by
  subst hks
  subst hP
  subst hw
  refine ps_imp (exec_dc (g := g) (own := own) (tt := fun σ H Q => ∃ y, y ∈ ys ∧ tDT T (δx y) true σ H Q) (tk := fun σ H Q => ∃ y, y ∈ ys ∧ tD T (δx y) (kd.enc (ka y)) σ H Q) (tv := fun σ H Q => ∃ y, y ∈ ys ∧ tD T (δx y) x σ H Q) kd hu hc hN hy hyl hsw hi ok hg
    (fun s H C cl fp => ⟨fun pins s σ H Q I ⟨y, _, q⟩ => pts_no.run pins s σ H Q I q⟩) (fun s H C cl fp => ⟨fun pins s σ H Q I ⟨y, hy, q⟩ => (hk _ _ _ _ _ y hy).run pins s σ H Q I q⟩) (fun s H C cl fp => ⟨fun pins s σ H Q I ⟨y, hy, q⟩ => (he _ _ _ _ _ y hy).run pins s σ H Q I q⟩) hs) fun D σ H ⟨Hs, b, kk⟩ => ?_
  refine ⟨Hs, b.at, fun J H1s H1 g1 src Dd o0 hD ok0 => ?_⟩
  have hDs := g1.sub.back hD
  have b1 := b.mono g1
  refine ⟨fun i m H' => m = ys.length - i ∧ i ≤ ys.length ∧ ∃ His o, Grow H1s H1 His H' ∧ His Dd = none ∧ H' Dd = some o ∧ kd.ok (ddp ((ys.take i).map ka)) His Dd o,
    ⟨ys.length, by simp, Nat.zero_le _, H1s, o0, .up g1.sub (.new hD), hDs, upd_same, ok0 _⟩, ?_⟩
  rintro n m H2 ⟨rfl, hn, H2s, o2, g2, d1, d2, d3⟩
  obtain ⟨sgo, sst, sy⟩ := src H2s H2 g2.base g2.sub
  rw [List.length_map] at sgo sst sy
  by_cases hlt : n < ys.length
  · refine .inr ⟨sgo n hlt, fun H' => ∃ m', m' < ys.length - n ∧ (m' = ys.length - (n + 1) ∧ n + 1 ≤ ys.length ∧ ∃ His o, Grow H1s H1 His H' ∧ His Dd = none ∧ H' Dd = some o ∧ kd.ok (ddp ((ys.take (n + 1)).map ka)) His Dd o), fun H' q => q, fun v H3 y3 => ?_⟩
    obtain ⟨d, H3s, e1, g3, e3⟩ := sy n v H3 hlt y3
    rw [List.getElem?_map, List.getElem?_eq_getElem hlt] at e1
    have e1 : enc ys[n] = d := Option.some.inj e1
    subst e1
    have hm : ys[n] ∈ ys := List.getElem_mem hlt
    have hy : ys[n]? = some ys[n] := List.getElem?_eq_getElem hlt
    generalize ys[n] = yn at hm e3 hy
    have a3 := (b1.at.mono g2).mono g3
    refine htg yn hm H3s H3 _ v _ g3.sub (a3.env.wipe _) e3 fun σ2 env2 hs2 hl2 => ⟨wipe_same hl2 hs2, yn, hm, H3s, ⟨g3.sub, env2, a3.tabs⟩, fun H4s H4 g4 => iteT ⟨yn, hm, H4s, ⟨g4.sub, env2.mono g4, a3.tabs.mono g4⟩, fun kv H5s H5 g5 e5 => ⟨yn, hm, H5s, ⟨g5.sub, (env2.mono g4).mono g5, (a3.tabs.mono g4).mono g5⟩, fun vv H6s H6 g6 e6 => ?_⟩⟩⟩
    have nt : ∀ ps, o2 ≠ .tbl ps := fun _ => kd.nt d3
    have D6 : H6s Dd = none := g6.own Dd (g5.own Dd (g4.own Dd (g3.own Dd d1 (by rw [d2]; simp)) (g3.heap.isSome (by rw [d2]; simp))) (g4.heap.isSome (g3.heap.isSome (by rw [d2]; simp)))) (g5.heap.isSome (g4.heap.isSome (g3.heap.isSome (by rw [d2]; simp))))
    have G6 := (((g2.trans g3).trans g4).trans g5).trans g6
    have hl2 := ddp_len ((ys.take n).map ka)
    rw [List.length_map, List.length_take] at hl2
    refine ⟨o2, H6s, ddp ((ys.take n).map ka), ka yn, g6.heap.get (g5.heap.get (g4.heap.get (g3.heap.get d2 nt) nt) nt) nt, kd.mono (((g3.base.trans g4.base).trans g5.base).trans g6.base) d3, g6.sub, Da_mono g6.base e5, by omega, fun o3 h3 => ⟨_, by omega, rfl, hlt, H6s, o3, ⟨G6.base, G6.heap.newR hD, G6.sub.newR D6, G6.own⟩, D6, upd_same, ?_⟩⟩
    rw [ddp_take hy]
    exact h3
  · have en : n = ys.length := by omega
    subst en
    refine .inl ⟨sst _ rfl, ?_⟩
    rw [List.take_length] at d3
    have b2 := (b1.mono (g2.del hD d1)).lay (i := i) (x := .dct (kd.dct (ddp (ys.map ka)))) (o := o2) del_self d3
    rw [upd_del d2] at b2
    exact kk _ H2s _ (g1.base.trans g2.base) b2
end
end K28

set_option Elab.async false
set_option linter.all false
set_option maxRecDepth 100000
set_option maxHeartbeats 4000000
namespace K28
open PySem PySem.Spec PyProof.Rows L2

section
variable {X : Cx} {T : Tx} {H0s H0 : Hp} {δ : List Ent} {kx vx e : Expr} {pos p p1 p2 : Pos} {α : Type} [DecidableEq α]
/-- the only dict -/
def onlyD (i : Nat) : Nat → List Ent → Prop
  | _, [] => True
  | j, .dct _ :: r => j = i ∧ onlyD i (j + 1) r
  | j, .no :: r => onlyD i (j + 1) r
  | j, .d _ :: r => onlyD i (j + 1) r
  | j, .own _ :: r => onlyD i (j + 1) r
theorem onlyD_get {i : Nat} : ∀ {δ : List Ent} {j : Nat}, onlyD i j δ → ∀ (n : Nat) D, δ[n]? = some (.dct D) → j + n = i
  | [], _, _, n, D, h => by simp at h
  | x :: r, j, f, 0, D, h => by
    have h : x = .dct D := by simpa using h
    subst h
    exact f.1
  | x :: r, j, f, n + 1, D, h => by
    have f2 : onlyD i (j + 1) r := by
      cases x with
      | no => exact f
      | d x => exact f
      | own xs => exact f
      | dct D => exact f.2
    have := onlyD_get f2 n D (by simpa using h)
    omega
theorem oneD_of {δ : List Ent} {i : Nat} (h : onlyD i 0 δ) : OneD δ i := fun j D q => by
  have := onlyD_get h j D q
  omega
/-- the stored pair -/
def setDk {P : Program} {w : World} (kd : DKd P w α) : TSet := fun o i v H Q => ∃ D o1 Hs ks a, o = .ref D ∧ H D = some o1 ∧ kd.ok ks Hs D o1 ∧ Ex Hs H ∧ Da Hs i (kd.enc a) ∧ ks.length ≤ 1000 ∧ ∀ o2, kd.ok (insA ks a) Hs D o2 → Q (upd H D o2)
theorem set_dk (kd : DKd X.prog X.w α) (hu : X.A.units + 64 < cLine) : PSet X (setDk kd) := by
  intro pins s σ H o i v ov iv u Q I ro ri rv h
  obtain ⟨D, o1, Hs, ks, a, rfl, h1, h2, h3, h4, h5, h6⟩ := h
  obtain rfl : ov = Value.ref D := ro
  exact kd.setI rfl rfl hu I h1 h2 h3 h4 ri rv h5 fun s' o' I' ok' => ⟨_, I', h6 o' ok'⟩
/-- d[k] = v, d a dict of the def's own -/
theorem pds_put (i : Nat) {s : Str} {P : Program} {w : World} (kd : DKd P w α) {ks : List α} {a : α} {x : PyData} (hu : X.A.units + 64 < cLine) (hδ : δ[i]? = some (.dct (kd.dct ks))) (h1 : OneD δ i) (hv : PE X vx (tD T δ x)) (hk : PE X kx (tD T δ (kd.enc a))) (hl : ks.length ≤ 1000) (hi : X.N[i]? = some s := by rfl)
    (hvs : Vis X.env.scope s := by first | exact Or.inl rfl | exact Or.inr (Or.inl rfl) | exact Or.inr (Or.inr rfl)) (hd : (s == ("__debug__" : Str)) = false := by decide) (hcd : (s == ("__classdict__" : Str)) = false := by decide)
    (ha : ∀ v, assign (.Subscript (.Name s p1) kx p) X.env v = (do
      let ov ← holding [v] (eval (.Name s p1) X.env)
      let iv ← holding [v, ov] (eval kx X.env)
      standAt p
      holding [v, ov, iv] (setItem ov iv v)
      release [v, ov, iv] []) := by intro _; rfl)
    (hs : swapsWithSole [.Subscript (.Name s p1) kx p] vx pos.line X.env = pure false := by rfl) (hw : swappedStores [.Subscript (.Name s p1) kx p] vx X.env = pure none := by rfl)
    (hass : (assignEach [.Subscript (.Name s p1) kx p] X.env).map (·.2) = [assign (.Subscript (.Name s p1) kx p) X.env] := by rfl) (hP : X.prog = P := by rfl) (hw2 : X.w = w := by rfl) :
    PS X (.Assign [.Subscript (.Name s p1) kx p] vx pos) (tS T H0s H0 δ (.nx (δ.set i (.dct (kd.dct (insA ks a)))))) := by
  subst hP
  subst hw2
  exact ps_imp (ps_asg hv (pg_sub (pe_var hi hvs hd hcd) hk (set_dk kd hu) ha) hs hw hass) fun D σ H ⟨Hs, b, k⟩ => ⟨Hs, b.at, fun v H1s H1 g1 d1 => by
    have b1 := b.mono g1
    obtain ⟨q, o, z1, z2, z3, z4⟩ := b1.env.dct i _ hδ
    refine ⟨_, z1, H1s, b1.at, fun kv H2s H2 g2 d2 => ?_⟩
    have b2 := b1.mono g2
    have z4' : kd.ok ks H2s q o := kd.mono g2.base z4
    refine ⟨q, o, H2s, ks, a, rfl, g2.heap.get z3 (fun _ => kd.nt z4), z4', g2.sub, d2, hl, fun o2 hok => ?_⟩
    exact k _ H2s _ (g1.base.trans g2.base) (b2.rewrite hδ z1 (.inr ⟨⟨_, _, rfl, rfl⟩, h1⟩) hok)⟩
/-! whole numbers: sorted(d) -/
theorem rel_int (x y : Nat) : ((x : Int) ≤ (y : Int)) ↔ x ≤ y := by omega
theorem sorted_nat {ys : List Int} {ks : List Nat} (hp : ys.Perm (ks.map fun n => ((n : Nat) : Int))) (hs : ys.Pairwise (· ≤ ·)) : ys = (isort ltN ks).map fun n => ((n : Nat) : Int) := by
  have li : Lin (fun x y : Int => decide (x < y)) := ⟨fun x => by simp, fun x y z a b => by simp at *; omega, fun x y h => by simp; omega⟩
  refine sorted_uniq li (hs.imp fun {a b} h => by simp; omega) ?_ (hp.trans ((isort_perm ks).map _).symm)
  rw [List.pairwise_map]
  refine (isort_sorted lin_N ks).imp fun {a b} h => ?_
  unfold ltN at h
  simp at h ⊢
  omega
theorem pd_sortedI (i : Nat) {s : Str} {P : Program} {w : World} {ks : List Nat} (hc : X.calm = true) (hδ : δ[i]? = some (.dct ((kdI P w).dct ks))) (hl : ks.length < 64) (hm : X.mg "sorted" = none) (hg : Gl X "sorted" := by rfl) (hi : X.N[i]? = some s := by rfl)
    (hvs : Vis X.env.scope s := by first | exact Or.inl rfl | exact Or.inr (Or.inl rfl) | exact Or.inr (Or.inr rfl)) (hd : (s == ("__debug__" : Str)) = false := by decide) (hcd : (s == ("__classdict__" : Str)) = false := by decide)
    (he : starEach [.Name s p1] X.env = (false, eval (.Name s p1) X.env) :: starEach [] X.env := by rfl) : PE X (.Call (.Name "sorted" p) [.Name s p1] [] pos) (tD T δ (listD nD (isort ltN ks))) :=
  pe_imp (pe_callB (call_sortedDI hc) hg hm boot_sorted (pa_cons (pe_var hi hvs hd hcd) pa_nil he) (he := he)) fun σ H Q ⟨Hs, at_, k⟩ => by
    obtain ⟨q, o, z1, z2, z3, kvs, rfl, hk⟩ := at_.env.dct i _ hδ
    refine ⟨_, z1, q, kvs, ks.map fun n => ((n : Nat) : Int), rfl, .inl z3, ?_, by rw [List.length_map]; exact hl, fun ys l hp hs hln => ?_⟩
    · rw [hk, List.map_map]
      rfl
    · rw [sorted_nat hp hs]
      refine k _ _ _ (.new at_.sub hln) (.lst upd_same ?_)
      rw [List.map_map]
      have := DaAll.ints (H := upd Hs l (.lst ((isort ltN ks).map (V.int ∘ fun n => ((n : Nat) : Int))))) (ns := (isort ltN ks).map fun n => ((n : Nat) : Int))
      rw [List.map_map, ← map_nD] at this
      exact this
/-! tuples: len(d), k not in d, list(d) -/
section
variable {en : α → PyData} {k : Nat} (K : KEnc en k) (hT : ∀ x, ∃ ds, en x = .tuple ds)
include K in
theorem call_lenN : CallR X (.builtin "len") (fun xs H Q => ∃ D o Hs ks, xs = [.ref D] ∧ H D = some o ∧ okN X.prog X.w en ks Hs D o ∧ Ex Hs H ∧ ks.length ≤ 1000 ∧ Q (.int ((ks.length : Nat) : Int)) H) := by
  intro pins s σ H xs us Q I r h
  obtain ⟨D, o, Hs, ks, rfl, h1, ⟨ys, hks, hx, hsm, rfl⟩, h3, h4, q⟩ := h
  obtain ⟨u, rfl, rx⟩ := vals1 r
  obtain rfl : u = .ref D := rx
  have hm := okN_at K I h3 h1 hx
  have e : (ys.map (fN en)).length = ks.length := by rw [List.length_map, ← hks, List.length_map]
  refine call_len_dictH hsm hm (by rw [e]; omega) ?_
  rw [e]
  exact ⟨.int _, H, I.tok _, ⟨_, rfl⟩, q⟩
include K hT in
theorem pd_lenN (i : Nat) {s : Str} {P : Program} {w : World} {ks : List α} (hδ : δ[i]? = some (.dct ((kdN P w K hT).dct ks))) (hl : ks.length ≤ 1000) (hm : X.mg "len" = none) (hg : Gl X "len" := by rfl) (hi : X.N[i]? = some s := by rfl)
    (hvs : Vis X.env.scope s := by first | exact Or.inl rfl | exact Or.inr (Or.inl rfl) | exact Or.inr (Or.inr rfl)) (hd : (s == ("__debug__" : Str)) = false := by decide) (hcd : (s == ("__classdict__" : Str)) = false := by decide)
    (he : starEach [.Name s p1] X.env = (false, eval (.Name s p1) X.env) :: starEach [] X.env := by rfl) (hP : X.prog = P := by rfl) (hw : X.w = w := by rfl) : PE X (.Call (.Name "len" p) [.Name s p1] [] pos) (tD T δ (nD ks.length)) := by
  subst hP
  subst hw
  exact pe_imp (pe_callB (call_lenN K) hg hm boot_len (pa_cons (pe_var hi hvs hd hcd) pa_nil he) (he := he)) fun σ H Q ⟨Hs, at_, k⟩ => by
    obtain ⟨q, o, z1, z2, z3, z4⟩ := at_.env.dct i _ hδ
    exact ⟨_, z1, q, o, Hs, ks, rfl, z3, z4, at_.sub, hl, k _ Hs H (.refl at_.sub) (.int _)⟩
include K in
theorem memN (xs : List (α × Addr × Value)) (a : α) : (atKey (xs.map (fN en)) (nk (en a))).isSome = memB a (xs.map (·.1)) := atKey_fN K a xs
include K in
theorem op_notInN (hu : X.A.units + 64 < cLine) (hT : ∀ x, ∃ ds, en x = .tuple ds) : OpR X (compareOp .NotIn) (fun x y H Q => ∃ D o Hs ks a, y = .ref D ∧ H D = some o ∧ okN X.prog X.w en ks Hs D o ∧ Ex Hs H ∧ Da Hs x (en a) ∧ Q (.bl (!memB a ks)) H) := by
  intro pins s σ H x y v u Q I rx ry h
  obtain ⟨D, o, Hs, ks, a, rfl, h1, ⟨ys, hks, hx, hsm, rfl⟩, h3, h4, q⟩ := h
  obtain rfl : u = .ref D := ry
  obtain ⟨b, rfl⟩ : ∃ b, x = .ref b := by
    obtain ⟨ds, hds⟩ := hT a
    rw [hds] at h4
    obtain ⟨b, _, e1, _⟩ := h4.tupV
    exact ⟨b, e1⟩
  obtain rfl : v = .ref b := rx
  have hm := okN_at K I h3 h1 hx
  refine notIn_keyed (knd := nestedKind X.prog X.w) (kvs := pairsH (ys.map (fN en))) (show X.A.units + 1 + 8 < cLine by omega) (isKey K I (Da_mono h3 h4)) hsm ⟨_, hm, rfl⟩ ?_
  rw [valueAt_pairsH, Option.isSome_map, atKey_fN K, hks]
  exact ⟨.bl _, H, I.tok _, rfl, q⟩
theorem kdl_raw {prog : Program} {w : World} {d : Addr} {es : Array DictEntry} {ep : Nat} (lo : (d == sysModules) = false) : PySem.W.KdlSrc prog w "dict" d d es.size (fun i v => ∃ hi : i < es.size, v = es[i].key) (fun h => h.DictRaw d es ep) where
  type := fun _ hm => hm.typeIs
  there := fun _ ⟨_, ho, _⟩ => ⟨Heap.lt_size ho, Heap.lt_size ho⟩
  keep := fun _ _ hm hk => hm.at fun o e => hk d (.inl rfl) o e
  notList := by decide
  notTuple := by decide
  hint := fun _ _ _ _ hm hq => PySem.W.kdl_hint_dict hm.typeIs hq
  iter := fun _ s hh hm => ⟨_, _, (fun _ _ hq => wpAny_pyIter_dict_raw lo hm hq), Walks.rawKeys hh _ d (Nat.ne_of_lt (let ⟨_, ho, _⟩ := hm; Heap.lt_size ho)) es ep, ⟨⟨_, Heap.get?_push_size _ rfl, rfl, rfl⟩, hm.at fun o e => Heap.get?_push_of_some _ e⟩⟩
theorem vals_refs : ∀ ys : List (α × Addr × Value), Vals (ys.map fun y => V.ref y.2.1) (ys.map fun y => Value.ref y.2.1)
  | [] => .nil
  | _ :: ys => .cons rfl (vals_refs ys)
theorem da_refs {Hs : Hp} : ∀ ys : List (α × Addr × Value), (∀ x ∈ ys, Da Hs (.ref x.2.1) (en x.1)) → DaAll Hs (ys.map fun y => V.ref y.2.1) ((ys.map (·.1)).map en)
  | [], _ => .nil
  | y :: ys, h => .cons (h y List.mem_cons_self) (da_refs ys fun x hx => h x (List.mem_cons_of_mem _ hx))
include K in
theorem call_listN (hc : X.calm = true) : CallR X (.type "list") (fun xs H Q => ∃ D o Hs ks, xs = [.ref D] ∧ H D = some o ∧ okN X.prog X.w en ks Hs D o ∧ Ex Hs H ∧ ks.length ≤ 1000 ∧ ∀ vs p, DaAll Hs vs (ks.map en) → H p = none → Q (.ref p) (upd H p (.lst vs))) := by
  intro pins s σ H xs us Q I r h
  obtain ⟨D, o, Hs, ks, rfl, h1, ⟨ys, hks, hx, hsm, rfl⟩, h3, h4, q⟩ := h
  obtain ⟨u, rfl, rx⟩ := vals1 r
  obtain rfl : u = .ref D := rx
  have hm := okN_at K I h3 h1 hx
  have el : ys.length = ks.length := by rw [← hks, List.length_map]
  obtain ⟨es, ep, hraw, hsz, hat⟩ := hm.raw
  rw [List.length_map] at hsz
  refine PySem.W.kdl_call (kdl_raw (d := D) (es := es) (ep := ep) hsm) (I.ok.hd hc) hraw (by rw [hsz, el]; exact Nat.le_of_lt (Nat.lt_of_le_of_lt h4 (by decide))) fun h' tk acc c' hk hD hacc => ?_
  have hv : Vals (ys.map fun y => V.ref y.2.1) acc.toList := by
    have e1 : acc.toList = ys.map fun y => Value.ref y.2.1 := by
      refine List.ext_getElem? fun i => ?_
      by_cases hi : i < es.size
      · have hi2 : i < acc.size := by rw [hacc.1]; exact hi
        obtain ⟨_, hk1⟩ := hacc.2 i acc[i] (Array.getElem?_eq_getElem hi2)
        obtain ⟨y, hy, hy1, _⟩ := hat i hi
        rw [List.getElem?_map] at hy
        rw [Array.getElem?_toList, Array.getElem?_eq_getElem hi2, hk1, hy1, List.getElem?_map]
        cases q9 : ys[i]? with
        | none => rw [q9] at hy; cases hy
        | some z =>
          rw [q9] at hy
          cases hy
          rfl
      · rw [Array.getElem?_toList, Array.getElem?_eq_none (by rw [hacc.1]; omega), List.getElem?_map, List.getElem?_eq_none (by rw [← hsz]; omega)]
        rfl
    rw [e1]
    exact vals_refs ys
  have hd : DaAll Hs (ys.map fun y => V.ref y.2.1) (ks.map en) := by
    rw [← hks]
    exact da_refs ys hx
  refine ⟨.ref s.heap.objs.size, upd H s.heap.objs.size (.lst (ys.map fun y => V.ref y.2.1)), I.laid (t' := tk) hk (Nat.le_refl _) ⟨?_, acc.toList, c', hv, by rw [Array.toArray_toList]; exact hD⟩, rfl, q _ _ hd (I.hok.fresh (Nat.le_refl _))⟩
  rw [List.length_map, el]
  exact Nat.le_of_lt (Nat.lt_of_le_of_lt h4 (by decide))
include K hT in
theorem pd_listN (i : Nat) {s : Str} {P : Program} {w : World} {ks : List α} (hc : X.calm = true) (hδ : δ[i]? = some (.dct ((kdN P w K hT).dct ks))) (hl : ks.length ≤ 1000) (hm : X.mg "list" = none) (hg : Gl X "list" := by rfl) (hi : X.N[i]? = some s := by rfl)
    (hvs : Vis X.env.scope s := by first | exact Or.inl rfl | exact Or.inr (Or.inl rfl) | exact Or.inr (Or.inr rfl)) (hd : (s == ("__debug__" : Str)) = false := by decide) (hcd : (s == ("__classdict__" : Str)) = false := by decide)
    (he : starEach [.Name s p1] X.env = (false, eval (.Name s p1) X.env) :: starEach [] X.env := by rfl) (hP : X.prog = P := by rfl) (hw : X.w = w := by rfl) : PE X (.Call (.Name "list" p) [.Name s p1] [] pos) (tD T δ (listD en ks)) := by
  subst hP
  subst hw
  exact pe_imp (pe_callTy (call_listN K hc) hg hm boot_list (pa_cons (pe_var hi hvs hd hcd) pa_nil he) (he := he)) fun σ H Q ⟨Hs, at_, k⟩ => by
    obtain ⟨q, o, z1, z2, z3, z4⟩ := at_.env.dct i _ hδ
    exact ⟨_, z1, q, o, Hs, ks, rfl, z3, z4, at_.sub, hl, fun vs l hv hln => k _ _ _ (.new at_.sub hln) (.lst upd_same (DaAll_mono (.new (at_.sub.back hln)) hv))⟩
/-! k not in d, as a test -/
include K hT in
theorem pdt_notInN (i : Nat) {s : Str} {P : Program} {w : World} {ks : List α} {a : α} (hu : X.A.units + 64 < cLine) (hδ : δ[i]? = some (.dct ((kdN P w K hT).dct ks))) (hk : PE X e (tD T δ (en a))) (hi : X.N[i]? = some s := by rfl)
    (hvs : Vis X.env.scope s := by first | exact Or.inl rfl | exact Or.inr (Or.inl rfl) | exact Or.inr (Or.inr rfl)) (hd : (s == ("__debug__" : Str)) = false := by decide) (hcd : (s == ("__classdict__" : Str)) = false := by decide)
    (hb : behindInMarks .NotIn (.Name s p1) = false := by rfl) (hP : X.prog = P := by rfl) (hw : X.w = w := by rfl) : PT X (.Compare e [.NotIn] [.Name s p1] pos) (tDT T δ (!memB a ks)) := by
  subst hP
  subst hw
  exact pt_imp (pt_cmpR (op_notInN K hu hT) hk (pe_var hi hvs hd hcd) hb) fun σ H Q ⟨Hs, at_, kk⟩ => ⟨Hs, at_, fun v H1s H1 g1 d1 => by
    have a1 := at_.mono g1
    obtain ⟨q, o, z1, z2, z3, z4⟩ := a1.env.dct i _ hδ
    exact ⟨_, z1, q, o, H1s, ks, a, rfl, z3, z4, a1.sub, d1, _, rfl, kk H1s H1 g1⟩⟩
end
/-! {k: v} -/
def tDisp1 {P : Program} {w : World} (kd : DKd P w α) (tk tv : TE) : TE := fun σ H Q => ∀ D o, H D = none → (∀ Hs, kd.ok [] Hs D o) → tk σ (upd H D o) fun y H1 => tv σ H1 fun z H2 => ∃ o1 Hs a, H2 D = some o1 ∧ kd.ok [] Hs D o1 ∧ Ex Hs H2 ∧ Da Hs y (kd.enc a) ∧ ∀ o2, kd.ok [a] Hs D o2 → Q (.ref D) (upd H2 D o2)
theorem pe_disp1 {tk tv : TE} (kd : DKd X.prog X.w α) (hu : X.A.units + 64 < cLine) (hk : PE X kx tk) (hv : PE X vx tv) : PE X (.Dict [some kx] [vx] pos) (tDisp1 kd tk tv) := by
  refine ⟨fun pins s σ H Q I q => ?_⟩
  obtain ⟨o0, ok0, new0⟩ := kd.new (h := s.heap) I.big
  have hn := I.hok.fresh (Nat.le_refl s.heap.objs.size)
  have I1 := I.laid (a := s.heap.objs.size) (o := o0) (h' := s.heap.push { cls := .type "dict", data := .dict #[] }) (t' := s.toks) (fun _ _ q => Heap.get?_push_of_some _ q) (Nat.le_refl _) (new0 _)
  have q := q _ _ hn ok0
  rw [arm_eval_Dict]
  have hz := zip_pairTrees [some kx] [vx] X.env pos rfl rfl
  rw [hz, dictDisplay_pairs _ (by simp [pairTrees]) (by show 1 < 17; decide)]
  refine wpAny_bind (wpAny_standAt (wpAny_bind ?_))
  unfold subDict
  refine wpAny_bind (wpAny_alloc ?_)
  refine wpAny_bind (wpAny_holding ?_)
  rw [if_pos (show (pairTrees [some kx] [vx] X.env pos).length ≤ 15 by show 1 ≤ 15; decide)]
  refine wpAny_bind (pairTrees_cons_walk (thn (hk.run pins _ σ _ _ I1 q) fun kv s1 ⟨y, H1, I2, ry, q1⟩ => thn (hv.run pins s1 σ H1 _ I2 q1) fun vv s2 ⟨z, H2, I3, rz, o1, Hs, a, h1, h2, h3, h4, q2⟩ => pairTrees_nil_walk ?_))
  refine wpAny_holding ?_
  refine wpAny_bind ?_
  rw [List.forIn_cons]
  refine wpAny_bind (wpAny_bind (kd.set rfl rfl hu I3 h1 h2 h3 h4 ry rz (Nat.zero_le _) fun s' o' I' ok' => wpAny_pure ?_))
  show wpAny _ _ (forIn ([] : List (Value × Value)) PUnit.unit _) _ _ _
  rw [List.forIn_nil]
  exact wpAny_pure (wpAny_pure (wpAny_pure (wpAny_pure (show EP X pins σ Q _ _ from ⟨.ref s.heap.objs.size, _, I', rfl, q2 o' ok'⟩))))
end
end K28

set_option Elab.async false
set_option linter.all false
set_option maxRecDepth 100000
set_option maxHeartbeats 4000000
namespace K28
open PySem PySem.Spec PyProof.Rows L2

/-! ### lists without doubles -/
section
variable {α : Type} [DecidableEq α]
theorem insA_mem {xs : List α} {x y : α} : y ∈ insA xs x ↔ y ∈ xs ∨ y = x := by
  unfold insA
  by_cases h : memB x xs = true
  · rw [if_pos h]
    have := memB_iff.mp h
    constructor
    · exact .inl
    · rintro (z | rfl)
      · exact z
      · exact this
  · rw [if_neg h]
    simp
theorem insA_nodup {xs : List α} {x : α} (h : xs.Nodup) : (insA xs x).Nodup := by
  unfold insA
  by_cases hm : memB x xs = true
  · rw [if_pos hm]
    exact h
  · rw [if_neg hm]
    refine List.nodup_append.mpr ⟨h, by simp, fun a ha b hb => ?_⟩
    rw [List.mem_singleton] at hb
    subst hb
    rintro rfl
    exact hm (memB_iff.mpr ha)
theorem fold_nodup : ∀ (ys xs : List α), xs.Nodup → (ys.foldl insA xs).Nodup
  | [], _, h => h
  | y :: ys, xs, h => fold_nodup ys _ (insA_nodup h)
theorem fold_mem : ∀ (ys xs : List α) (z : α), z ∈ ys.foldl insA xs ↔ z ∈ xs ∨ z ∈ ys
  | [], xs, z => by simp
  | y :: ys, xs, z => by
    rw [List.foldl_cons, fold_mem ys, insA_mem, List.mem_cons]
    constructor
    · rintro ((h | h) | h)
      · exact .inl h
      · exact .inr (.inl h)
      · exact .inr (.inr h)
    · rintro (h | h | h)
      · exact .inl (.inl h)
      · exact .inl (.inr h)
      · exact .inr h
end
theorem few {l : List Nat} {n : Nat} (h : l.Nodup) (hn : ∀ x ∈ l, x < n) : l.length ≤ n := by
  have : ∀ (n : Nat) (l : List Nat), l.Nodup → (∀ x ∈ l, x < n) → l.length ≤ n := fun n => by
    induction n with
    | zero =>
      intro l _ h
      cases l with
      | nil => exact Nat.le_refl _
      | cons x l => exact absurd (h x List.mem_cons_self) (Nat.not_lt_zero _)
    | succ n ih =>
      intro l hd h
      have h1 := ih (l.filter fun x => !decide (x = n)) (hd.filter _) (fun x hx => by
        obtain ⟨h2, h3⟩ := List.mem_filter.mp hx
        have := h x h2
        simp at h3
        omega)
      have h2 : l.length ≤ (l.filter fun x => !decide (x = n)).length + 1 := by
        clear ih h1 h
        induction l with
        | nil => simp
        | cons y l ih =>
          obtain ⟨a, b⟩ := List.nodup_cons.mp hd
          by_cases e : y = n
          · subst e
            have : l.filter (fun x => !decide (x = y)) = l := List.filter_eq_self.mpr fun x hx => by
              simp
              rintro rfl
              exact a hx
            rw [List.filter_cons, this]
            simp
          · rw [List.filter_cons]
            simp only [e, decide_false, Bool.not_false, if_true, List.length_cons]
            have := ih b
            omega
      omega
  exact this n l h hn
theorem foesL_lt {W : Web} {p o : Nat} (h : o ∈ foesL W p) : o < W.n := by
  unfold foesL at h
  simpa using (List.mem_filter.mp h).1
theorem foesL_len (W : Web) (p : Nat) : (foesL W p).length ≤ W.n := by
  unfold foesL
  refine Nat.le_trans (List.length_filter_le _ _) ?_
  rw [List.length_range]
  exact Nat.le_refl _
theorem fold_take {α β : Type} (f : β → α → β) (b : β) {ys : List α} {i : Nat} {y : α} (h : ys[i]? = some y) : (ys.take (i + 1)).foldl f b = f ((ys.take i).foldl f b) y := by
  rw [List.take_add_one, h, List.foldl_append]
  rfl
/-! ### with_foes -/
def kF (W : Web) (acc : List Nat) (p : Nat) : List Nat := (foesL W p).foldl insA acc
def wKeys (W : Web) (ppl : List Nat) (k : Nat) : List Nat := (ppl.take k).foldl (kF W) (ddp ppl)
def withFoes (W : Web) (ppl : List Nat) : List Nat := isort ltN (ppl.foldl (kF W) (ddp ppl))
theorem kF_nodup {W : Web} {acc : List Nat} {p : Nat} (h : acc.Nodup) : (kF W acc p).Nodup := fold_nodup _ _ h
theorem kF_lt {W : Web} {acc : List Nat} {p : Nat} (h : ∀ x ∈ acc, x < W.n) : ∀ x ∈ kF W acc p, x < W.n := fun x hx => by
  rcases (fold_mem _ _ x).mp hx with z | z
  · exact h x z
  · exact foesL_lt z
theorem wKeys_ok {W : Web} {ppl : List Nat} (h : ∀ p ∈ ppl, p < W.n) : ∀ k, (wKeys W ppl k).Nodup ∧ ∀ x ∈ wKeys W ppl k, x < W.n := fun k => by
  unfold wKeys
  have base : (ddp ppl).Nodup ∧ ∀ x ∈ ddp ppl, x < W.n := ⟨fold_nodup _ _ List.nodup_nil, fun x hx => by
    rcases (fold_mem _ _ x).mp hx with z | z
    · cases z
    · exact h x z⟩
  generalize ddp ppl = acc at base
  generalize ppl.take k = l
  induction l generalizing acc with
  | nil => exact base
  | cons p l ih => exact ih _ ⟨kF_nodup base.1, kF_lt base.2⟩
theorem take_keys {W : Web} {acc : List Nat} {p j : Nat} (h : acc.Nodup ∧ ∀ x ∈ acc, x < W.n) : (((foesL W p).take j).foldl insA acc).length ≤ W.n := by
  refine few (fold_nodup _ _ h.1) fun x hx => ?_
  rcases (fold_mem _ _ x).mp hx with z | z
  · exact h.2 x z
  · exact foesL_lt (List.mem_of_mem_take z)
section
variable {P : Program} {w : World} {K : PySem.W.Frag} {mg : Str → Option Value} {base : Heap} {T : Tx}
def rWith : List PyData → PyData → Prop := fun ds r => ∃ W ppl, W.n ≤ 7 ∧ (∀ p ∈ ppl, p < W.n) ∧ ppl.length ≤ 900 ∧ ds = [webD W, listD nD ppl] ∧ r = lotD (withFoes W ppl)
abbrev s_with : Stmt := top 22
abbrev n_with : List Str := ["web", "people", "person", "found", "other"]
theorem sc_with : FnScope n_with ["web", "people"] (defScope s_with) := ⟨rfl, rfl, rfl, by decide +kernel, rfl, by decide +kernel, by decide +kernel⟩
theorem h_with {f : Addr} {fd : FuncData} (F : Fun K "with_foes" "with_foes" s_with f fd) (hm : mg "with_foes" = some (.ref f)) (B : Bi mg) (hF : Has P w K mg base T "foes" 2 rFoes) : Has P w K mg base T "with_foes" 3 rWith := by
  refine fn_data F sc_with hm (F.binds fun _ _ _ _ _ _ us hl => match us, hl with | [_, _], _ => rfl) (fun ds r h => ?_) fun cdv A outer s H E H0s H0 ds r hr hR => ?_
  · obtain ⟨W, ppl, _, _, _, rfl, _⟩ := h
    rfl
  · obtain ⟨W, ppl, hn, hp, hlp, rfl, rfl⟩ := hR
    have hk := wKeys_ok hp
    refine ⟨.rt (lotD (withFoes W ppl)), .inl rfl, ?_⟩
    refine pds_cons (δ1 := [.d (webD W), .d (listD nD ppl), .no, .dct ((kdI P w).dct (wKeys W ppl 0)), .no]) ?_ ?_
    · exact pds_dk (g := gName 2) 3 (kdI P w) ppl nD (fun p => [.d (webD W), .d (listD nD ppl), .d (nD p), .no, .no]) (fun p => p) (by rw [List.map_id']; unfold wKeys; rfl) (x := .bool true) (own := [("person", 2)]) (hu64 hr) rfl sc_with.nd
        (pid_list (pd_var 1 rfl)) (by omega) (blkOk_by (N := n_with) (sc := defScope s_with) (by decide +kernel)) (fun _ _ _ _ _ => pg_name (i := 2) sc_with.nd rfl (Or.inl rfl)) (fun y _ => tg_name (by decide)) (fun _ _ _ _ _ y _ => pd_var 2 rfl) (fun _ _ _ _ _ y _ => pd_bl)
    refine pds_cons (δ1 := [.d (webD W), .d (listD nD ppl), .no, .dct ((kdI P w).dct (wKeys W ppl ppl.length)), .no]) ?_ ?_
    · refine pds_for (ks := [2]) (g := gName 2) ppl nD (fun k => [.d (webD W), .d (listD nD ppl), .no, .dct ((kdI P w).dct (wKeys W ppl k)), .no]) (fun k p => [.d (webD W), .d (listD nD ppl), .d (nD p), .dct ((kdI P w).dct (wKeys W ppl k)), .no]) rfl PassesOwn.never rfl
        (pid_list (pd_var 1 rfl)) (pg_name (i := 2) sc_with.nd rfl (Or.inl rfl)) (fun k y hy => tg_name (by decide)) (fun k y => by simpa using mineSub_get (i := 0) (b := [.d (webD W), .d (listD nD ppl), .no, .dct ((kdI P w).dct (wKeys W ppl k)), .no]) (a := [.d (webD W), .d (listD nD ppl), .d (nD y), .dct ((kdI P w).dct (wKeys W ppl k)), .no]) (ks := [2]) ⟨rfl, by decide, trivial⟩) (fun k y hy => ?_)
      have e1 : wKeys W ppl (k + 1) = (foesL W y).foldl insA (wKeys W ppl k) := by unfold wKeys; rw [fold_take _ _ hy]; rfl
      refine pds_weak (δ1 := [.d (webD W), .d (listD nD ppl), .d (nD y), .dct ((kdI P w).dct (((foesL W y).take (foesL W y).length).foldl insA (wKeys W ppl k))), .no]) (less_of (by rw [List.take_length, e1]; exact ⟨rfl, rfl, rfl, trivial⟩)) (pds_one ?_)
      refine pds_for (ks := [4]) (g := gName 4) (foesL W y) nD (fun j => [.d (webD W), .d (listD nD ppl), .d (nD y), .dct ((kdI P w).dct (((foesL W y).take j).foldl insA (wKeys W ppl k))), .no]) (fun j o => [.d (webD W), .d (listD nD ppl), .d (nD y), .dct ((kdI P w).dct (((foesL W y).take j).foldl insA (wKeys W ppl k))), .d (nD o)]) rfl PassesOwn.never rfl
        (pid_list (pd_call hF hr ⟨W, y, by omega, rfl, rfl⟩ (pda_cons (pd_var 0 rfl) (pda_cons (pd_var 2 rfl) pda_nil)))) (pg_name (i := 4) sc_with.nd rfl (Or.inl rfl)) (fun j o ho => tg_name (by decide))
        (fun j o => by simpa using mineSub_get (i := 0) (b := [.d (webD W), .d (listD nD ppl), .d (nD y), .dct ((kdI P w).dct (((foesL W y).take j).foldl insA (wKeys W ppl k))), .no]) (a := [.d (webD W), .d (listD nD ppl), .d (nD y), .dct ((kdI P w).dct (((foesL W y).take j).foldl insA (wKeys W ppl k))), .d (nD o)]) (ks := [4]) ⟨rfl, by decide, trivial⟩) (fun j o ho => ?_)
      have hlen := take_keys (p := y) (j := j) (hk k)
      refine pds_weak (δ1 := [.d (webD W), .d (listD nD ppl), .d (nD y), .dct ((kdI P w).dct (insA (((foesL W y).take j).foldl insA (wKeys W ppl k)) o)), .d (nD o)]) (less_of (by rw [fold_take _ _ ho]; exact ⟨rfl, rfl, rfl, rfl, trivial⟩)) (pds_one (pds_put 3 (kdI P w) (hu64 hr) rfl (oneD_of ⟨rfl, trivial⟩) pd_bl (pd_var 4 rfl) (by omega)))
    · have hl := few (hk ppl.length).1 (hk ppl.length).2
      refine pds_one (pds_ret (pd_is (pd_tuple B.tuple (pd_sortedI 3 rfl rfl (by omega) B.sorted)) ?_))
      unfold withFoes wKeys
      rw [List.take_length]
      rfl
/-! ### made -/
def made (d : List Nat × List Nat) (g : List Nat) : List Nat := isort ltN (d.1 ++ g.filter fun p => !memB p d.2)
def rMade : List PyData → PyData → Prop := fun ds r => ∃ d g, d.1.length ≤ 400 ∧ g.length ≤ 400 ∧ ds = [ddD d, lotD g] ∧ r = lotD (made d g)
abbrev s_made : Stmt := top 25
abbrev n_made : List Str := ["some", "gathering", "stays", "gone", "person"]
theorem sc_made : FnScope n_made ["some", "gathering"] (defScope s_made) := ⟨rfl, rfl, rfl, by decide +kernel, rfl, by decide +kernel, by decide +kernel⟩
theorem pds_asg {X : Cx} {T : Tx} {H0s H0 : Hp} {δ δ' : List Ent} {tg e : Expr} {x : PyData} {pos : Pos} {g : TG} {ks : List Nat} (he : PE X e (tD T δ x)) (hg : PG X tg g) (ht : TgD g x δ δ' ks) (hm : ∀ i e, δ'[i]? = some e → e.mine → δ[i]? = some e ∧ i ∉ ks) (hs : swapsWithSole [tg] e pos.line X.env = pure false := by rfl) (hw : swappedStores [tg] e X.env = pure none := by rfl)
    (h1 : (assignEach [tg] X.env).map (·.2) = [assign tg X.env] := by rfl) : PS X (.Assign [tg] e pos) (tS T H0s H0 δ (.nx δ')) :=
  ps_imp (ps_asg he hg hs hw h1) fun D σ H ⟨Hs, b, k⟩ => ⟨Hs, b.at, fun v Hs' H' g1 d1 => by
    have b1 := b.mono g1
    refine ht Hs' H' σ v _ g1.sub b1.env d1 fun σ' env' hs' hl' => k σ' Hs' H' g1.base ⟨b1.gr, env', fun j e p w1 m w2 => ?_, b1.tabs⟩
    obtain ⟨z1, z2⟩ := hm j e w1 m
    rw [hs' j z2] at w2
    exact b1.own j e p z1 m w2⟩
theorem ownFree_mine {δ : List Ent} (h : ownFree δ) {δ' : List Ent} {ks : List Nat} : ∀ (i : Nat) e, δ[i]? = some e → e.mine → δ'[i]? = some e ∧ i ∉ ks := fun i e h1 m => (ownFree_get h h1 m).elim
theorem h_made {f : Addr} {fd : FuncData} (F : Fun K "made" "made" s_made f fd) (hm : mg "made" = some (.ref f)) (B : Bi mg) : Has P w K mg base T "made" 1 rMade := by
  refine fn_data F sc_made hm (F.binds fun _ _ _ _ _ _ us hl => match us, hl with | [_, _], _ => rfl) (fun ds r h => ?_) fun cdv A outer s H E H0s H0 ds r hr hR => ?_
  · obtain ⟨d, g, _, _, rfl, _⟩ := h
    rfl
  · obtain ⟨d, g, hd, hg, rfl, rfl⟩ := hR
    have hfl := List.length_filter_le (fun p => !memB p d.2) g
    refine ⟨.rt (lotD (made d g)), .inl rfl, ?_⟩
    refine pds_cons (δ1 := [.d (ddD d), .d (lotD g), .d (lotD d.1), .d (lotD d.2), .no]) (pds_asg (ks := [2, 3]) (pd_var 0 rfl) (pg_tup rfl (pgs_cons (pg_name (i := 2) sc_made.nd rfl (Or.inl rfl)) (pgs_cons (pg_name (i := 3) sc_made.nd rfl (Or.inr rfl)) pgs_nil))) (tg_pair (x := lotD d.1) (y := lotD d.2) (by decide) (by decide)) (ownFree_mine (by trivial))) ?_
    refine pds_one (pds_ret (pd_tuple B.tuple (pd_sortedE EOrd.nat lin_N (by decide) _ (sok_nat _) (hu64 hr) B.sorted (pd_is (pd_lst (pda_starT (pd_var 2 rfl) (pda_starL (pd_lc (own := [("person", 4)]) g nD (fun p => [.d (ddD d), .d (lotD g), .d (lotD d.1), .d (lotD d.2), .d (nD p)]) (fun p => !memB p d.2) nD rfl sc_made.nd
      (pid_tup (pd_var 1 rfl)) (by omega) (blkOk_by (N := n_made) (sc := defScope s_made) (by decide +kernel)) (fun _ _ _ _ _ => pg_name (i := 4) sc_made.nd rfl (Or.inl rfl)) (fun y _ => tg_name (by decide)) (fun _ _ _ _ _ p _ => pts_one (pdt_cmp op_notIn_seq rd_notNT (pd_var 4 rfl) (pd_var 3 rfl) (by rfl))) (fun _ _ _ _ _ p _ _ => pd_var 4 rfl)) pda_nil)) ?_) ?_))))
    · simp only [List.length_append, List.length_map, List.length_nil]
      omega
    · unfold listD
      rw [List.map_append, List.append_nil]
/-! ### need_small -/
def rNeed_small : List PyData → PyData → Prop := fun ds r => ∃ W, W.n ≤ 5 ∧ ds = [webD W] ∧ r = .none
abbrev s_nsmall : Stmt := top 28
theorem sc_nsmall : FnScope ["web"] ["web"] (defScope s_nsmall) := ⟨rfl, rfl, rfl, by decide +kernel, rfl, by decide +kernel, by decide +kernel⟩
theorem h_nsmall {f : Addr} {fd : FuncData} (F : Fun K "need_small" "need_small" s_nsmall f fd) (hm : mg "need_small" = some (.ref f)) (C : Cn mg) : Has P w K mg base T "need_small" 1 rNeed_small := by
  refine fn_data F sc_nsmall hm (F.binds fun _ _ _ _ _ _ us hl => match us, hl with | [_], _ => rfl) (fun ds r h => ?_) fun cdv A outer s H E H0s H0 ds r hr hR => ?_
  · obtain ⟨W, _, rfl, _⟩ := h
    rfl
  · obtain ⟨W, hn, rfl, rfl⟩ := hR
    obtain ⟨t, hc⟩ := C.listed
    refine ⟨.nx [.d (webD W)], .inr ⟨_, rfl, rfl⟩, pds_one (pds_ifF (pdt_is (pdt_cmp op_gt rd_IB (pd_web0 (pd_var 0 rfl)) (pd_glob (by rfl) hc) (by rfl)) ?_) pds_nil)⟩
    exact decide_eq_false (by omega)
end
end K28

set_option Elab.async false
set_option linter.all false
set_option maxRecDepth 100000
set_option maxHeartbeats 4000000
namespace K28
open PySem PySem.Spec PyProof.Rows L2

/-! ### calm_part -/
def calmL (W : Web) (gone : List Nat) : List Nat := (List.range W.n).filter fun p => memB p gone && (foesL W p).all fun o => memB o gone
/-- (found, more) behind one foe -/
def stepO (calm : List Nat) (s : List Nat × List Nat) (o : Nat) : List Nat × List Nat := if (memB o calm && !memB o s.1) = true then (s.1 ++ [o], s.2 ++ [o]) else s
def stepP (W : Web) (calm : List Nat) (s : List Nat × List Nat) (p : Nat) : List Nat × List Nat := (foesL W p).foldl (stepO calm) s
def stepW (W : Web) (calm : List Nat) (s : List Nat × List Nat) : List Nat × List Nat := s.2.foldl (stepP W calm) (s.1, [])
def walkC (W : Web) (calm : List Nat) (f0 : List Nat) : Nat → List Nat × List Nat
  | 0 => (f0, f0)
  | k + 1 => stepW W calm (walkC W calm f0 k)
/-- what may still come -/
def left (calm f : List Nat) : Nat := (calm.filter fun o => !memB o f).length
theorem left_add {calm f : List Nat} {o : Nat} (h1 : o ∈ calm) (h2 : memB o f = false) : left calm (f ++ [o]) + 1 ≤ left calm f := by
  unfold left
  have e : ∀ x, memB x (f ++ [o]) = (memB x f || decide (o = x)) := fun x => by
    unfold memB
    rw [List.any_append]
    simp
  induction calm with
  | nil => cases h1
  | cons c calm ih =>
    have mono : (calm.filter fun o' => !memB o' (f ++ [o])).length ≤ (calm.filter fun o' => !memB o' f).length := by
      clear ih h1
      induction calm with
      | nil => exact Nat.le_refl _
      | cons d calm ih =>
        rw [List.filter_cons, List.filter_cons, e]
        cases memB d f <;> cases hd : decide (o = d) <;> simp [hd] <;> omega
    rw [List.filter_cons, List.filter_cons, e]
    by_cases hc : o = c
    · subst hc
      rw [h2]
      simp
      exact mono
    · have h3 : o ∈ calm := by
        rcases List.mem_cons.mp h1 with z | z
        · exact (hc z).elim
        · exact z
      have := ih h3
      cases hm : memB c f <;> simp [hc] <;> omega
/-- what is true all the way: no more than B; all is of calm; what is new is counted -/
structure CalmI (calm : List Nat) (B : Nat) (s : List Nat × List Nat) : Prop where
  le : s.1.length + left calm s.1 ≤ B
  mem : ∀ o ∈ s.1, o ∈ calm
  more : s.2.length ≤ s.1.length
theorem stepO_ok {calm : List Nat} {B : Nat} {s : List Nat × List Nat} (h : CalmI calm B s) (o : Nat) : CalmI calm B (stepO calm s o) := by
  unfold stepO
  split
  · rename_i hc
    rw [Bool.and_eq_true, Bool.not_eq_true'] at hc
    have hm := memB_iff.mp hc.1
    have := left_add hm hc.2
    have := h.le
    have := h.more
    exact ⟨by simp only [List.length_append, List.length_cons, List.length_nil]; omega, fun x hx => by
      rcases List.mem_append.mp hx with z | z
      · exact h.mem x z
      · rw [List.mem_singleton.mp z]; exact hm, by simp only [List.length_append, List.length_cons, List.length_nil]; omega⟩
  · exact h
theorem foldO_ok {calm : List Nat} {B : Nat} : ∀ (os : List Nat) {s : List Nat × List Nat}, CalmI calm B s → CalmI calm B (os.foldl (stepO calm) s)
  | [], _, h => h
  | o :: os, _, h => foldO_ok os (stepO_ok h o)
theorem foldP_ok {W : Web} {calm : List Nat} {B : Nat} : ∀ (ps : List Nat) {s : List Nat × List Nat}, CalmI calm B s → CalmI calm B (ps.foldl (stepP W calm) s)
  | [], _, h => h
  | p :: ps, _, h => foldP_ok ps (foldO_ok _ h)
theorem walkC_ok {W : Web} {calm f0 : List Nat} (h : ∀ o ∈ f0, o ∈ calm) : ∀ k, CalmI calm (f0.length + left calm f0) (walkC W calm f0 k)
  | 0 => ⟨Nat.le_refl _, h, Nat.le_refl _⟩
  | k + 1 => by
    have q := walkC_ok (W := W) h k
    exact foldP_ok _ ⟨q.le, q.mem, Nat.zero_le _⟩
/-- who comes is counted -/
structure NewI (calm : List Nat) (L : Nat) (s : List Nat × List Nat) : Prop where
  le : left calm s.1 + s.2.length ≤ L
theorem stepO_new {calm : List Nat} {L : Nat} {s : List Nat × List Nat} (h : left calm s.1 + s.2.length ≤ L) (o : Nat) : left calm (stepO calm s o).1 + (stepO calm s o).2.length ≤ L := by
  unfold stepO
  split
  · rename_i hc
    rw [Bool.and_eq_true, Bool.not_eq_true'] at hc
    have := left_add (memB_iff.mp hc.1) hc.2
    simp only [List.length_append, List.length_cons, List.length_nil]
    omega
  · exact h
theorem foldO_new {calm : List Nat} {L : Nat} : ∀ (os : List Nat) {s : List Nat × List Nat}, left calm s.1 + s.2.length ≤ L → left calm (os.foldl (stepO calm) s).1 + (os.foldl (stepO calm) s).2.length ≤ L
  | [], _, h => h
  | o :: os, _, h => foldO_new os (stepO_new h o)
theorem foldP_new {W : Web} {calm : List Nat} {L : Nat} : ∀ (ps : List Nat) {s : List Nat × List Nat}, left calm s.1 + s.2.length ≤ L → left calm (ps.foldl (stepP W calm) s).1 + (ps.foldl (stepP W calm) s).2.length ≤ L
  | [], _, h => h
  | p :: ps, _, h => foldP_new ps (foldO_new _ h)
theorem walkC_new {W : Web} {calm f0 : List Nat} (k : Nat) : left calm (walkC W calm f0 (k + 1)).1 + (walkC W calm f0 (k + 1)).2.length ≤ left calm (walkC W calm f0 k).1 := foldP_new _ (Nat.le_refl _)
theorem walkC_stop {W : Web} {calm f0 : List Nat} {k : Nat} (h : (walkC W calm f0 k).2 = []) : walkC W calm f0 (k + 1) = ((walkC W calm f0 k).1, []) := by
  show stepW W calm (walkC W calm f0 k) = _
  unfold stepW
  rw [h]
  rfl
theorem walkC_stay {W : Web} {calm f0 : List Nat} {k : Nat} (h : (walkC W calm f0 k).2 = []) : ∀ j, (walkC W calm f0 (k + j)).1 = (walkC W calm f0 k).1 ∧ (walkC W calm f0 (k + j)).2 = []
  | 0 => ⟨rfl, h⟩
  | j + 1 => by
    obtain ⟨h1, h2⟩ := walkC_stay h j
    have := walkC_stop h2
    rw [← Nat.add_assoc, this]
    exact ⟨h1, rfl⟩
theorem least {p : Nat → Prop} : ∀ n, p n → ∃ k, k ≤ n ∧ p k ∧ ∀ j, j < k → ¬ p j := fun n => by
  induction n using Nat.strongRecOn with
  | _ n ih =>
    intro h
    by_cases e : ∃ j, j < n ∧ p j
    · obtain ⟨j, hj, pj⟩ := e
      obtain ⟨k, h1, h2, h3⟩ := ih j hj pj
      exact ⟨k, by omega, h2, h3⟩
    · exact ⟨n, Nat.le_refl _, h, fun j hj pj => e ⟨j, hj, pj⟩⟩
theorem walkC_ends {W : Web} {calm f0 : List Nat} (hc : calm.length ≤ 7) : ∃ n, n ≤ 8 ∧ (walkC W calm f0 n).2 = [] ∧ ∀ k, k < n → (walkC W calm f0 k).2 ≠ [] := by
  have key : ∃ n, n ≤ 8 ∧ (walkC W calm f0 n).2 = [] := by
    apply Classical.byContradiction
    intro h
    have hne : ∀ k, k ≤ 8 → (walkC W calm f0 k).2.length ≥ 1 := fun k hk => by
      cases e : (walkC W calm f0 k).2 with
      | nil => exact (h ⟨k, hk, e⟩).elim
      | cons a b => simp
    have hl : ∀ k, k ≤ 8 → left calm (walkC W calm f0 k).1 + k ≤ 7 := fun k => by
      induction k with
      | zero =>
        intro _
        refine Nat.le_trans (List.length_filter_le _ _) hc
      | succ k ih =>
        intro hk
        have h1 := ih (by omega)
        have h2 := walkC_new (W := W) (calm := calm) (f0 := f0) k
        have h3 := hne (k + 1) hk
        omega
    have := hl 8 (Nat.le_refl _)
    omega
  obtain ⟨n, hn, h⟩ := key
  obtain ⟨k, h1, h2, h3⟩ := least (p := fun n => (walkC W calm f0 n).2 = []) n h
  exact ⟨k, by omega, h2, h3⟩
def calmPart (W : Web) (stays gone : List Nat) : List Nat := isort ltN (walkC W (calmL W gone) (stays.filter fun p => memB p (calmL W gone)) 8).1
theorem calmL_lt {W : Web} {gone : List Nat} {p : Nat} (h : p ∈ calmL W gone) : p < W.n := by
  unfold calmL at h
  simpa using (List.mem_filter.mp h).1
theorem calmL_len (W : Web) (gone : List Nat) : (calmL W gone).length ≤ W.n := by
  unfold calmL
  refine Nat.le_trans (List.length_filter_le _ _) ?_
  rw [List.length_range]
  exact Nat.le_refl _
theorem calmPart_lt {W : Web} {stays gone : List Nat} {p : Nat} (h : p ∈ calmPart W stays gone) : p < W.n := by
  have h1 := (isort_perm _).mem_iff.mp h
  exact calmL_lt ((walkC_ok (W := W) (fun o ho => memB_iff.mp (List.mem_filter.mp ho).2) 8).mem p h1)
theorem calmPart_len {W : Web} {stays gone : List Nat} : (calmPart W stays gone).length ≤ stays.length + W.n := by
  have h1 := (walkC_ok (W := W) (calm := calmL W gone) (f0 := stays.filter fun p => memB p (calmL W gone)) (fun o ho => memB_iff.mp (List.mem_filter.mp ho).2) 8).le
  have h2 : (calmPart W stays gone).length = _ := (isort_perm _).length_eq
  have h3 : left (calmL W gone) (stays.filter fun p => memB p (calmL W gone)) ≤ W.n := Nat.le_trans (List.length_filter_le _ _) (calmL_len W gone)
  have h4 := List.length_filter_le (fun p => memB p (calmL W gone)) stays
  omega
section
variable {P : Program} {w : World} {K : PySem.W.Frag} {mg : Str → Option Value} {base : Heap} {T : Tx}
def rCalm : List PyData → PyData → Prop := fun ds r => ∃ W st gn, W.n ≤ 7 ∧ st.length ≤ 100 ∧ ds = [webD W, lotD st, lotD gn] ∧ r = listD nD (calmPart W st gn)
abbrev s_calm : Stmt := top 23
abbrev n_calm : List Str := ["web", "stays", "gone", "person", "calm", "found", "rows", "more", "other"]
theorem sc_calm : FnScope n_calm ["web", "stays", "gone"] (defScope s_calm) := ⟨rfl, rfl, rfl, by decide +kernel, rfl, by decide +kernel, by decide +kernel⟩
def lcScope (st : Stmt) (i : Nat) : Scope := match (defBody st)[i]? with
  | some (.Assign _ (.ListComp _ _ sc _) _) => sc
  | _ => defScope st
def cellsOf (sc : Scope) : Scope := { sc with names := sc.names.map fun y => if y.2 == .free then (y.1, .cell) else y }
theorem h_calm {f c Pt : Addr} {fd : FuncData} (F : FunC K "calm_part" "calm_part" s_calm f fd c) (TB : GxR.TabB base mg c Pt) (hPt : Pt ∈ T.tabs) (hm : mg "calm_part" = some (.ref f)) (B : Bi mg) (hF : Has P w K mg base T "foes" 2 rFoes) : Has P w K mg base T "calm_part" 4 rCalm := by
  refine fn_dataC F sc_calm hm (F.fn.binds fun _ _ _ _ _ _ us hl => match us, hl with | [_, _, _], _ => rfl) (fun ds r h => ?_) fun A outer s H E H0s H0 ds r hr hR => ?_
  · obtain ⟨W, st, gn, _, _, rfl, _⟩ := h
    rfl
  · obtain ⟨W, stays, gone, hn, hst, rfl, rfl⟩ := hR
    have hrF := hr.mono (show 2 ≤ 3 by decide)
    obtain ⟨calm, hcalm⟩ : ∃ calm, calm = calmL W gone := ⟨_, rfl⟩
    obtain ⟨f0, hf0⟩ : ∃ f0, f0 = stays.filter fun p => memB p calm := ⟨_, rfl⟩
    have hcl : calm.length ≤ 7 := by rw [hcalm]; exact Nat.le_trans (calmL_len W gone) hn
    obtain ⟨n, hn8, hend, hne⟩ := walkC_ends (W := W) (f0 := f0) hcl
    have hfm : ∀ o ∈ f0, o ∈ calm := fun o ho => by rw [hf0] at ho; exact memB_iff.mp (List.mem_filter.mp ho).2
    have hf0l : f0.length ≤ 100 := by rw [hf0]; exact Nat.le_trans (List.length_filter_le _ _) hst
    have hleft : left calm f0 ≤ 7 := Nat.le_trans (List.length_filter_le _ _) hcl
    have hres : calmPart W stays gone = isort ltN (walkC W calm f0 n).1 := by
      unfold calmPart
      rw [← hcalm, ← hf0]
      have := (walkC_stay hend (8 - n)).1
      rw [show n + (8 - n) = 8 by omega] at this
      rw [this]
    refine ⟨.rt (listD nD (calmPart W stays gone)), .inl rfl, ?_⟩
    refine pds_cons (δ1 := [.d (webD W), .d (lotD stays), .d (lotD gone), .no, .d (listD nD calm), .no, .no, .no, .no]) ?_ ?_
    · rw [hcalm]
      exact pds_set 4 sc_calm.nd (pd_lc (own := [("person", 3)]) (List.range W.n) nD (fun p => [.d (webD W), .d (lotD stays), .d (lotD gone), .d (nD p), .no, .no, .no, .no, .no]) (fun p => memB p gone && (foesL W p).all fun o => memB o gone) nD rfl sc_calm.nd
        (pid_range (n := W.n) (pda_cons (pd_web0 (pd_var 0 rfl)) pda_nil) (by omega) B.range) (by rw [List.length_range]; omega) (blkOk_by (N := n_calm) (sc := defScope s_calm) (by decide +kernel)) (fun _ _ _ _ _ => pg_name (i := 3) sc_calm.nd rfl (Or.inl rfl)) (fun y _ => tg_name (by decide))
        (fun s2 H2 C2 cl2 fp2 p hp => pts_one (PW.pt (pdw_and (pdt_cmp op_in_seq rd_inNT (pd_var 3 rfl) (pd_var 2 rfl) (by rfl)) fun _ => pdw_one (pdt_val
          (pd_all (k := 2) (own := [("other", 8)]) (g := gName 8) (foesL W p) nD (fun o => [.d (webD W), .d (lotD stays), .d (lotD gone), .d (nD p), .no, .no, .no, .no, .d (nD o)]) (fun o => memB o gone) hr sc_calm.nd B.all TB hPt rfl
            (pid_list (pd_call hF hrF ⟨W, p, by omega, rfl, rfl⟩ (pda_cons (pd_var 0 rfl) (pda_cons (pd_var 3 rfl) pda_nil)))) (blkOk_by (N := n_calm) (sc := cellsOf (lcScope s_calm 0)) (by decide +kernel)) (by decide +kernel) rfl rfl (fun _ _ _ _ _ _ _ _ => pg_name (i := 8) sc_calm.nd rfl (Or.inl rfl)) (fun y _ => tg_name (by decide))
            (fun A s H cl C code fp pn hrG y hy => pd_cmp op_in_seq rd_inNT (pd_var 8 rfl) (pd_var 2 rfl) (by rfl)))))))
        (fun _ _ _ _ _ p _ _ => pd_var 3 rfl))
    refine pds_cons (δ1 := [.d (webD W), .d (lotD stays), .d (lotD gone), .no, .d (listD nD calm), .d (listD nD f0), .no, .no, .no]) ?_ ?_
    · rw [hf0]
      exact pds_lc 5 (own := [("person", 3)]) stays nD (fun p => [.d (webD W), .d (lotD stays), .d (lotD gone), .d (nD p), .d (listD nD calm), .no, .no, .no, .no]) (fun p => memB p calm) nD rfl sc_calm.nd
        (pid_tup (pd_var 1 rfl)) (by omega) (blkOk_by (N := n_calm) (sc := defScope s_calm) (by decide +kernel)) (fun _ _ _ _ _ => pg_name (i := 3) sc_calm.nd rfl (Or.inl rfl)) (fun y _ => tg_name (by decide)) (fun _ _ _ _ _ p _ => pts_one (pdt_cmp op_in_seq rd_inNL (pd_var 3 rfl) (pd_var 4 rfl) (by rfl))) (fun _ _ _ _ _ p _ _ => pd_var 3 rfl)
    refine pds_cons (δ1 := [.d (webD W), .d (lotD stays), .d (lotD gone), .no, .d (listD nD calm), .d (listD nD f0), .d (listD nD f0), .no, .no]) (pds_set 6 sc_calm.nd (pd_callTy call_list_of rc_lstL B.list boot_list (pda_cons (pd_var 5 rfl) pda_nil))) ?_
    refine pds_cons (δ1 := [.d (webD W), .d (lotD stays), .d (lotD gone), .no, .d (listD nD calm), .d (listD nD (walkC W calm f0 n).1), .d (listD nD (walkC W calm f0 n).2), .no, .no]) ?_ ?_
    · refine pds_while n (fun k => [.d (webD W), .d (lotD stays), .d (lotD gone), .no, .d (listD nD calm), .d (listD nD (walkC W calm f0 k).1), .d (listD nD (walkC W calm f0 k).2), .no, .no]) rfl PassesOwn.never (fun k hk => ?_) (fun k hk => ?_)
      · refine pdt_is (pdt_list (pd_var 6 rfl)) ?_
        rcases Nat.lt_or_ge k n with h | h
        · rw [decide_eq_true h]
          have := hne k h
          cases e : (walkC W calm f0 k).2 with
          | nil => exact (this e).elim
          | cons a b => rfl
        · have : k = n := by omega
          subst this
          rw [hend, decide_eq_false (Nat.lt_irrefl _)]
          rfl
      · have hI := walkC_ok (W := W) hfm k
        obtain ⟨sk, hsk⟩ : ∃ sk, sk = walkC W calm f0 k := ⟨_, rfl⟩
        have e1 : walkC W calm f0 (k + 1) = sk.2.foldl (stepP W calm) (sk.1, []) := by rw [hsk]; rfl
        rw [e1]
        rw [← hsk] at hI ⊢
        -- more = []
        refine pds_cons (δ1 := [.d (webD W), .d (lotD stays), .d (lotD gone), .no, .d (listD nD calm), .d (listD nD sk.1), .d (listD nD sk.2), .own [], .no]) (pds_new 7 sc_calm.nd pda_nil (by show 0 ≤ 1000; decide)) ?_
        obtain ⟨Z, hZ⟩ : ∃ Z : Nat → List Nat × List Nat, Z = fun j => (sk.2.take j).foldl (stepP W calm) (sk.1, []) := ⟨_, rfl⟩
        have hZI : ∀ j, CalmI calm (f0.length + left calm f0) (Z j) := fun j => by rw [hZ]; exact foldP_ok _ ⟨hI.le, hI.mem, Nat.zero_le _⟩
        have hZe : sk.2.foldl (stepP W calm) (sk.1, []) = Z sk.2.length := by rw [hZ]; simp
        rw [hZe]
        refine pds_cons (δ1 := [.d (webD W), .d (lotD stays), .d (lotD gone), .no, .d (listD nD calm), .d (listD nD (Z sk.2.length).1), .d (listD nD sk.2), .own ((Z sk.2.length).2.map nD), .no]) ?_ ?_
        · refine pds_for (ks := [3]) (g := gName 3) sk.2 nD (fun j => [.d (webD W), .d (lotD stays), .d (lotD gone), .no, .d (listD nD calm), .d (listD nD (Z j).1), .d (listD nD sk.2), .own ((Z j).2.map nD), .no])
            (fun j p => [.d (webD W), .d (lotD stays), .d (lotD gone), .d (nD p), .d (listD nD calm), .d (listD nD (Z j).1), .d (listD nD sk.2), .own ((Z j).2.map nD), .no]) (by rw [hZ]; rfl) PassesOwn.never rfl (pid_list (pd_var 6 rfl)) (pg_name (i := 3) sc_calm.nd rfl (Or.inl rfl)) (fun j p hp => tg_name (by decide))
            (fun j p => by simpa using mineSub_get (i := 0) (b := [.d (webD W), .d (lotD stays), .d (lotD gone), .no, .d (listD nD calm), .d (listD nD (Z j).1), .d (listD nD sk.2), .own ((Z j).2.map nD), .no]) (a := [.d (webD W), .d (lotD stays), .d (lotD gone), .d (nD p), .d (listD nD calm), .d (listD nD (Z j).1), .d (listD nD sk.2), .own ((Z j).2.map nD), .no]) (ks := [3]) ⟨rfl, by decide, trivial⟩) (fun j p hp => ?_)
          have e2 : Z (j + 1) = (foesL W p).foldl (stepO calm) (Z j) := by rw [hZ]; simp only; rw [fold_take _ _ hp]; rfl
          obtain ⟨Y, hY⟩ : ∃ Y : Nat → List Nat × List Nat, Y = fun i => ((foesL W p).take i).foldl (stepO calm) (Z j) := ⟨_, rfl⟩
          have hYI : ∀ i, CalmI calm (f0.length + left calm f0) (Y i) := fun i => by rw [hY]; exact foldO_ok _ (hZI j)
          have hYe : Z (j + 1) = Y (foesL W p).length := by rw [e2, hY]; simp
          rw [hYe]
          refine pds_weak (δ1 := [.d (webD W), .d (lotD stays), .d (lotD gone), .d (nD p), .d (listD nD calm), .d (listD nD (Y (foesL W p).length).1), .d (listD nD sk.2), .own ((Y (foesL W p).length).2.map nD), .no]) (less_of ⟨rfl, rfl, rfl, rfl, rfl, rfl, rfl, trivial⟩) (pds_one ?_)
          refine pds_for (ks := [8]) (g := gName 8) (foesL W p) nD (fun i => [.d (webD W), .d (lotD stays), .d (lotD gone), .d (nD p), .d (listD nD calm), .d (listD nD (Y i).1), .d (listD nD sk.2), .own ((Y i).2.map nD), .no])
            (fun i o => [.d (webD W), .d (lotD stays), .d (lotD gone), .d (nD p), .d (listD nD calm), .d (listD nD (Y i).1), .d (listD nD sk.2), .own ((Y i).2.map nD), .d (nD o)]) (by rw [hY]; rfl) PassesOwn.never rfl (pid_list (pd_call hF hrF ⟨W, p, by omega, rfl, rfl⟩ (pda_cons (pd_var 0 rfl) (pda_cons (pd_var 3 rfl) pda_nil)))) (pg_name (i := 8) sc_calm.nd rfl (Or.inl rfl)) (fun i o ho => tg_name (by decide))
            (fun i o => by simpa using mineSub_get (i := 0) (b := [.d (webD W), .d (lotD stays), .d (lotD gone), .d (nD p), .d (listD nD calm), .d (listD nD (Y i).1), .d (listD nD sk.2), .own ((Y i).2.map nD), .no]) (a := [.d (webD W), .d (lotD stays), .d (lotD gone), .d (nD p), .d (listD nD calm), .d (listD nD (Y i).1), .d (listD nD sk.2), .own ((Y i).2.map nD), .d (nD o)]) (ks := [8]) ⟨rfl, by decide, trivial⟩) (fun i o ho => ?_)
          have e3 : Y (i + 1) = stepO calm (Y i) o := by rw [hY]; simp only; rw [fold_take _ _ ho]
          have hB := (hYI i).le
          have hM := (hYI i).more
          rw [e3]
          refine pds_weak (δ1 := [.d (webD W), .d (lotD stays), .d (lotD gone), .d (nD p), .d (listD nD calm), .d (listD nD (stepO calm (Y i) o).1), .d (listD nD sk.2), .own ((stepO calm (Y i) o).2.map nD), .d (nD o)]) (less_of ⟨rfl, rfl, rfl, rfl, rfl, rfl, rfl, rfl, trivial⟩) (pds_one (pds_if (k := memB o calm && !memB o (Y i).1) ?_ (fun hk => ?_) (fun hk => ?_)))
          · exact PW.pt (pdw_and (pdt_cmp op_in_seq rd_inNL (pd_var 8 rfl) (pd_var 4 rfl) (by rfl)) fun _ => pdw_one (pdt_cmp op_notIn_seq rd_notNL (pd_var 8 rfl) (pd_var 5 rfl) (by rfl)))
          · unfold stepO
            rw [if_pos hk]
            refine pds_cons (δ1 := [.d (webD W), .d (lotD stays), .d (lotD gone), .d (nD p), .d (listD nD calm), .d (listD nD ((Y i).1 ++ [o])), .d (listD nD sk.2), .own ((Y i).2.map nD), .d (nD o)]) (pds_set 5 sc_calm.nd (pd_is (pd_lst (pda_starL (pd_var 5 rfl) (pda_cons (pd_var 8 rfl) pda_nil)) ?_) ?_)) (pds_one (pds_append 7 rfl (pd_var 8 rfl) ?_ ?_))
            · simp only [List.length_append, List.length_map, List.length_cons, List.length_nil]
              omega
            · unfold listD
              rw [List.map_append]
              rfl
            · rw [List.length_map]
              omega
            · rw [List.map_append]
              rfl
          · unfold stepO
            rw [if_neg (by rw [hk]; exact Bool.false_ne_true)]
            exact pds_nil
        · refine pds_freeze 7 rfl ?_
          refine pds_weak (δ1 := [.d (webD W), .d (lotD stays), .d (lotD gone), .no, .d (listD nD calm), .d (listD nD (Z sk.2.length).1), .d (listD nD (Z sk.2.length).2), .d (listD nD (Z sk.2.length).2), .no]) (less_of ⟨rfl, rfl, rfl, rfl, rfl, rfl, trivial⟩) (pds_one (pds_set 6 sc_calm.nd (pd_var 7 rfl)))
    · rw [hres]
      exact pds_one (pds_ret (pd_sortedE EOrd.nat lin_N (by decide) _ (sok_nat _) (hu64 hr) B.sorted (pd_var 5 rfl)))
end
end K28

set_option Elab.async false
set_option linter.all false
set_option maxRecDepth 100000
set_option maxHeartbeats 4000000
namespace K28
open PySem PySem.Spec PyProof.Rows L2

/-! ### comes -/
def comes (W : Web) (d : List Nat × List Nat) : Bool := isGath W d.1 && isLot W d.2 && ((d.1.all fun p => memB p (calmPart W d.1 d.2)) && decide (withFoes W (calmPart W d.1 d.2) = d.2))
section
variable {P : Program} {w : World} {K : PySem.W.Frag} {mg : Str → Option Value} {base : Heap} {T : Tx}
def rComes : List PyData → PyData → Prop := fun ds r => ∃ W d, 1 ≤ W.n ∧ W.n ≤ 7 ∧ d.1.length ≤ 100 ∧ d.2.length ≤ 100 ∧ ds = [webD W, ddD d] ∧ r = .bool (comes W d)
abbrev s_comes : Stmt := top 24
abbrev n_comes : List Str := ["web", "value", "stays", "gone", "part", "person"]
theorem sc_comes : FnScope n_comes ["web", "value"] (defScope s_comes) := ⟨rfl, rfl, rfl, by decide +kernel, rfl, by decide +kernel, by decide +kernel⟩
def ifTest (st : Stmt) (i : Nat) : Expr := match (defBody st)[i]? with
  | some (.If t _ _ _) => t
  | _ => .Constant .none 0 ⟨0, 0, 0, 0⟩
theorem h_comes {f c Pt : Addr} {fd : FuncData} (F : FunC K "comes" "comes" s_comes f fd c) (TB : GxR.TabB base mg c Pt) (hPt : Pt ∈ T.tabs) (hm : mg "comes" = some (.ref f)) (B : Bi mg) (hG : Has P w K mg base T "is_gathering" 4 rIs_gath) (hL : Has P w K mg base T "is_lot" 3 rIs_lot)
    (hC : Has P w K mg base T "calm_part" 4 rCalm) (hW : Has P w K mg base T "with_foes" 3 rWith) : Has P w K mg base T "comes" 5 rComes := by
  refine fn_dataC F sc_comes hm (F.fn.binds fun _ _ _ _ _ _ us hl => match us, hl with | [_, _], _ => rfl) (fun ds r h => ?_) fun A outer s H E H0s H0 ds r hr hR => ?_
  · obtain ⟨W, d, _, _, _, _, rfl, _⟩ := h
    rfl
  · obtain ⟨W, d, h1, hn, hd1, hd2, rfl, rfl⟩ := hR
    have hr3 := hr.mono (show 3 ≤ 4 by decide)
    have htest : PT (BX P w K mg base n_comes "comes" s_comes f (.ref c) A outer s H E) (ifTest s_comes 2) (tDT T [.d (webD W), .d (ddD d), .d (lotD d.1), .d (lotD d.2), .no, .no] (!isGath W d.1 || !isLot W d.2)) :=
      PW.pt (pdw_or (pdt_not (pdt_val (pd_call hG hr ⟨W, d.1, h1, by omega, rfl, rfl⟩ (pda_cons (pd_var 0 rfl) (pda_cons (pd_var 2 rfl) pda_nil))))) fun _ => pdw_one (pdt_not (pdt_val (pd_call hL hr3 ⟨W, d.2, h1, by omega, rfl, rfl⟩ (pda_cons (pd_var 0 rfl) (pda_cons (pd_var 3 rfl) pda_nil))))))
    refine ⟨.rt (.bool (comes W d)), .inl rfl, ?_⟩
    refine pds_cons (δ1 := [.d (webD W), .d (ddD d), .no, .no, .no, .no]) (pds_ifF (pdt_is (PW.pt (pdw_or (pdt_not (pdt_val (pd_isi (pd_var 1 rfl) kit_tup_tup boot_tuple B.isinstance B.tuple))) fun _ => pdw_one (pdt_cmp op_ne rd_neI (pd_callB call_len_seq (rc_lenT (xs := [lotD d.1, lotD d.2])) B.len boot_len (pda_cons (pd_var 1 rfl) pda_nil)) pd_int (by rfl)))) rfl) pds_nil) ?_
    refine pds_cons (δ1 := [.d (webD W), .d (ddD d), .d (lotD d.1), .d (lotD d.2), .no, .no]) (pds_asg (ks := [2, 3]) (pd_var 1 rfl) (pg_tup rfl (pgs_cons (pg_name (i := 2) sc_comes.nd rfl (Or.inl rfl)) (pgs_cons (pg_name (i := 3) sc_comes.nd rfl (Or.inl rfl)) pgs_nil))) (tg_pair (x := lotD d.1) (y := lotD d.2) (by decide) (by decide)) (ownFree_mine (by trivial))) ?_
    cases hg : (!isGath W d.1 || !isLot W d.2) with
    | true =>
      rw [hg] at htest
      have e : comes W d = false := by
        unfold comes
        cases h2 : isGath W d.1 <;> cases h3 : isLot W d.2 <;> simp [h2, h3] at hg ⊢
      rw [e]
      exact pds_end (pds_ifT htest (pds_one (pds_ret pd_bl)))
    | false =>
      rw [hg] at htest
      have e : comes W d = ((d.1.all fun p => memB p (calmPart W d.1 d.2)) && decide (withFoes W (calmPart W d.1 d.2) = d.2)) := by
        unfold comes
        cases h2 : isGath W d.1 <;> cases h3 : isLot W d.2 <;> simp [h2, h3] at hg ⊢
      rw [e]
      have hpl := calmPart_len (W := W) (stays := d.1) (gone := d.2)
      refine pds_cons (δ1 := [.d (webD W), .d (ddD d), .d (lotD d.1), .d (lotD d.2), .no, .no]) (pds_ifF htest pds_nil) ?_
      refine pds_cons (δ1 := [.d (webD W), .d (ddD d), .d (lotD d.1), .d (lotD d.2), .d (listD nD (calmPart W d.1 d.2)), .no]) (pds_set 4 sc_comes.nd (pd_call hC hr ⟨W, d.1, d.2, hn, hd1, rfl, rfl⟩ (pda_cons (pd_var 0 rfl) (pda_cons (pd_var 2 rfl) (pda_cons (pd_var 3 rfl) pda_nil))))) ?_
      refine pds_one (pds_ret (pd_and (pd_all (k := 3) (own := [("person", 5)]) (g := gName 5) d.1 nD (fun p => [.d (webD W), .d (ddD d), .d (lotD d.1), .d (lotD d.2), .d (listD nD (calmPart W d.1 d.2)), .d (nD p)]) (fun p => memB p (calmPart W d.1 d.2)) hr sc_comes.nd B.all TB hPt rfl
        (pid_tup (pd_var 2 rfl)) (blkOk_by (N := n_comes) (sc := defScope s_comes) (by decide +kernel)) (by decide +kernel) rfl rfl (fun _ _ _ _ _ _ _ _ => pg_name (i := 5) sc_comes.nd rfl (Or.inl rfl)) (fun y _ => tg_name (by decide)) (fun A s H cl C code fp pn hrG y hy => pd_cmp op_in_seq rd_inNL (pd_var 5 rfl) (pd_var 4 rfl) (by rfl))) fun _ => pd_one
        (pd_cmp (op_eqD (hu64 hr)) (rd_eqE Enc.lot (by decide)) (pd_call hW hr3 ⟨W, calmPart W d.1 d.2, hn, fun p hp => calmPart_lt hp, by omega, rfl, rfl⟩ (pda_cons (pd_var 0 rfl) (pda_cons (pd_var 4 rfl) pda_nil))) (pd_var 3 rfl) (by rfl))))
/-! ### all_deeds -/
def ofStays (W : Web) (s : List Nat) : List (List Nat × List Nat) := ((allLots W.n).filter fun g => comes W (s, g)).map fun g => (s, g)
def foundAt (W : Web) (k : Nat) : List (List Nat × List Nat) := ((gaths W).take k).flatMap (ofStays W)
def allDeeds (W : Web) : List (List Nat × List Nat) := isort ltDd ((gaths W).flatMap (ofStays W))
theorem ofStays_len (W : Web) (s : List Nat) : (ofStays W s).length ≤ 2 ^ W.n := by
  unfold ofStays
  rw [List.length_map]
  have := List.length_filter_le (fun g => comes W (s, g)) (allLots W.n)
  rw [allLots_len] at this
  exact this
theorem gaths_len (W : Web) : (gaths W).length ≤ 2 ^ W.n := by
  unfold gaths
  have := List.length_filter_le (isGath W) (allLots W.n)
  rw [allLots_len] at this
  exact this
theorem flat_len {α β : Type} (f : α → List β) (n : Nat) : ∀ xs : List α, (∀ x ∈ xs, (f x).length ≤ n) → (xs.flatMap f).length ≤ xs.length * n
  | [], _ => by simp
  | x :: xs, h => by
    have h1 := flat_len f n xs fun y hy => h y (List.mem_cons_of_mem _ hy)
    have h2 := h x List.mem_cons_self
    rw [List.flatMap_cons, List.length_append, List.length_cons, Nat.succ_mul]
    omega
theorem foundAt_len {W : Web} (h : W.n ≤ 4) (k : Nat) : (foundAt W k).length ≤ 256 := by
  unfold foundAt
  have e : 2 ^ W.n ≤ 16 := by
    have := Nat.pow_le_pow_right (show 0 < 2 by decide) h
    simpa using this
  have h1 := flat_len (ofStays W) 16 ((gaths W).take k) fun s _ => Nat.le_trans (ofStays_len W s) e
  have h2 : ((gaths W).take k).length ≤ 16 := Nat.le_trans (List.length_take_le' _ _) (Nat.le_trans (gaths_len W) e)
  have h3 : ((gaths W).take k).length * 16 ≤ 16 * 16 := Nat.mul_le_mul_right _ h2
  omega
theorem gaths_mem {W : Web} {g : List Nat} (h : g ∈ gaths W) : g.length ≤ W.n := allLots_mem (List.mem_filter.mp h).1
def rAll_deeds : List PyData → PyData → Prop := fun ds r => ∃ W, 1 ≤ W.n ∧ W.n ≤ 4 ∧ ds = [webD W] ∧ r = listD ddD (allDeeds W)
abbrev s_deeds : Stmt := top 29
abbrev n_deeds : List Str := ["web", "lots", "found", "stays", "gone"]
theorem sc_deeds : FnScope n_deeds ["web"] (defScope s_deeds) := ⟨rfl, rfl, rfl, by decide +kernel, rfl, by decide +kernel, by decide +kernel⟩
theorem h_deeds {f : Addr} {fd : FuncData} (F : Fun K "all_deeds" "all_deeds" s_deeds f fd) (hm : mg "all_deeds" = some (.ref f)) (B : Bi mg) (hL : Has P w K mg base T "all_lots" 1 rAll_lots) (hG : Has P w K mg base T "all_gatherings" 5 rAll_gath) (hC : Has P w K mg base T "comes" 5 rComes) : Has P w K mg base T "all_deeds" 6 rAll_deeds := by
  refine fn_data F sc_deeds hm (F.binds fun _ _ _ _ _ _ us hl => match us, hl with | [_], _ => rfl) (fun ds r h => ?_) fun cdv A outer s H E H0s H0 ds r hr hR => ?_
  · obtain ⟨W, _, _, rfl, _⟩ := h
    rfl
  · obtain ⟨W, h1, hn, rfl, rfl⟩ := hR
    refine ⟨.rt (listD ddD (allDeeds W)), .inl rfl, ?_⟩
    refine pds_cons (δ1 := [.d (webD W), .d (listD lotD (allLots W.n)), .d (listD ddD (foundAt W 0)), .no, .no]) (pds_par 1 2 rfl sc_deeds.nd (pd_call hL (hr.mono (by decide)) ⟨W, by omega, rfl, rfl⟩ (pda_cons (pd_var 0 rfl) pda_nil)) (pd_lst (ds := []) pda_nil (by decide))) ?_
    refine pds_cons (δ1 := [.d (webD W), .d (listD lotD (allLots W.n)), .d (listD ddD (foundAt W (gaths W).length)), .no, .no]) ?_ ?_
    · refine pds_forD (ks := [3]) (g := gName 3) (gaths W) lotD (fun k => [.d (webD W), .d (listD lotD (allLots W.n)), .d (listD ddD (foundAt W k)), .no, .no]) (fun k s => [.d (webD W), .d (listD lotD (allLots W.n)), .d (listD ddD (foundAt W k)), .d (lotD s), .no]) rfl rfl PassesOwn.never rfl
        (pid_list (pd_call hG hr ⟨W, h1, by omega, rfl, rfl⟩ (pda_cons (pd_var 0 rfl) pda_nil))) (pg_name (i := 3) sc_deeds.nd rfl (Or.inr rfl)) (fun k y => trivial) (fun k y hy => tg_name (by decide)) (fun k st hy => ?_)
      have hsl : st.length ≤ W.n := gaths_mem (List.mem_of_getElem? hy)
      have e1 : foundAt W (k + 1) = foundAt W k ++ ofStays W st := by
        unfold foundAt
        rw [List.take_add_one, hy, List.flatMap_append]
        simp
      have hf := foundAt_len hn k
      have ho := ofStays_len W st
      have hp : 2 ^ W.n ≤ 16 := by
        have := Nat.pow_le_pow_right (show 0 < 2 by decide) hn
        simpa using this
      have hal := allLots_len W.n
      refine pds_weak (δ1 := [.d (webD W), .d (listD lotD (allLots W.n)), .d (listD ddD (foundAt W (k + 1))), .d (lotD st), .no]) (less_of ⟨rfl, rfl, rfl, trivial⟩) (pds_one (pds_set 2 sc_deeds.nd (pd_is (pd_op op_cat (rd_cat ?_) (pd_var 2 rfl)
        (pd_lc (own := [("gone", 4)]) (allLots W.n) lotD (fun g => [.d (webD W), .d (listD lotD (allLots W.n)), .d (listD ddD (foundAt W k)), .d (lotD st), .d (lotD g)]) (fun g => comes W (st, g)) (fun g => ddD (st, g)) rfl sc_deeds.nd (pid_list (pd_var 1 rfl)) (by omega) (blkOk_by (N := n_deeds) (sc := defScope s_deeds) (by decide +kernel))
          (fun _ _ _ _ _ => pg_name (i := 4) sc_deeds.nd rfl (Or.inl rfl)) (fun y _ => tg_name (by decide))
          (fun _ _ _ _ _ g hg => pts_one (pdt_val (pd_call hC hr ⟨W, (st, g), h1, by omega, by show st.length ≤ 100; omega, ?_, rfl, rfl⟩ (pda_cons (pd_var 0 rfl) (pda_cons (pd_tup (ds := [lotD st, lotD g]) (pda_cons (pd_var 3 rfl) (pda_cons (pd_var 4 rfl) pda_nil)) (by show 2 ≤ 1000; decide)) pda_nil)))))
          (fun _ _ _ _ _ g hg _ => pd_tup (ds := [lotD st, lotD g]) (pda_cons (pd_var 3 rfl) (pda_cons (pd_var 4 rfl) pda_nil)) (by show 2 ≤ 1000; decide)))) ?_)))
      · unfold ofStays at ho
        simp only [List.length_map] at ho ⊢
        omega
      · show g.length ≤ 100
        have := allLots_mem hg
        omega
      · unfold listD
        rw [e1, List.map_append]
        unfold ofStays
        rw [List.map_map]
        rfl
    · have e : foundAt W (gaths W).length = (gaths W).flatMap (ofStays W) := by unfold foundAt; rw [List.take_length]
      rw [e]
      exact pds_one (pds_ret (pd_sortedE EOrd.dd lin_dd (by decide) _ (sok_dd _) (hu64 hr) B.sorted (pd_var 2 rfl)))
end
end K28

set_option Elab.async false
set_option linter.all false
set_option maxRecDepth 100000
set_option maxHeartbeats 4000000
/-! enumerate(tuple). -/
namespace K28
open PySem PySem.Spec PyProof.Rows L2
theorem enum_newB {v : Value} {o : Obj} {H : Heap → Prop} (B : Begins v o H) :
    Meets (Builtin.«enumerate.__new__» ⟨[.type "enumerate", v], []⟩) (fun _ R s => H s.heap ∧
      R (.ok (.ret (.ref (s.heap.push o).objs.size))) { s with heap := (s.heap.push o).push { cls := .type "enumerate", data := .fields #[.none, .bool false, .ref s.heap.objs.size, rawInt 0, .none, .none] } }) :=
  .of_wp fun prog w A R s h => by
    obtain ⟨hp, g, d, tk, os⟩ := s; obtain ⟨h1, h⟩ := h
    have hsub := sub_enumerate
    have q1 : ∀ {A' : Around} {E : Value → Shared → Prop} {Q : Value → Shared → Prop}, Q (.ref hp.objs.size) ⟨hp.push o, g, d, tk, os⟩ → wpAny (model prog w) A' (pyIter v) Q E ⟨hp, g, d, tk, os⟩ :=
      fun q => B.iter prog w _ _ ⟨hp, g, d, tk, os⟩ _ h1 q
    wp_walk using q1
    refine wpAny_stack_any fun st => wpAny_pure ?_
    split
    · rename_i c _ _ _ _ _
      cases (c == Value.type "enumerate")
      · wp_walk using q1
        exact ⟨_, rfl, h⟩
      · wp_walk using q1
        exact ⟨_, rfl, h⟩
    · wp_walk using q1
      exact ⟨_, rfl, h⟩
theorem enum_call {prog : Program} {w : World} {A : Around} {E : Value → Shared → Prop} {s : Shared} {v : Value} {o : Obj} {H : Heap → Prop} {Q : Value → Shared → Prop} (B : Begins v o H) (h1 : H s.heap)
    (h : ∀ h', IsEnum h' (s.heap.objs.size + 1) s.heap.objs.size 0 .none → h'.get? s.heap.objs.size = some o → h'.objs.size = s.heap.objs.size + 2 →
      (∀ b o, s.heap.get? b = some o → h'.get? b = some o) → Q (.ref (s.heap.objs.size + 1)) { s with heap := h' }) :
    wpAny (model prog w) A (call (.type "enumerate") [v]) Q E s := by
  refine callType_new F.called_enumerate (by decide) (F.typeCall_enumerate_1 _) (F.newCall_enumerate_1 _) (fun obj => F.args_object_init_2 obj _) F.entry_enumerate_new
    (enum_newB B) ⟨h1, ?_⟩
  have hz : (s.heap.push o).objs.size = s.heap.objs.size + 1 := Heap.size_push ..
  show _ ∧ _
  rw [hz]
  have he : IsEnum ((s.heap.push o).push { cls := .type "enumerate", data := .fields #[.none, .bool false, .ref s.heap.objs.size, rawInt 0, .none, .none] }) (s.heap.objs.size + 1) s.heap.objs.size 0 .none := by
    have := Heap.get?_push_size (s.heap.push o) (o := { cls := .type "enumerate", data := .fields #[.none, .bool false, .ref s.heap.objs.size, rawInt 0, .none, .none] }) rfl
    rw [hz] at this; exact this
  exact ⟨⟨_, he, rfl⟩, h _ he (Heap.get?_push_of_some _ (Heap.get?_push_size _ B.free)) (by rw [Heap.size_push, hz]) fun b o x => Heap.get?_push_of_some _ (Heap.get?_push_of_some _ x)⟩
/-- the tuple at a, each item in a new pair -/
def Itet (K : PySem.W.Frag) (a : Addr) : It :=
  ⟨fun i H => ∃ (xs : List V) (x : V), SqT K H a xs ∧ xs[i]? = some x, fun i H v H' => ∃ T x, v = .ref T ∧ H T = none ∧ H' = upd H T (.tup [.int (i : Nat), x]) ∧ ∀ xs, SqT K H a xs → xs[i]? = some x, fun i H => ∃ xs : List V, SqT K H a xs ∧ xs.length = i⟩
theorem turn_enumT {P : Program} {w : World} {K : PySem.W.Frag} {elts : List Expr} {kk : Nat} {tpos : Pos} (a e it : Addr) (hai : a ≠ it) (hae : e ≠ a) :
    Turn P w K (.Tuple elts kk tpos) (Itet K a) [e, it] e (fun i h => (∃ old, IsEnum h e it ((i : Nat) : Int) old) ∧ h.IsTupleIter it a i ∧ e ≠ it) where
  mem := by simp
  obj := fun i h st b hb => by
    obtain ⟨⟨old, he⟩, ⟨o, ho, hc, hd⟩, _⟩ := st
    have e' : b = e ∨ b = it := by simpa using hb
    rcases e' with z | z
    · rw [z]; exact ⟨_, he, fun v q => nomatch q⟩
    · rw [z]; exact ⟨o, ho, fun v q => by rw [hd] at q; cases q⟩
  keep := fun i h h' st k => let ⟨⟨old, he⟩, hi, hne⟩ := st; ⟨⟨old, k e (by simp) _ he⟩, hi.at fun o q => k it (by simp) o q, hne⟩
  item := by
    intro X hP hw hK hc i pins s σ H E I hf st hg
    subst hP hw hK
    obtain ⟨⟨old, he⟩, hit, hne⟩ := st
    obtain ⟨xs, x, hq, hx⟩ := hg
    obtain ⟨its, rv, p, hz⟩ := I.tuple hq
    obtain ⟨u, hu, ru⟩ := rv.get hx
    have hel : e < s.heap.objs.size := Heap.lt_size he
    have hil : it < s.heap.objs.size := by obtain ⟨_, q, _⟩ := hit; exact Heap.lt_size q
    refine wpAny_pyNext_enum_itemD (Draws.tuple (A := X.A.in1) (I.ok.hd hc) it a hai its.toArray) he ⟨hit, p⟩ (by have := (List.getElem?_eq_some_iff.mp hu).1; simpa using this) hne (by simp; exact ⟨hne, hae⟩) fun x' h' tk hP' ho hst' hT hsz hk => ?_
    have ex : x' = u := by
      rw [List.getElem?_toArray, hu] at hP'
      exact (Option.some.inj hP').symm
    subst ex
    refine ⟨_, rfl, wpAny_letOwnedTupleGo_enum (s := { s with heap := h', toks := tk + 1 }) ho fun h'' he' sb => ?_⟩
    have hT2 : h''.get? s.heap.objs.size = some { cls := .type "tuple", data := .seq #[.int i tk, x'] } := (sb.2 _ (Nat.ne_of_gt hel)).trans hT
    have new : ObjOk X.prog X.w (upd H s.heap.objs.size (.tup [.int (i : Nat), x])) h'' s.heap.objs.size (.tup [.int (i : Nat), x]) :=
      ⟨by show 2 ≤ sizeLine; decide, [.int i tk, x'], .cons ⟨_, rfl⟩ (.cons ru .nil), ⟨_, hT2, rfl, _, rfl⟩⟩
    have I1 : Inv X pins σ (upd H s.heap.objs.size (.tup [.int (i : Nat), x])) { s with heap := h'', toks := tk + 1 } :=
      I.turnedNew (ch := [e, it]) (fun b ob hb q => (sb.2 b (fun z => hb (by simp [z]))).trans (hk b ob (fun z => hb (by simp [z])) (fun z => hb (by simp [z])) q)) hf (Nat.le_refl _) new
    refine ⟨.ref s.heap.objs.size, _, I1, rfl, ⟨_, x, rfl, I.hok.fresh (Nat.le_refl _), rfl, fun ys hy => ?_⟩, ⟨⟨x', ?_⟩, hst'.1.at fun o q => (sb.2 it (Ne.symm hne)).trans q, hne⟩, fun b hb => ?_⟩
    · rw [I.tuple_inj hy hq]; exact hx
    · have e1 : ((i + 1 : Nat) : Int) = (i : Int) + 1 := by omega
      rw [e1]; exact he'
    · have hb' : b < s.heap.objs.size := by
        have e' : b = e ∨ b = it := by simpa using hb
        rcases e' with z | z
        · rw [z]; exact hel
        · rw [z]; exact hil
      rw [upd_ne (Nat.ne_of_lt hb')]
      exact (hf b hb).1
  done := by
    intro X hP hw hK hc i pins s σ H E I hf st hg
    subst hP hw hK
    obtain ⟨⟨old, he⟩, hit, hne⟩ := st
    obtain ⟨xs, hq, hx⟩ := hg
    obtain ⟨its, rv, p, hz⟩ := I.tuple hq
    obtain ⟨f0, f1, f2, f3, f4, f5⟩ := hf it (by simp)
    have hl := rv.length
    refine wpAny_pyNext_enum_endD (Draws.tuple (A := X.A.in1) (I.ok.hd hc) it a hai its.toArray) he (n := its.toArray.size) ⟨?_, p⟩ fun h' eb => ⟨rfl, I.turned (t' := s.toks) (fun b o hb q => eb b o hb q) f0 f1 f3 f4 f5⟩
    have : its.toArray.size = i := by simp; omega
    rw [this]
    exact hit
  self := fun A i s Q E st h => let ⟨⟨_, he⟩, _⟩ := st; wpAny_pyIter_enum he h
def iEnumT (K : PySem.W.Frag) (ta : TA) : TI := fun σ H R => ta σ H fun vs H1 => ∃ a xs, vs = [.ref a] ∧ SqT K H1 a xs ∧ R (Itet K a) H1
theorem pi_enumT {X : Cx} {e : Expr} {ta : TA} {p pos tpos : Pos} {elts : List Expr} {kk : Nat} (hg : Gl X "enumerate") (hm : X.mg "enumerate" = none) (ha : PA X [e] ta) (hs : starEach [e] X.env = [(false, eval e X.env)] := by rfl) :
    PI X (.Tuple elts kk tpos) (.Call (.Name "enumerate" p) [e] [] pos) (iEnumT X.K ta) := by
  refine ⟨fun pins s σ H R I h => ?_⟩
  refine Call_ (ld_blt I hg hm boot_enumerate (PyProof.Rows.callWith_type1 (thn (ha.run pos pins s σ H _ I h) fun us s1 ⟨vs, H1, I1, r1, q1⟩ => ?_) hs rfl))
  obtain ⟨a, xs, ex, hq, q⟩ := q1
  subst ex
  cases r1 with
  | cons r rr =>
    cases rr
    cases r
    obtain ⟨its, rv, p', hz⟩ := I1.tuple hq
    have hal : a < s1.heap.objs.size := p'.lt
    refine enum_call (begins_tuple a its.toArray) p' fun h' he hit hsz hk => wpAny_pyIter_enum he ?_
    have I2 : Inv X pins σ H1 { s1 with heap := h' } := I1.kept (t' := s1.toks) hk
    refine ⟨s1.heap.objs.size + 1, [s1.heap.objs.size + 1, s1.heap.objs.size], _, _, H1, rfl, I2, turn_enumT a (s1.heap.objs.size + 1) s1.heap.objs.size (Nat.ne_of_lt hal) (Nat.ne_of_gt (Nat.lt_succ_of_lt hal)), ⟨⟨.none, he⟩, ⟨_, hit, rfl, rfl⟩, Nat.succ_ne_self _⟩, fun b hb => ?_, q⟩
    have e' : b = s1.heap.objs.size + 1 ∨ b = s1.heap.objs.size := by simpa using hb
    have hle : s1.heap.objs.size ≤ b := by
      rcases e' with z | z
      · rw [z]; exact Nat.le_add_right _ _
      · rw [z]; exact Nat.le_refl _
    exact I1.fpOk hle (I1.hok.fresh hle)
theorem src_enumT {K : PySem.W.Frag} {xs : List PyData} {p : Addr} {vs : List V} {Hs : Hp} (h : Hs p = some (.tup vs)) (d : DaAll Hs vs xs) : Src (Itet K p) (enumD 0 xs) Hs := fun H1s H1 e1 e2 => by
  have h1 := SqT.of (K := K) ((e1.trans e2).tup h)
  have hl := d.len
  rw [enumD_len]
  refine ⟨fun i hi => ?_, fun i hi => ?_, fun i v H2 hi y => ?_⟩
  · exact ⟨vs, vs[i]'(by omega), h1, List.getElem?_eq_getElem _⟩
  · exact ⟨vs, h1, by omega⟩
  · obtain ⟨t, x, rfl, ht, rfl, y⟩ := y
    obtain ⟨z, q1, q2⟩ := d.getV (y vs h1)
    refine ⟨_, _, by rw [enumD_get, q1]; rfl, .new e2 ht, .tup upd_same ?_⟩
    rw [Nat.zero_add]
    exact .cons (.int _) (.one (Da_mono (e1.trans (.new (e2.back ht))) q2))
theorem pid_enumT {X : Cx} {T : Tx} {δ : List Ent} {a : Expr} {xs : List PyData} {pos : Pos} {elts : List Expr} {kk : Nat} {tpos p : Pos} (h : PA X [a] (tDA T δ [.tuple xs])) (hm : X.mg "enumerate" = none) (hg : Gl X "enumerate" := by rfl) (hs : starEach [a] X.env = [(false, eval a X.env)] := by rfl) :
    PI X (.Tuple elts kk tpos) (.Call (.Name "enumerate" p) [a] [] pos) (piD T δ (enumD 0 xs)) :=
  pi_imp (pi_enumT hg hm h hs) fun σ H R ⟨Hs, at_, k⟩ => ⟨Hs, at_, fun v H1s H1 g1 d1 => by
    cases d1 with
    | cons d1 t =>
    cases t
    obtain ⟨p, vs, rfl, h1, h2⟩ := d1.tupV
    exact ⟨p, vs, rfl, SqT.of (g1.sub.tup h1), k _ H1s H1 g1 (src_enumT h1 h2)⟩⟩
/-- the items with their places -/
def zipI {α : Type} : Nat → List α → List (Nat × α)
  | _, [] => []
  | k, x :: xs => (k, x) :: zipI (k + 1) xs
theorem zipI_get {α : Type} : ∀ (k : Nat) (xs : List α) (i : Nat), (zipI k xs)[i]? = (xs[i]?).map fun x => (k + i, x)
  | _, [], i => by simp [zipI]
  | k, x :: xs, 0 => by simp [zipI]
  | k, x :: xs, i + 1 => by
    have ih := zipI_get (k + 1) xs i
    have e : k + 1 + i = k + (i + 1) := by omega
    rw [e] at ih
    simpa [zipI] using ih
theorem zipI_len {α : Type} : ∀ (k : Nat) (xs : List α), (zipI k xs).length = xs.length
  | _, [] => rfl
  | k, x :: xs => by simp [zipI, zipI_len (k + 1) xs]
theorem zipI_enum {α : Type} (e : α → PyData) : ∀ (k : Nat) (xs : List α), (zipI k xs).map (fun p => PyData.tuple [nD p.1, e p.2]) = enumD k (xs.map e)
  | _, [] => rfl
  | k, x :: xs => by
    rw [zipI, List.map_cons, List.map_cons, enumD, zipI_enum e (k + 1) xs]
    rfl
end K28

set_option Elab.async false
set_option linter.all false
set_option maxRecDepth 100000
set_option maxHeartbeats 4000000
namespace K28
open PySem PySem.Spec PyProof.Rows L2

section
variable {P : Program} {w : World} {K : PySem.W.Frag} {mg : Str → Option Value} {base : Heap} {T : Tx}
/-! ### need_some -/
def rNeed_some : List PyData → PyData → Prop := fun ds r => ∃ W l, webOk W = true ∧ l.length ≤ 20 ∧ (∀ g ∈ l, g.length ≤ 100 ∧ isGath W g = true) ∧ ds = [webD W, tupD lotD l] ∧ r = .none
abbrev s_nsome : Stmt := top 33
abbrev n_nsome : List Str := ["web", "some", "index", "one"]
theorem sc_nsome : FnScope n_nsome ["web", "some"] (defScope s_nsome) := ⟨rfl, rfl, rfl, by decide +kernel, rfl, by decide +kernel, by decide +kernel⟩
theorem h_nsome {f : Addr} {fd : FuncData} (F : Fun K "need_some" "need_some" s_nsome f fd) (hm : mg "need_some" = some (.ref f)) (B : Bi mg) (C : Cn mg) (hW : Has P w K mg base T "need_web" 3 rNeed_web) (hG : Has P w K mg base T "is_gathering" 4 rIs_gath) : Has P w K mg base T "need_some" 5 rNeed_some := by
  refine fn_data F sc_nsome hm (F.binds fun _ _ _ _ _ _ us hl => match us, hl with | [_, _], _ => rfl) (fun ds r h => ?_) fun cdv A outer s H E H0s H0 ds r hr hR => ?_
  · obtain ⟨W, l, _, _, _, rfl, _⟩ := h
    rfl
  · obtain ⟨W, l, hW1, hl, hg, rfl, rfl⟩ := hR
    obtain ⟨⟨h1, h7⟩, _⟩ := webOk_of hW1
    obtain ⟨t, hgath⟩ := C.gath
    refine ⟨.nx [.d (webD W), .d (tupD lotD l), .no, .no], .inr ⟨_, rfl, rfl⟩, ?_⟩
    refine pds_cons (δ1 := [.d (webD W), .d (tupD lotD l), .no, .no]) (pds_expr (pd_call hW (hr.mono (by decide)) ⟨W, hW1, rfl, rfl⟩ (pda_cons (pd_var 0 rfl) pda_nil))) ?_
    refine pds_cons (δ1 := [.d (webD W), .d (tupD lotD l), .no, .no]) (pds_ifF (pdt_is (PW.pt (pdw_or (pdt_not (pdt_val (pd_isi (pd_var 1 rfl) kit_tup_tup boot_tuple B.isinstance B.tuple))) fun _ => pdw_one (pdt_cmp op_gt rd_IB (pd_lenT B.len (pd_var 1 rfl)) (pd_glob (by rfl) hgath) (by rfl)))) ?_) pds_nil) ?_
    · have : decide ((20 : Int) < ((l.length : Nat) : Int)) = false := decide_eq_false (by omega)
      rw [this]
      rfl
    · refine pds_one (pds_forD (ks := [2, 3]) (g := gTup K 2 (gCons (gName 2) (gCons (gName 3) gNil))) (zipI 0 l) (fun p => .tuple [nD p.1, lotD p.2]) (fun _ => [.d (webD W), .d (tupD lotD l), .no, .no]) (fun _ p => [.d (webD W), .d (tupD lotD l), .d (nD p.1), .d (lotD p.2)]) rfl rfl PassesOwn.never rfl
        (by rw [zipI_enum]; exact pid_enumT (pda_cons (pd_var 1 rfl) pda_nil) B.enumerate) (pg_tup rfl (pgs_cons (pg_name (i := 2) sc_nsome.nd rfl (Or.inl rfl)) (pgs_cons (pg_name (i := 3) sc_nsome.nd rfl (Or.inl rfl)) pgs_nil))) (fun k y => trivial) (fun k y hy => tg_pair (by decide) (by decide)) (fun k y hy => ?_))
      have hm : y.2 ∈ l := by
        rw [zipI_get] at hy
        cases e : l[k]? with
        | none => rw [e] at hy; cases hy
        | some z =>
          rw [e] at hy
          cases hy
          exact List.mem_of_getElem? e
      obtain ⟨g1, g2⟩ := hg _ hm
      refine pds_weak (δ1 := [.d (webD W), .d (tupD lotD l), .d (nD y.1), .d (lotD y.2)]) (less_of ⟨rfl, rfl, trivial⟩) (pds_one (pds_ifF (pdt_is (pdt_not (pdt_val (pd_call hG hr ⟨W, y.2, h1, by omega, rfl, rfl⟩ (pda_cons (pd_var 0 rfl) (pda_cons (pd_var 3 rfl) pda_nil))))) ?_) pds_nil))
      rw [g2]
      rfl
/-! ### tells -/
def toldBy (l : List (List Nat)) (d : List Nat × List Nat) : List (List Nat) := l.map (made d)
def tells (ds : List (List Nat × List Nat)) (l : List (List Nat)) : Bool := decide ((ddp (ds.map (toldBy l))).length = ds.length)
theorem lot_tup : ∀ x : List (List Nat), ∃ ds, tupD lotD x = .tuple ds := fun x => ⟨_, rfl⟩
def dcScope (st : Stmt) (i : Nat) : Scope := match (defBody st)[i]? with
  | some (.Assign _ (.DictComp _ _ _ sc _) _) => sc
  | _ => defScope st
def rTells : List PyData → PyData → Prop := fun ds r => ∃ dl l, dl.length ≤ 500 ∧ (∀ d ∈ dl, d.1.length ≤ 400) ∧ l.length ≤ 500 ∧ (∀ g ∈ l, g.length ≤ 400) ∧ (ds = [listD ddD dl, tupD lotD l] ∨ ds = [listD ddD dl, listD lotD l]) ∧ r = .bool (tells dl l)
abbrev s_tells : Stmt := top 34
abbrev n_tells : List Str := ["deeds", "some", "found", "deed", "one"]
theorem sc_tells : FnScope n_tells ["deeds", "some"] (defScope s_tells) := ⟨rfl, rfl, rfl, by decide +kernel, rfl, by decide +kernel, by decide +kernel⟩
theorem nD_inj {a b : Nat} (h : nD a = nD b) : a = b := by
  unfold nD at h
  have := PyData.int.inj h
  omega
theorem h_tells {f : Addr} {fd : FuncData} (F : Fun K "tells" "tells" s_tells f fd) (hm : mg "tells" = some (.ref f)) (B : Bi mg) (hM : Has P w K mg base T "made" 1 rMade) : Has P w K mg base T "tells" 2 rTells := by
  refine fn_data F sc_tells hm (F.binds fun _ _ _ _ _ _ us hl => match us, hl with | [_, _], _ => rfl) (fun ds r h => ?_) fun cdv A outer s H E H0s H0 ds r hr hR => ?_
  · obtain ⟨dl, l, _, _, _, _, rfl | rfl, _⟩ := h <;> rfl
  · obtain ⟨dl, l, hdl, hd, hl, hg, hds, rfl⟩ := hR
    obtain ⟨sd, hsd, hpi⟩ : ∃ sd, ds = [listD ddD dl, sd] ∧ ∀ {X : Cx} {δ : List Ent} {tg e : Expr}, PE X e (tD T δ sd) → PI X tg e (piD T δ (l.map lotD)) := by
      rcases hds with rfl | rfl
      · exact ⟨tupD lotD l, rfl, fun h => pid_tup h⟩
      · exact ⟨listD lotD l, rfl, fun h => pid_list h⟩
    subst hsd
    have hlen := ddp_len (dl.map (toldBy l))
    rw [List.length_map] at hlen
    refine ⟨.rt (.bool (tells dl l)), .inl rfl, ?_⟩
    refine pds_cons (δ1 := [.d (listD ddD dl), .d sd, .dct ((kdN P w KEnc.told lot_tup).dct (ddp (dl.map (toldBy l)))), .no, .no]) ?_ ?_
    · refine pds_dk (g := gName 3) 2 (kdN P w KEnc.told lot_tup) dl ddD (fun d => [.d (listD ddD dl), .d sd, .no, .d (ddD d), .no]) (toldBy l) rfl (x := .bool true) (own := [("deed", 3)]) (hu64 hr) rfl sc_tells.nd
        (pid_list (pd_var 0 rfl)) (by omega) (blkOk_by (N := n_tells) (sc := defScope s_tells) (by decide +kernel)) (fun _ _ _ _ _ => pg_name (i := 3) sc_tells.nd rfl (Or.inr rfl)) (fun y _ => tg_name (by decide))
        (fun s2 H2 C2 cl2 fp2 d hdm => pd_is (pd_tuple B.tuple (pd_lc (own := [("one", 4)]) l lotD (fun g => [.d (listD ddD dl), .d sd, .no, .d (ddD d), .d (lotD g)]) (fun _ => true) (fun g => lotD (made d g)) rfl sc_tells.nd (hpi (pd_var 1 rfl)) (by omega) (blkOk_by (N := n_tells) (sc := cellsOf (dcScope s_tells 0)) (by decide +kernel))
          (fun _ _ _ _ _ => pg_name (i := 4) sc_tells.nd rfl (Or.inl rfl)) (fun y _ => tg_name (by decide)) (fun _ _ _ _ _ g _ => pts_no) (fun _ _ _ _ _ g hgm _ => pd_call hM hr ⟨d, g, hd d hdm, hg g hgm, rfl, rfl⟩ (pda_cons (pd_var 3 rfl) (pda_cons (pd_var 4 rfl) pda_nil))))) ?_)
        (fun _ _ _ _ _ y _ => pd_bl)
      rw [filt_all]
      show PyData.tuple _ = tupD lotD (toldBy l d)
      unfold tupD toldBy
      rw [List.map_map]
      rfl
    · exact pds_one (pds_ret (pd_cmp op_eq rd_eqN (pd_lenN KEnc.told lot_tup 2 rfl (by omega) B.len) (pd_lenL B.len (pd_var 0 rfl)) (by rfl)))
end
end K28

set_option Elab.async false
set_option linter.all false
set_option maxRecDepth 100000
set_option maxHeartbeats 4000000
namespace K28
open PySem PySem.Spec PyProof.Rows L2

theorem cut_from {α : Type} {xs : List α} {k : Nat} : cutD xs (some ((k : Nat) : Int)) none = xs.drop k := by
  unfold cutD HT.sIx
  simp only
  rw [if_neg (by omega), Int.toNat_natCast]
  by_cases h : k ≤ xs.length
  · rw [Nat.min_eq_left h]
    exact List.take_of_length_le (by rw [List.length_drop]; exact Nat.le_refl _)
  · rw [Nat.min_eq_right (by omega), List.drop_of_length_le (Nat.le_refl _), List.drop_of_length_le (by omega)]
    simp
theorem cut_to {α : Type} {xs : List α} {k : Nat} : cutD xs none (some ((k : Nat) : Int)) = xs.take k := by
  unfold cutD HT.sIx
  simp only
  rw [if_neg (by omega), Int.toNat_natCast, List.drop_zero, Nat.sub_zero]
  by_cases h : k ≤ xs.length
  · rw [Nat.min_eq_left h]
  · rw [Nat.min_eq_right (by omega), List.take_length, List.take_of_length_le (by omega)]
theorem cut_map {α β : Type} (f : α → β) (xs : List α) (l u : Option Int) : cutD (xs.map f) l u = (cutD xs l u).map f := by
  unfold cutD
  rw [List.length_map, List.map_take, List.map_drop]
section
variable {X : Cx} {T : Tx} {δ : List Ent} {e o : Expr} {pos apos p2 : Pos} {α : Type} {en : α → PyData}
theorem pd_from {lo : Expr} {xs : List α} {k : Nat} (h : PE X e (tD T δ (listD en xs))) (hl : PE X lo (tD T δ (nD k))) : PE X (.Subscript e (.Slice (some lo) none none p2) pos) (tD T δ (listD en (xs.drop k))) :=
  pd_is (pd_slL h (pod_some hl) pod_none) (by rw [cut_map, cut_from]; rfl)
theorem pd_fromT {lo : Expr} {xs : List α} {k : Nat} (h : PE X e (tD T δ (tupD en xs))) (hl : PE X lo (tD T δ (nD k))) : PE X (.Subscript e (.Slice (some lo) none none p2) pos) (tD T δ (tupD en (xs.drop k))) :=
  pd_is (pd_slT h (pod_some hl) pod_none) (by rw [cut_map, cut_from]; rfl)
theorem pd_upto {hi : Expr} {xs : List α} {k : Nat} (h : PE X e (tD T δ (listD en xs))) (hl : PE X hi (tD T δ (nD k))) : PE X (.Subscript e (.Slice none (some hi) none p2) pos) (tD T δ (listD en (xs.take k))) :=
  pd_is (pd_slL h pod_none (pod_some hl)) (by rw [cut_map, cut_to]; rfl)
theorem count_nat (xs : List Nat) (k : Nat) : (xs.map fun n => ((n : Nat) : Int)).count ((k : Nat) : Int) = xs.count k := by
  induction xs with
  | nil => rfl
  | cons x xs ih =>
    rw [List.map_cons, List.count_cons, List.count_cons, ih]
    by_cases h : x = k
    · subst h; simp
    · have : ¬ ((x : Int) = (k : Int)) := by omega
      simp [h, this]
/-- l.count(x) -/
theorem pd_count {xs : List Nat} {k : Nat} (ho : PE X o (tD T δ (listD nD xs))) (ha : PE X e (tD T δ (nD k))) (hbase : attributeBase o "count" X.env (eval o X.env) = eval o X.env := by rfl)
    (hfew : ((backTo p2 (starEach [e] X.env)).all (fun x => !x.1) && (backToKw p2 (keywordEach [] X.env)).all (fun x => x.1.isSome)
      && decide (([e] : List Expr).length + ([] : List Keyword).length + (if ([] : List Keyword).isEmpty then 0 else 1) < 30)) = true := by rfl)
    (hline : (apos.endLine == p2.line) = true := by rfl) (hs : starEach [e] X.env = (false, eval e X.env) :: starEach [] X.env := by rfl) (hplain : (backTo p2 (starEach [] X.env)).any (·.1) = false := by rfl) :
    PE X (.Call (.Attribute o "count" apos) [e] [] p2) (tD T δ (nD (xs.count k))) :=
  pe_imp (pe_bm PySem.F.plainAttrs_list PySem.F.slot_list_count PySem.F.type_list_count mt_lcount ho (pda_cons ha pda_nil hs) hbase hfew hline hs hplain) fun σ H Q ⟨Hs, at_, kk⟩ => ⟨Hs, at_, fun v H1s H1 g1 d1 => by
    obtain ⟨p, vs, rfl, h1, h2⟩ := d1.lstV
    refine ⟨.inl ⟨rfl, vs, SqL.of (g1.sub.lst h1)⟩, H1s, at_.mono g1, fun us H2s H2 g2 d2 => ?_⟩
    cases d2 with
    | cons a t =>
      cases t
      cases a.intV
      have e3 : vs = (xs.map fun n => ((n : Nat) : Int)).map V.int := by
        rw [map_nD] at h2
        exact h2.intsV
      subst e3
      refine ⟨p, _, ((k : Nat) : Int), rfl, rfl, SqL.of (g2.heap.lst (g1.sub.lst h1)), ?_⟩
      rw [count_nat]
      exact kk _ H2s H2 (g1.trans g2) (.int _)⟩
end
theorem allDeeds_len {W : Web} (h : W.n ≤ 4) : (allDeeds W).length ≤ 256 := by
  unfold allDeeds
  rw [(isort_perm _).length_eq]
  have := foundAt_len h (gaths W).length
  unfold foundAt at this
  rw [List.take_length] at this
  exact this
theorem allDeeds_mem {W : Web} {d : List Nat × List Nat} (h : d ∈ allDeeds W) : d.1.length ≤ W.n ∧ d.2.length ≤ W.n := by
  unfold allDeeds at h
  obtain ⟨s, hs, hd⟩ := List.mem_flatMap.mp ((isort_perm _).mem_iff.mp h)
  unfold ofStays at hd
  obtain ⟨g, hg, rfl⟩ := List.mem_map.mp hd
  exact ⟨gaths_mem hs, allLots_mem (List.mem_filter.mp hg).1⟩
section
variable {P : Program} {w : World} {K : PySem.W.Frag} {mg : Str → Option Value} {base : Heap} {T : Tx}
/-! ### tells_all -/
def rTells_all : List PyData → PyData → Prop := fun ds r => ∃ W l, webOk W = true ∧ W.n ≤ 4 ∧ l.length ≤ 20 ∧ (∀ g ∈ l, g.length ≤ 100 ∧ isGath W g = true) ∧ ds = [webD W, tupD lotD l] ∧ r = .bool (tells (allDeeds W) l)
abbrev s_tellsA : Stmt := top 35
theorem sc_tellsA : FnScope ["web", "some"] ["web", "some"] (defScope s_tellsA) := ⟨rfl, rfl, rfl, by decide +kernel, rfl, by decide +kernel, by decide +kernel⟩
theorem h_tellsA {f : Addr} {fd : FuncData} (F : Fun K "tells_all" "tells_all" s_tellsA f fd) (hm : mg "tells_all" = some (.ref f)) (hS : Has P w K mg base T "need_some" 5 rNeed_some) (hN : Has P w K mg base T "need_small" 1 rNeed_small) (hT : Has P w K mg base T "tells" 2 rTells) (hD : Has P w K mg base T "all_deeds" 6 rAll_deeds) : Has P w K mg base T "tells_all" 7 rTells_all := by
  refine fn_data F sc_tellsA hm (F.binds fun _ _ _ _ _ _ us hl => match us, hl with | [_, _], _ => rfl) (fun ds r h => ?_) fun cdv A outer s H E H0s H0 ds r hr hR => ?_
  · obtain ⟨W, l, _, _, _, _, rfl, _⟩ := h
    rfl
  · obtain ⟨W, l, hW, hn, hl, hg, rfl, rfl⟩ := hR
    obtain ⟨⟨h1, _⟩, _⟩ := webOk_of hW
    have hdl := allDeeds_len hn
    refine ⟨.rt (.bool (tells (allDeeds W) l)), .inl rfl, ?_⟩
    refine pds_cons (δ1 := [.d (webD W), .d (tupD lotD l)]) (pds_expr (pd_call hS (hr.mono (by decide)) ⟨W, l, hW, hl, hg, rfl, rfl⟩ (pda_cons (pd_var 0 rfl) (pda_cons (pd_var 1 rfl) pda_nil)))) ?_
    refine pds_cons (δ1 := [.d (webD W), .d (tupD lotD l)]) (pds_expr (pd_call hN (hr.mono (by decide)) ⟨W, by omega, rfl, rfl⟩ (pda_cons (pd_var 0 rfl) pda_nil))) ?_
    exact pds_one (pds_ret (pd_call hT (hr.mono (by decide)) ⟨allDeeds W, l, by omega, fun d hd => by have := allDeeds_mem hd; omega, by omega, fun g hgm => by have := (hg g hgm).1; omega, .inl rfl, rfl⟩
      (pda_cons (pd_call hD hr ⟨W, h1, hn, rfl, rfl⟩ (pda_cons (pd_var 0 rfl) pda_nil)) (pda_cons (pd_var 1 rfl) pda_nil))))
/-! ### deed_sizes -/
def sizesL (W : Web) : List Nat := (allDeeds W).map fun d => d.2.length
def deedSizes (W : Web) : List Nat := (List.range (W.n + 1)).map fun s => (sizesL W).count s
def rSizes : List PyData → PyData → Prop := fun ds r => ∃ W, webOk W = true ∧ W.n ≤ 4 ∧ ds = [webD W] ∧ r = tupD nD (deedSizes W)
abbrev s_sizes : Stmt := top 39
abbrev n_sizes : List Str := ["web", "sizes", "stays", "gone", "size"]
theorem sc_sizes : FnScope n_sizes ["web"] (defScope s_sizes) := ⟨rfl, rfl, rfl, by decide +kernel, rfl, by decide +kernel, by decide +kernel⟩
theorem h_sizes {f : Addr} {fd : FuncData} (F : Fun K "deed_sizes" "deed_sizes" s_sizes f fd) (hm : mg "deed_sizes" = some (.ref f)) (B : Bi mg) (hW : Has P w K mg base T "need_web" 3 rNeed_web) (hN : Has P w K mg base T "need_small" 1 rNeed_small) (hD : Has P w K mg base T "all_deeds" 6 rAll_deeds) : Has P w K mg base T "deed_sizes" 7 rSizes := by
  refine fn_data F sc_sizes hm (F.binds fun _ _ _ _ _ _ us hl => match us, hl with | [_], _ => rfl) (fun ds r h => ?_) fun cdv A outer s H E H0s H0 ds r hr hR => ?_
  · obtain ⟨W, _, _, rfl, _⟩ := h
    rfl
  · obtain ⟨W, hW1, hn, rfl, rfl⟩ := hR
    obtain ⟨⟨h1, _⟩, _⟩ := webOk_of hW1
    have hdl := allDeeds_len hn
    refine ⟨.rt (tupD nD (deedSizes W)), .inl rfl, ?_⟩
    refine pds_cons (δ1 := [.d (webD W), .no, .no, .no, .no]) (pds_expr (pd_call hW (hr.mono (by decide)) ⟨W, hW1, rfl, rfl⟩ (pda_cons (pd_var 0 rfl) pda_nil))) ?_
    refine pds_cons (δ1 := [.d (webD W), .no, .no, .no, .no]) (pds_expr (pd_call hN (hr.mono (by decide)) ⟨W, by omega, rfl, rfl⟩ (pda_cons (pd_var 0 rfl) pda_nil))) ?_
    refine pds_cons (δ1 := [.d (webD W), .d (listD nD (sizesL W)), .no, .no, .no]) (pds_set 1 sc_sizes.nd (pd_is (pd_lc (g := gTup K 2 (gCons (gName 2) (gCons (gName 3) gNil))) (own := [("stays", 2), ("gone", 3)]) (allDeeds W) ddD (fun d => [.d (webD W), .no, .d (lotD d.1), .d (lotD d.2), .no]) (fun _ => true) (fun d => nD d.2.length) rfl sc_sizes.nd
      (pid_list (pd_call hD hr ⟨W, h1, hn, rfl, rfl⟩ (pda_cons (pd_var 0 rfl) pda_nil))) (by omega) (blkOk_by (N := n_sizes) (sc := defScope s_sizes) (by decide +kernel)) (fun _ _ _ _ _ => pg_tup rfl (pgs_cons (pg_name (i := 2) sc_sizes.nd rfl (Or.inl rfl)) (pgs_cons (pg_name (i := 3) sc_sizes.nd rfl (Or.inl rfl)) pgs_nil)))
      (fun y _ => tg_pair (by decide) (by decide)) (fun _ _ _ _ _ g _ => pts_no) (fun _ _ _ _ _ d _ _ => pd_lenT B.len (pd_var 3 rfl))) ?_)) ?_
    · rw [filt_all]
      unfold listD sizesL
      rw [List.map_map]
      rfl
    · refine pds_one (pds_ret (pd_is (pd_tuple B.tuple (pd_lc (own := [("size", 4)]) (List.range (W.n + 1)) nD (fun z => [.d (webD W), .d (listD nD (sizesL W)), .no, .no, .d (nD z)]) (fun _ => true) (fun z => nD ((sizesL W).count z)) rfl sc_sizes.nd
        (pid_rangeZ (pda_cons (pd_op op_add rd_II (pd_web0 (pd_var 0 rfl)) pd_int) pda_nil) (by omega) (by omega) (by omega) B.range) (by rw [List.length_range]; omega) (blkOk_by (N := n_sizes) (sc := defScope s_sizes) (by decide +kernel)) (fun _ _ _ _ _ => pg_name (i := 4) sc_sizes.nd rfl (Or.inl rfl)) (fun y _ => tg_name (by decide)) (fun _ _ _ _ _ g _ => pts_no)
        (fun _ _ _ _ _ z _ _ => pd_count (pd_var 1 rfl) (pd_var 4 rfl)))) ?_))
      rw [filt_all]
      unfold tupD deedSizes
      rw [List.map_map]
      rfl
end
end K28

set_option Elab.async false
set_option linter.all false
set_option maxRecDepth 100000
set_option maxHeartbeats 4000000
namespace K28
open PySem PySem.Spec PyProof.Rows L2

theorem tg_three {δ : List Ent} {x y z : PyData} {ks : List Nat} {K : PySem.W.Frag} {i j l : Nat} (hi : i ∈ ks) (hj : j ∈ ks) (hl : l ∈ ks) : TgD (gTup K 3 (gCons (gName i) (gCons (gName j) (gCons (gName l) gNil)))) (.tuple [x, y, z]) δ (((δ.set i (.d x)).set j (.d y)).set l (.d z)) ks := fun Hs H σ v Q s e d k => by
  obtain ⟨p, vs, rfl, h1, h2⟩ := d.tupV
  cases h2 with
  | cons a t =>
    cases t with
    | cons b t2 =>
      cases t2 with
      | cons c t3 =>
        cases t3
        refine ⟨p, _, rfl, SqT.of (s.tup h1), rfl, _, _, rfl, _, _, rfl, _, _, rfl, rfl, ?_⟩
        refine k _ (((e.set a).set b).set c) (fun m hm => ?_) (by simp)
        rw [List.getElem?_set_ne (fun z => hm (by rw [← z]; exact hl)), List.getElem?_set_ne (fun z => hm (by rw [← z]; exact hj)), List.getElem?_set_ne (fun z => hm (by rw [← z]; exact hi))]
section
variable {P : Program} {w : World} {K : PySem.W.Frag} {mg : Str → Option Value} {base : Heap} {T : Tx}
/-! ### merged -/
def endsL (W : Web) (row : List Nat) : List (List Nat) := (gaths W).map fun g => st W g row row.length
def mrg (es : List (List Nat)) : Nat → Nat
  | 0 => 0
  | k + 1 => mrg es k + ((es.take k).filter fun o => decide (o = es.getD k [])).length
def rMerged : List PyData → PyData → Prop := fun ds r => ∃ W row, webOk W = true ∧ W.n ≤ 4 ∧ row.length ≤ 30 ∧ (∀ o ∈ row, o < W.n) ∧ ds = [webD W, lotD row] ∧ r = nD (mrg (endsL W row) (endsL W row).length)
abbrev s_merged : Stmt := top 38
abbrev n_merged : List Str := ["web", "row", "one", "ends", "found", "at", "other"]
theorem sc_merged : FnScope n_merged ["web", "row"] (defScope s_merged) := ⟨rfl, rfl, rfl, by decide +kernel, rfl, by decide +kernel, by decide +kernel⟩
theorem st_last {W : Web} {g row : List Nat} (k : Nat) : (traceL W g row k).getLast? = some (st W g row k) := by
  unfold traceL
  rw [List.range_succ, List.map_append]
  simp
theorem h_merged {f : Addr} {fd : FuncData} (F : Fun K "merged" "merged" s_merged f fd) (hm : mg "merged" = some (.ref f)) (B : Bi mg) (hW : Has P w K mg base T "need_web" 3 rNeed_web) (hN : Has P w K mg base T "need_row" 4 rNeed_row) (hT : Has P w K mg base T "trace" 3 rTrace) (hG : Has P w K mg base T "all_gatherings" 5 rAll_gath) :
    Has P w K mg base T "merged" 6 rMerged := by
  refine fn_data F sc_merged hm (F.binds fun _ _ _ _ _ _ us hl => match us, hl with | [_, _], _ => rfl) (fun ds r h => ?_) fun cdv A outer s H E H0s H0 ds r hr hR => ?_
  · obtain ⟨W, row, _, _, _, _, rfl, _⟩ := h
    rfl
  · obtain ⟨W, row, hW1, hn, hrow, hro, rfl, rfl⟩ := hR
    obtain ⟨⟨h1, _⟩, _⟩ := webOk_of hW1
    have hgl := gaths_len W
    have hp : 2 ^ W.n ≤ 16 := by
      have := Nat.pow_le_pow_right (show 0 < 2 by decide) hn
      simpa using this
    obtain ⟨es, hes⟩ : ∃ es, es = endsL W row := ⟨_, rfl⟩
    have hel : es.length ≤ 16 := by rw [hes]; unfold endsL; rw [List.length_map]; omega
    refine ⟨.rt (nD (mrg (endsL W row) (endsL W row).length)), .inl rfl, ?_⟩
    refine pds_cons (δ1 := [.d (webD W), .d (lotD row), .no, .no, .no, .no, .no]) (pds_expr (pd_call hW (hr.mono (by decide)) ⟨W, hW1, rfl, rfl⟩ (pda_cons (pd_var 0 rfl) pda_nil))) ?_
    refine pds_cons (δ1 := [.d (webD W), .d (lotD row), .no, .no, .no, .no, .no]) (pds_expr (pd_call hN (hr.mono (by decide)) ⟨W, row, h1, hrow, hro, rfl, rfl⟩ (pda_cons (pd_var 0 rfl) (pda_cons (pd_var 1 rfl) pda_nil)))) ?_
    rw [← hes]
    refine pds_cons (δ1 := [.d (webD W), .d (lotD row), .no, .d (listD lotD es), .d (nD (mrg es 0)), .no, .no]) (pds_par 3 4 rfl sc_merged.nd (pd_is (pd_lc (g := gName 2) (own := [("one", 2)]) (gaths W) lotD (fun g => [.d (webD W), .d (lotD row), .d (lotD g), .no, .no, .no, .no]) (fun _ => true) (fun g => lotD (st W g row row.length)) rfl sc_merged.nd
      (pid_list (pd_call hG hr ⟨W, h1, by omega, rfl, rfl⟩ (pda_cons (pd_var 0 rfl) pda_nil))) (by omega) (blkOk_by (N := n_merged) (sc := defScope s_merged) (by decide +kernel)) (fun _ _ _ _ _ => pg_name (i := 2) sc_merged.nd rfl (Or.inl rfl)) (fun y _ => tg_name (by decide)) (fun _ _ _ _ _ g _ => pts_no)
      (fun _ _ _ _ _ g hg _ => pd_ix ix_list (rd_ixL (ix_last (st_last row.length))) (pd_call hT (hr.mono (by decide)) ⟨W, g, row, by have := gaths_mem hg; omega, hrow, rfl, rfl⟩ (pda_cons (pd_var 0 rfl) (pda_cons (pd_var 2 rfl) (pda_cons (pd_var 1 rfl) pda_nil)))) (pd_neg pd_int))) ?_) pd_int) ?_
    · rw [filt_all, hes]
      unfold listD endsL
      rw [List.map_map]
      rfl
    refine pds_cons (δ1 := [.d (webD W), .d (lotD row), .no, .d (listD lotD es), .d (nD (mrg es es.length)), .no, .no]) ?_ (pds_one (pds_ret (pd_var 4 rfl)))
    refine pds_forD (ks := [5, 2]) (g := gTup K 2 (gCons (gName 5) (gCons (gName 2) gNil))) (zipI 0 es) (fun p => .tuple [nD p.1, lotD p.2]) (fun k => [.d (webD W), .d (lotD row), .no, .d (listD lotD es), .d (nD (mrg es k)), .no, .no]) (fun k p => [.d (webD W), .d (lotD row), .d (lotD p.2), .d (listD lotD es), .d (nD (mrg es k)), .d (nD p.1), .no]) rfl (by rw [zipI_len]) PassesOwn.never rfl
        (by rw [zipI_enum]; exact pid_enum (pda_cons (pd_var 3 rfl) pda_nil) B.enumerate) (pg_tup rfl (pgs_cons (pg_name (i := 5) sc_merged.nd rfl (Or.inl rfl)) (pgs_cons (pg_name (i := 2) sc_merged.nd rfl (Or.inr rfl)) pgs_nil))) (fun k y => trivial) (fun k y hy => tg_pair (by decide) (by decide)) (fun k y hy => ?_)
    have hyk : y.1 = k ∧ es.getD k [] = y.2 ∧ k < es.length := by
      rw [zipI_get] at hy
      cases e : es[k]? with
      | none => rw [e] at hy; cases hy
      | some z =>
        rw [e] at hy
        cases hy
        exact ⟨by show 0 + k = k; omega, by rw [List.getD_eq_getElem?_getD, e]; rfl, (List.getElem?_eq_some_iff.mp e).1⟩
    obtain ⟨e1, e2, e3⟩ := hyk
    have hfl := List.length_filter_le (fun o => decide (o = y.2)) (es.take k)
    have htl : (es.take k).length ≤ 16 := Nat.le_trans (List.length_take_le' _ _) hel
    refine pds_weak (δ1 := [.d (webD W), .d (lotD row), .d (lotD y.2), .d (listD lotD es), .d (nD (mrg es (k + 1))), .d (nD y.1), .no]) (less_of ⟨rfl, rfl, rfl, rfl, trivial⟩) (pds_one (pds_set 4 sc_merged.nd (pd_is (pd_op op_add rd_II (pd_var 4 rfl) (pd_lenL (en := fun _ : List Nat => PyData.int 1) (xs := (es.take k).filter fun o => decide (o = y.2)) B.len
      (pd_lc (g := gName 6) (own := [("other", 6)]) (es.take k) lotD (fun o => [.d (webD W), .d (lotD row), .d (lotD y.2), .d (listD lotD es), .d (nD (mrg es k)), .d (nD y.1), .d (lotD o)]) (fun o => decide (o = y.2)) (fun _ => PyData.int 1) rfl sc_merged.nd
        (pid_list (pd_upto (pd_var 3 rfl) (by rw [← e1]; exact pd_var 5 rfl))) (by omega) (blkOk_by (N := n_merged) (sc := defScope s_merged) (by decide +kernel)) (fun _ _ _ _ _ => pg_name (i := 6) sc_merged.nd rfl (Or.inl rfl)) (fun y _ => tg_name (by decide))
        (fun _ _ _ _ _ o _ => pts_one (pdt_cmp (op_eqD (hu64 hr)) (rd_eqE Enc.lot (by decide)) (pd_var 6 rfl) (pd_var 2 rfl) (by rfl))) (fun _ _ _ _ _ o _ _ => pd_int)))) ?_)))
    rw [mrg, e2]
    show PyData.int _ = PyData.int _
    congr 1
/-! ### choices -/
def expand (p : List (List Nat) × List (List Nat)) : List (List (List Nat) × List (List Nat)) := (zipI 0 p.2).map fun q => (p.1 ++ [q.2], p.2.drop (q.1 + 1))
def chS (sm : List (List Nat)) : Nat → List (List (List Nat) × List (List Nat))
  | 0 => [([], sm)]
  | k + 1 => (chS sm k).flatMap expand
def crD (p : List (List Nat) × List (List Nat)) : PyData := .tuple [tupD lotD p.1, listD lotD p.2]
/-- a weight: how many rows a choice may still grow to -/
def wgt (l : List (List (List Nat) × List (List Nat))) : Nat := (l.map fun p => 2 ^ p.2.length).sum
theorem wgt_len : ∀ l, l.length ≤ wgt l
  | [] => Nat.le_refl _
  | p :: l => by
    have h1 := wgt_len l
    have h2 : 0 < 2 ^ p.2.length := Nat.pow_pos (by decide)
    unfold wgt at *
    rw [List.map_cons, List.sum_cons, List.length_cons]
    omega
theorem wgt_app (l m) : wgt (l ++ m) = wgt l + wgt m := by
  unfold wgt
  rw [List.map_append, List.sum_append]
theorem wgt_exp (r : List (List Nat)) : ∀ (rest all : List (List Nat)) (k : Nat), all.drop k = rest → wgt ((zipI k rest).map fun q => (r ++ [q.2], all.drop (q.1 + 1))) < 2 ^ rest.length
  | [], all, k, _ => by simp [zipI, wgt]
  | x :: rest, all, k, h => by
    have h2 : all.drop (k + 1) = rest := by
      rw [← List.tail_drop, h]
      rfl
    have ih := wgt_exp r rest all (k + 1) h2
    rw [zipI, List.map_cons]
    unfold wgt at *
    rw [List.map_cons, List.sum_cons, h2, List.length_cons, Nat.pow_succ]
    show 2 ^ rest.length + _ < _
    omega
theorem wgt_expand (p) : wgt (expand p) ≤ 2 ^ p.2.length := Nat.le_of_lt (wgt_exp p.1 p.2 p.2 0 rfl)
theorem wgt_flat : ∀ l, wgt (l.flatMap expand) ≤ wgt l
  | [] => Nat.le_refl _
  | p :: l => by
    have h1 := wgt_flat l
    have h2 := wgt_expand p
    rw [List.flatMap_cons, wgt_app]
    have : wgt (p :: l) = 2 ^ p.2.length + wgt l := by unfold wgt; rw [List.map_cons, List.sum_cons]
    omega
theorem wgt_chS (sm) : ∀ k, wgt (chS sm k) ≤ 2 ^ sm.length
  | 0 => by simp [chS, wgt]
  | k + 1 => Nat.le_trans (wgt_flat _) (wgt_chS sm k)
theorem expand_len (p) : (expand p).length = p.2.length := by
  unfold expand
  rw [List.length_map, zipI_len]
/-- the rows are short, of what is there -/
theorem chS_ok {sm : List (List Nat)} : ∀ k, ∀ p ∈ chS sm k, p.1.length + p.2.length ≤ sm.length ∧ (∀ g ∈ p.1, g ∈ sm) ∧ ∀ g ∈ p.2, g ∈ sm
  | 0, p, h => by
    rw [chS] at h
    rw [List.mem_singleton.mp h]
    exact ⟨by simp, fun g hg => absurd hg (by simp), fun g hg => hg⟩
  | k + 1, p, h => by
    rw [chS] at h
    obtain ⟨q, hq, hp⟩ := List.mem_flatMap.mp h
    obtain ⟨a, b, c⟩ := chS_ok k q hq
    unfold expand at hp
    obtain ⟨z, hz, rfl⟩ := List.mem_map.mp hp
    obtain ⟨i, hi⟩ := List.getElem?_of_mem hz
    rw [zipI_get] at hi
    cases e : q.2[i]? with
    | none => rw [e] at hi; cases hi
    | some x =>
      rw [e] at hi
      cases hi
      have hlt := (List.getElem?_eq_some_iff.mp e).1
      refine ⟨?_, fun g hg => ?_, fun g hg => c g (List.mem_of_mem_drop hg)⟩
      · simp only [List.length_append, List.length_cons, List.length_nil, List.length_drop]
        omega
      · rcases List.mem_append.mp hg with w | w
        · exact b g w
        · rw [List.mem_singleton.mp w]
          exact c x (List.mem_of_getElem? e)
def rChoices : List PyData → PyData → Prop := fun ds r => ∃ sm k, sm.length ≤ 8 ∧ k ≤ 100 ∧ ds = [listD lotD sm, nD k] ∧ r = listD (tupD lotD) ((chS sm k).map (·.1))
abbrev s_choices : Stmt := top 36
abbrev n_choices : List Str := ["some", "many", "found", "turn", "more", "row", "rest", "at", "one"]
theorem sc_choices : FnScope n_choices ["some", "many"] (defScope s_choices) := ⟨rfl, rfl, rfl, by decide +kernel, rfl, by decide +kernel, by decide +kernel⟩
theorem h_choices {f : Addr} {fd : FuncData} (F : Fun K "choices" "choices" s_choices f fd) (hm : mg "choices" = some (.ref f)) (B : Bi mg) : Has P w K mg base T "choices" 1 rChoices := by
  refine fn_data F sc_choices hm (F.binds fun _ _ _ _ _ _ us hl => match us, hl with | [_, _], _ => rfl) (fun ds r h => ?_) fun cdv A outer s H E H0s H0 ds r hr hR => ?_
  · obtain ⟨sm, k, _, _, rfl, _⟩ := h
    rfl
  · obtain ⟨sm, m, hsm, hmm, rfl, rfl⟩ := hR
    have hwg : ∀ k, (chS sm k).length ≤ 256 := fun k => by
      have h1 := wgt_len (chS sm k)
      have h2 := wgt_chS sm k
      have h3 := Nat.pow_le_pow_right (show 0 < 2 by decide) hsm
      have : (2 : Nat) ^ 8 = 256 := by decide
      omega
    refine ⟨.rt (listD (tupD lotD) ((chS sm m).map (·.1))), .inl rfl, ?_⟩
    refine pds_cons (δ1 := [.d (listD lotD sm), .d (nD m), .d (listD crD (chS sm 0)), .no, .no, .no, .no, .no, .no]) (pds_set 2 sc_choices.nd (pd_lst (ds := [crD ([], sm)]) (pda_cons (pd_tup (ds := [tupD lotD [], listD lotD sm]) (pda_cons (pd_tup (ds := []) pda_nil (by decide)) (pda_cons (pd_var 0 rfl) pda_nil)) (by show 2 ≤ 1000; decide)) pda_nil) (by show 1 ≤ 1000; decide))) ?_
    refine pds_cons (δ1 := [.d (listD lotD sm), .d (nD m), .d (listD crD (chS sm m)), .no, .no, .no, .no, .no, .no]) ?_ ?_
    · refine pds_forN (ks := [3]) (g := gName 3) m (fun k => [.d (listD lotD sm), .d (nD m), .d (listD crD (chS sm k)), .no, .no, .no, .no, .no, .no]) (fun k => [.d (listD lotD sm), .d (nD m), .d (listD crD (chS sm k)), .d (nD k), .no, .no, .no, .no, .no]) rfl rfl PassesOwn.never rfl
        (pid_range (n := m) (pda_cons (pd_var 1 rfl) pda_nil) (by omega) B.range) (pg_name (i := 3) sc_choices.nd rfl (Or.inl rfl)) (fun k => trivial) (fun k => tg_name (by decide)) (fun k hk => ?_)
      obtain ⟨cs, hcs⟩ : ∃ cs, cs = chS sm k := ⟨_, rfl⟩
      have e0 : chS sm (k + 1) = cs.flatMap expand := by rw [chS, hcs]
      have hfl : ∀ j, ((cs.take j).flatMap expand).length ≤ 256 := fun j => by
        have h1 := wgt_len ((cs.take j).flatMap expand)
        have h2 := wgt_flat (cs.take j)
        have h3 : wgt (cs.take j) ≤ wgt cs := by
          have := wgt_app (cs.take j) (cs.drop j)
          rw [List.take_append_drop] at this
          omega
        have h4 := wgt_chS sm k
        rw [← hcs] at h4
        have h5 := Nat.pow_le_pow_right (show 0 < 2 by decide) hsm
        have : (2 : Nat) ^ 8 = 256 := by decide
        omega
      have hok : ∀ p ∈ cs, p.2.length ≤ 8 ∧ p.1.length ≤ 8 := fun p hp => by
        rw [hcs] at hp
        have := (chS_ok k p hp).1
        omega
      rw [← hcs]
      refine pds_cons (δ1 := [.d (listD lotD sm), .d (nD m), .d (listD crD cs), .d (nD k), .d (listD crD []), .no, .no, .no, .no]) (pds_set 4 sc_choices.nd (pd_lst (ds := []) pda_nil (by decide))) ?_
      refine pds_cons (δ1 := [.d (listD lotD sm), .d (nD m), .d (listD crD cs), .d (nD k), .d (listD crD (cs.flatMap expand)), .no, .no, .no, .no]) ?_ ?_
      · refine pds_forD (ks := [5, 6]) (g := gTup K 2 (gCons (gName 5) (gCons (gName 6) gNil))) cs crD (fun j => [.d (listD lotD sm), .d (nD m), .d (listD crD cs), .d (nD k), .d (listD crD ((cs.take j).flatMap expand)), .no, .no, .no, .no])
          (fun j p => [.d (listD lotD sm), .d (nD m), .d (listD crD cs), .d (nD k), .d (listD crD ((cs.take j).flatMap expand)), .d (tupD lotD p.1), .d (listD lotD p.2), .no, .no]) rfl (by rw [List.take_length]) PassesOwn.never rfl
          (pid_list (pd_var 2 rfl)) (pg_tup rfl (pgs_cons (pg_name (i := 5) sc_choices.nd rfl (Or.inr rfl)) (pgs_cons (pg_name (i := 6) sc_choices.nd rfl (Or.inr rfl)) pgs_nil))) (fun j p => trivial) (fun j p hp => tg_pair (by decide) (by decide)) (fun j p hp => ?_)
        have e1 : (cs.take (j + 1)).flatMap expand = (cs.take j).flatMap expand ++ expand p := by
          rw [List.take_add_one, hp, List.flatMap_append]
          simp
        obtain ⟨hp2, hp1⟩ := hok p (List.mem_of_getElem? hp)
        have hj := hfl j
        have he := expand_len p
        rw [e1]
        refine pds_weak (δ1 := [.d (listD lotD sm), .d (nD m), .d (listD crD cs), .d (nD k), .d (listD crD ((cs.take j).flatMap expand ++ expand p)), .d (tupD lotD p.1), .d (listD lotD p.2), .no, .no]) (less_of ⟨rfl, rfl, rfl, rfl, rfl, trivial⟩) (pds_one (pds_set 4 sc_choices.nd (pd_is (pd_op op_cat (rd_cat ?_) (pd_var 4 rfl)
          (pd_lc (g := gTup K 2 (gCons (gName 7) (gCons (gName 8) gNil))) (own := [("at", 7), ("one", 8)]) (zipI 0 p.2) (fun q => .tuple [nD q.1, lotD q.2]) (fun q => [.d (listD lotD sm), .d (nD m), .d (listD crD cs), .d (nD k), .d (listD crD ((cs.take j).flatMap expand)), .d (tupD lotD p.1), .d (listD lotD p.2), .d (nD q.1), .d (lotD q.2)]) (fun _ => true) (fun q => crD (p.1 ++ [q.2], p.2.drop (q.1 + 1))) rfl sc_choices.nd
            (by rw [zipI_enum]; exact pid_enum (pda_cons (pd_var 6 rfl) pda_nil) B.enumerate) (by rw [zipI_len]; omega) (blkOk_by (N := n_choices) (sc := defScope s_choices) (by decide +kernel)) (fun _ _ _ _ _ => pg_tup rfl (pgs_cons (pg_name (i := 7) sc_choices.nd rfl (Or.inl rfl)) (pgs_cons (pg_name (i := 8) sc_choices.nd rfl (Or.inl rfl)) pgs_nil)))
            (fun y _ => tg_pair (by decide) (by decide)) (fun _ _ _ _ _ g _ => pts_no)
            (fun _ _ _ _ _ q _ _ => pd_tup (ds := [tupD lotD (p.1 ++ [q.2]), listD lotD (p.2.drop (q.1 + 1))]) (pda_cons (pd_is (pd_tup (pda_starT (pd_var 5 rfl) (pda_cons (pd_var 8 rfl) pda_nil)) ?_) ?_) (pda_cons (pd_from (pd_var 6 rfl) (pd_is (pd_op op_add rd_II (pd_var 7 rfl) pd_int) ?_)) pda_nil)) (by show 2 ≤ 1000; decide)))) ?_)))
        · rw [filt_all]
          simp only [List.length_map]
          rw [zipI_len]
          omega
        · simp only [List.length_append, List.length_map, List.length_cons, List.length_nil]
          omega
        · unfold tupD
          rw [List.map_append]
          rfl
        · show PyData.int _ = PyData.int _
          congr 1
        · rw [filt_all]
          unfold listD expand
          rw [List.map_append, List.map_map]
          rfl
      · rw [e0]
        exact pds_weak (δ1 := [.d (listD lotD sm), .d (nD m), .d (listD crD (cs.flatMap expand)), .d (nD k), .d (listD crD (cs.flatMap expand)), .no, .no, .no, .no]) (less_of ⟨rfl, rfl, rfl, trivial⟩) (pds_one (pds_set 2 sc_choices.nd (pd_var 4 rfl)))
    · have := hwg m
      refine pds_one (pds_ret (pd_is (pd_lc (g := gTup K 2 (gCons (gName 5) (gCons (gName 6) gNil))) (own := [("row", 5), ("rest", 6)]) (chS sm m) crD (fun p => [.d (listD lotD sm), .d (nD m), .d (listD crD (chS sm m)), .no, .no, .d (tupD lotD p.1), .d (listD lotD p.2), .no, .no]) (fun _ => true) (fun p => tupD lotD p.1) rfl sc_choices.nd
        (pid_list (pd_var 2 rfl)) (by omega) (blkOk_by (N := n_choices) (sc := defScope s_choices) (by decide +kernel)) (fun _ _ _ _ _ => pg_tup rfl (pgs_cons (pg_name (i := 5) sc_choices.nd rfl (Or.inl rfl)) (pgs_cons (pg_name (i := 6) sc_choices.nd rfl (Or.inl rfl)) pgs_nil))) (fun y _ => tg_pair (by decide) (by decide)) (fun _ _ _ _ _ g _ => pts_no) (fun _ _ _ _ _ p _ _ => pd_var 5 rfl)) ?_))
      rw [filt_all]
      unfold listD
      rw [List.map_map]
      rfl
end
end K28

set_option Elab.async false
set_option linter.all false
set_option maxRecDepth 100000
set_option maxHeartbeats 4000000
namespace K28
open PySem PySem.Spec PyProof.Rows L2

section
variable {P : Program} {w : World} {K : PySem.W.Frag} {mg : Str → Option Value} {base : Heap} {T : Tx}
/-! ### least_telling -/
def telK (W : Web) (k : Nat) : Bool := ((chS (gaths W) k).map (·.1)).any fun row => tells (allDeeds W) row
def rLeast : List PyData → PyData → Prop := fun ds r => ∃ W n, webOk W = true ∧ W.n ≤ 3 ∧ n ≤ 100 ∧ telK W n = true ∧ (∀ k, k < n → telK W k = false) ∧ ds = [webD W] ∧ r = nD n
abbrev s_least : Stmt := top 37
abbrev n_least : List Str := ["web", "deeds", "some", "many", "row"]
theorem sc_least : FnScope n_least ["web"] (defScope s_least) := ⟨rfl, rfl, rfl, by decide +kernel, rfl, by decide +kernel, by decide +kernel⟩
theorem h_least {f c Pt : Addr} {fd : FuncData} (F : FunC K "least_telling" "least_telling" s_least f fd c) (TB : GxR.TabB base mg c Pt) (hPt : Pt ∈ T.tabs) (hm : mg "least_telling" = some (.ref f)) (B : Bi mg) (C : Cn mg) (hW : Has P w K mg base T "need_web" 3 rNeed_web) (hD : Has P w K mg base T "all_deeds" 6 rAll_deeds) (hG : Has P w K mg base T "all_gatherings" 5 rAll_gath)
    (hT : Has P w K mg base T "tells" 2 rTells) (hC : Has P w K mg base T "choices" 1 rChoices) : Has P w K mg base T "least_telling" 7 rLeast := by
  refine fn_dataC F sc_least hm (F.fn.binds fun _ _ _ _ _ _ us hl => match us, hl with | [_], _ => rfl) (fun ds r h => ?_) fun A outer s H E H0s H0 ds r hr hR => ?_
  · obtain ⟨W, n, _, _, _, _, _, rfl, _⟩ := h
    rfl
  · obtain ⟨W, n, hW1, hn, hn100, hend, hne, rfl, rfl⟩ := hR
    obtain ⟨⟨h1, _⟩, _⟩ := webOk_of hW1
    obtain ⟨t, hleast⟩ := C.least
    have hdl := allDeeds_len (W := W) (by omega)
    have hgl : (gaths W).length ≤ 8 := by
      have h2 := gaths_len W
      have h3 := Nat.pow_le_pow_right (show 0 < 2 by decide) hn
      have : (2 : Nat) ^ 3 = 8 := by decide
      omega
    refine ⟨.rt (nD n), .inl rfl, ?_⟩
    refine pds_cons (δ1 := [.d (webD W), .no, .no, .no, .no]) (pds_expr (pd_call hW (hr.mono (by decide)) ⟨W, hW1, rfl, rfl⟩ (pda_cons (pd_var 0 rfl) pda_nil))) ?_
    refine pds_cons (δ1 := [.d (webD W), .no, .no, .no, .no]) (pds_ifF (pdt_is (pdt_cmp op_gt rd_IB (pd_web0 (pd_var 0 rfl)) (pd_glob (by rfl) hleast) (by rfl)) (decide_eq_false (by omega))) pds_nil) ?_
    refine pds_cons (δ1 := [.d (webD W), .d (listD ddD (allDeeds W)), .d (listD lotD (gaths W)), .d (nD 0), .no]) (pds_asg (ks := [1, 2, 3]) (x := .tuple [listD ddD (allDeeds W), listD lotD (gaths W), nD 0]) (pd_tup (pda_cons (pd_call hD hr ⟨W, h1, by omega, rfl, rfl⟩ (pda_cons (pd_var 0 rfl) pda_nil)) (pda_cons (pd_call hG (hr.mono (by decide)) ⟨W, h1, by omega, rfl, rfl⟩ (pda_cons (pd_var 0 rfl) pda_nil)) (pda_cons pd_int pda_nil))) (by show 3 ≤ 1000; decide))
      (pg_tup rfl (pgs_cons (pg_name (i := 1) sc_least.nd rfl (Or.inr rfl)) (pgs_cons (pg_name (i := 2) sc_least.nd rfl (Or.inl rfl)) (pgs_cons (pg_name (i := 3) sc_least.nd rfl (Or.inl rfl)) pgs_nil)))) (tg_three (by decide) (by decide) (by decide)) (ownFree_mine (by trivial))) ?_
    refine pds_cons (δ1 := [.d (webD W), .d (listD ddD (allDeeds W)), .d (listD lotD (gaths W)), .d (nD n), .no]) ?_ (pds_one (pds_ret (pd_var 3 rfl)))
    refine pds_while n (fun k => [.d (webD W), .d (listD ddD (allDeeds W)), .d (listD lotD (gaths W)), .d (nD k), .no]) rfl PassesOwn.never (fun k hk => ?_) (fun k hk => ?_)
    · refine pdt_is (pdt_not (pdt_val (pd_any (k := 5) (own := [("row", 4)]) (g := gName 4) ((chS (gaths W) k).map (·.1)) (tupD lotD) (fun row => [.d (webD W), .d (listD ddD (allDeeds W)), .d (listD lotD (gaths W)), .d (nD k), .d (tupD lotD row)]) (fun row => tells (allDeeds W) row) hr sc_least.nd B.any TB hPt rfl
        (pid_list (pd_call hC (hr.mono (by decide)) ⟨gaths W, k, hgl, by omega, rfl, rfl⟩ (pda_cons (pd_var 2 rfl) (pda_cons (pd_var 3 rfl) pda_nil)))) (blkOk_by (N := n_least) (sc := defScope s_least) (by decide +kernel)) (by decide +kernel) rfl rfl (fun _ _ _ _ _ _ _ _ => pg_name (i := 4) sc_least.nd rfl (Or.inl rfl)) (fun y _ => tg_name (by decide))
        (fun A s H cl C code fp pn hrG row hrow => pd_call hT (hrG.mono (by decide)) ⟨allDeeds W, row, by omega, fun d hd => by have := allDeeds_mem hd; omega, ?_, fun g hg => ?_, .inl rfl, rfl⟩ (pda_cons (pd_var 1 rfl) (pda_cons (pd_var 4 rfl) pda_nil)))))) ?_
      · obtain ⟨p, hp, rfl⟩ := List.mem_map.mp hrow
        have := (chS_ok k p hp).1
        omega
      · obtain ⟨p, hp, rfl⟩ := List.mem_map.mp hrow
        have := gaths_mem ((chS_ok k p hp).2.1 g hg)
        omega
      · show (!telK W k) = _
        rcases Nat.lt_or_ge k n with h | h
        · rw [hne k h, decide_eq_true h]
          rfl
        · have : k = n := by omega
          subst this
          rw [hend, decide_eq_false (Nat.lt_irrefl _)]
          rfl
    · exact pds_one (pds_set 3 sc_least.nd (pd_is (pd_op op_add rd_II (pd_var 3 rfl) pd_int) (by show PyData.int _ = PyData.int _; congr 1)))
end
end K28

set_option Elab.async false
set_option linter.all false
set_option maxRecDepth 100000
set_option maxHeartbeats 4000000
/-! what is not known for sure: values, tests, names within bounds. -/
namespace K28
open PySem PySem.Spec PyProof.Rows L2

def tDN (T : Tx) (δ : List Ent) (p : PyData → Prop) : TE := fun σ H Q => ∃ Hs, At T Hs H σ δ ∧ ∀ x v Hs' H', p x → Grow Hs H Hs' H' → Da Hs' v x → Q v H'
/-- any bool -/
def tDTA (T : Tx) (δ : List Ent) : TT := fun σ H Q => ∃ Hs, At T Hs H σ δ ∧ ∀ b Hs' H', Grow Hs H Hs' H' → Q b H'
def tSP (T : Tx) (H0s H0 : Hp) (δ : List Ent) (ON : List Ent → Prop) (OR : PyData → Prop) : TS := fun D σ H => ∃ Hs, Bt T H0s H0 Hs H σ δ ∧ (∀ δ' σ' Hs' H', ON δ' → Ex Hs Hs' → Bt T H0s H0 Hs' H' σ' δ' → D.nx σ' H') ∧
  ∀ x v Hs' H', OR x → Grow H0s H0 Hs' H' → Da Hs' v x → D.rt v H'
section
variable {X : Cx} {T : Tx} {H0s H0 : Hp} {δ δ1 : List Ent} {a b e : Expr} {es rest0 : List Expr} {pos p2 : Pos} {x y : PyData} {ds : List PyData} {p q : PyData → Prop} {st : Stmt} {rest sts A B : List Stmt} {ON ON' I : List Ent → Prop} {OR : PyData → Prop}
theorem pdn_of (h : PE X e (tD T δ x)) (hp : p x) : PE X e (tDN T δ p) := pe_imp h fun σ H Q ⟨Hs, at_, k⟩ => ⟨Hs, at_, fun v Hs' H' g d => k x v Hs' H' hp g d⟩
theorem pdn_imp (h : PE X e (tDN T δ p)) (hp : ∀ x, p x → q x) : PE X e (tDN T δ q) := pe_imp h fun σ H Q ⟨Hs, at_, k⟩ => ⟨Hs, at_, fun x v Hs' H' px g d => k x v Hs' H' (hp x px) g d⟩
/-- a value that is sure after all -/
theorem pd_ofN (h : PE X e (tDN T δ p)) (hp : ∀ y, p y → y = x) : PE X e (tD T δ x) := pe_imp h fun σ H Q ⟨Hs, at_, k⟩ => ⟨Hs, at_, fun y v Hs' H' py g d => k v Hs' H' g (hp y py ▸ d)⟩
theorem pdn_op {op : Operator} {r : R2} {g : PyData → PyData} (ho : OpR X (binaryOp op) r) (hr : ∀ y, p y → RD r x y (g y)) (ha : PE X a (tD T δ x)) (hb : PE X b (tDN T δ p)) (hq : ∀ y, p y → q (g y)) : PE X (.BinOp a op b pos) (tDN T δ q) :=
  pe_imp (pe_op ho ha hb) fun σ H Q ⟨Hs, at_, k⟩ => ⟨Hs, at_, fun v H1s H1 g1 d1 => ⟨H1s, at_.mono g1, fun y u H2s H2 py g2 d2 =>
    hr y py H2s H2 v u Q g2.sub (Da_mono g2.base d1) d2 fun w H3s H3 g3 d3 => k _ w H3s H3 (hq y py) ((g1.trans g2).trans g3) d3⟩⟩
theorem pdn_ix {r : R2} {g : PyData → PyData} (ho : IxR X r) (hr : ∀ y, p y → RD r x y (g y)) (ha : PE X a (tD T δ x)) (hb : PE X b (tDN T δ p)) (hq : ∀ y, p y → q (g y)) (hs : PlainIx b := by intro _ _; rfl) : PE X (.Subscript a b pos) (tDN T δ q) :=
  pe_imp (pe_ix ho ha hb hs) fun σ H Q ⟨Hs, at_, k⟩ => ⟨Hs, at_, fun v H1s H1 g1 d1 => ⟨H1s, at_.mono g1, fun y u H2s H2 py g2 d2 =>
    hr y py H2s H2 v u Q g2.sub (Da_mono g2.base d1) d2 fun w H3s H3 g3 d3 => k _ w H3s H3 (hq y py) ((g1.trans g2).trans g3) d3⟩⟩
/-! tests -/
theorem pdta_of {k : Bool} (h : PT X e (tDT T δ k)) : PT X e (tDTA T δ) := pt_imp h fun σ H Q ⟨Hs, at_, kk⟩ => ⟨Hs, at_, fun Hs' H' g => kk k Hs' H' g⟩
theorem pdta_cmp {op : CmpOp} {r : R2} {g : PyData → Bool} (ho : OpR X (compareOp op) r) (hr : ∀ z, p z → RD r z y (.bool (g z))) (ha : PE X a (tDN T δ p)) (hb : PE X b (tD T δ y)) (hm : behindInMarks op b = false) : PT X (.Compare a [op] [b] pos) (tDTA T δ) :=
  pt_imp (pt_cmpR ho ha hb hm) fun σ H Q ⟨Hs, at_, kk⟩ => ⟨Hs, at_, fun z v H1s H1 pz g1 d1 => ⟨H1s, at_.mono g1, fun u H2s H2 g2 d2 =>
    hr z pz H2s H2 v u _ g2.sub (Da_mono g2.base d1) d2 fun w H3s H3 g3 d3 => ⟨g z, d3.blV, kk _ H3s H3 ((g1.trans g2).trans g3)⟩⟩⟩
theorem pdwa_one {op : BoolOp} (h : PT X a (tDTA T δ)) : PW X (.BoolOp op [a] pos) (tDTA T δ) := by
  cases op with
  | And => exact pw_and1 h
  | Or => exact pw_or1 h
theorem pdwa_and (h : PT X a (tDTA T δ)) (h2 : PW X (.BoolOp .And (b :: rest0) pos) (tDTA T δ)) : PW X (.BoolOp .And (a :: b :: rest0) pos) (tDTA T δ) :=
  pw_imp (pw_and h h2) fun σ H Q ⟨Hs, at_, kk⟩ => ⟨Hs, at_, fun k H1s H1 g1 => by
    cases k with
    | false => exact iteF (kk _ H1s H1 g1)
    | true => exact iteT ⟨H1s, at_.mono g1, fun k2 H2s H2 g2 => kk k2 H2s H2 (g1.trans g2)⟩⟩
theorem pdwa_or (h : PT X a (tDTA T δ)) (h2 : PW X (.BoolOp .Or (b :: rest0) pos) (tDTA T δ)) : PW X (.BoolOp .Or (a :: b :: rest0) pos) (tDTA T δ) :=
  pw_imp (pw_or h h2) fun σ H Q ⟨Hs, at_, kk⟩ => ⟨Hs, at_, fun k H1s H1 g1 => by
    cases k with
    | true => exact iteT (kk _ H1s H1 g1)
    | false => exact iteF ⟨H1s, at_.mono g1, fun k2 H2s H2 g2 => kk k2 H2s H2 (g1.trans g2)⟩⟩
/-! statements -/
theorem psp_nx (h : PS X st (tS T H0s H0 δ (.nx δ1))) (hn : ON δ1) : PS X st (tSP T H0s H0 δ ON OR) := ps_imp h fun D σ H ⟨Hs, b, k, _⟩ => ⟨Hs, b, fun σ' Hs' H' e b' => k δ1 σ' Hs' H' hn e b'⟩
theorem psp_rt (h : PS X st (tS T H0s H0 δ (.rt x))) (hn : OR x) : PS X st (tSP T H0s H0 δ ON OR) := ps_imp h fun D σ H ⟨Hs, b, _, k⟩ => ⟨Hs, b, fun v Hs' H' g d => k x v Hs' H' hn g d⟩
theorem pspS_nx (h : PSs X sts (tS T H0s H0 δ (.nx δ1))) (hn : ON δ1) : PSs X sts (tSP T H0s H0 δ ON OR) := pss_imp h fun D σ H ⟨Hs, b, k, _⟩ => ⟨Hs, b, fun σ' Hs' H' e b' => k δ1 σ' Hs' H' hn e b'⟩
theorem pspS_rt (h : PSs X sts (tS T H0s H0 δ (.rt x))) (hn : OR x) : PSs X sts (tSP T H0s H0 δ ON OR) := pss_imp h fun D σ H ⟨Hs, b, _, k⟩ => ⟨Hs, b, fun v Hs' H' g d => k x v Hs' H' hn g d⟩
theorem pspS_nil (h : ON δ) : PSs X [] (tSP T H0s H0 δ ON OR) := pspS_nx pds_nil h
theorem pspS_ret (h : PE X e (tDN T δ p)) (hp : ∀ x, p x → OR x) : PSs X [.Return (some e) pos] (tSP T H0s H0 δ ON OR) :=
  pss_imp (pss_one (ps_ret h)) fun D σ H ⟨Hs, b, _, k⟩ => ⟨Hs, b.at, fun x v Hs' H' px g d => k x v Hs' H' (hp x px) (b.gr.trans g) d⟩
/-- one after another -/
theorem psp_cons (h1 : PS X st (tSP T H0s H0 δ I OR)) (h2 : ∀ δ', I δ' → PSs X rest (tSP T H0s H0 δ' ON OR)) : PSs X (st :: rest) (tSP T H0s H0 δ ON OR) := by
  have h2' : PSs X rest (fun D σ H => ∃ δ', I δ' ∧ tSP T H0s H0 δ' ON OR D σ H) := ⟨fun pins s σ H D J ⟨δ', hi, q⟩ => (h2 δ' hi).run pins s σ H D J q⟩
  exact pss_imp (pss_cons h1 h2') fun D σ H ⟨Hs, b, k1, k2⟩ => ⟨Hs, b, fun δ' σ' Hs' H' hi e b' => ⟨δ', hi, Hs', b', fun δ2 σ2 H2s H2 h2 e2 b2 => k1 δ2 σ2 H2s H2 h2 (e.trans e2) b2, k2⟩, k2⟩
theorem psp_one (h1 : PS X st (tSP T H0s H0 δ ON OR)) : PSs X [st] (tSP T H0s H0 δ ON OR) := pss_one h1
theorem psp_if {c : Expr} (hc : PT X c (tDTA T δ)) (hA : PSs X A (tSP T H0s H0 δ ON OR)) (hB : PSs X B (tSP T H0s H0 δ ON OR)) : PS X (.If c A B pos) (tSP T H0s H0 δ ON OR) :=
  ps_imp (ps_if hc hA hB) fun D σ H ⟨Hs, b, k1, k2⟩ => ⟨Hs, b.at, fun k Hs' H' g => by
    have rest : tSP T H0s H0 δ ON OR D σ H' := ⟨Hs', b.mono g, fun δ2 σ2 H2s H2 h2 e2 b2 => k1 δ2 σ2 H2s H2 h2 (g.base.trans e2) b2, k2⟩
    cases k with
    | true => exact iteT rest
    | false => exact iteF rest⟩
theorem psp_set (i : Nat) {s : Str} {ps : Pos} (hN : X.N.Nodup) (h : PE X e (tDN T δ p)) (hp : ∀ x, p x → ON (δ.set i (.d x))) (hi : X.N[i]? = some s := by rfl) (hx : Loc X.env.scope s := by first | exact Or.inl rfl | exact Or.inr rfl) (hs : swapsWith e (some (.Name s ps)) pos.line X.env = pure false := by rfl)
    (hf : X.fn s = true ∨ X.env.scope.names.lookup s = some .local := by first | exact .inl rfl | exact .inr rfl | assumption) : PS X (.Assign [.Name s ps] e pos) (tSP T H0s H0 δ ON OR) :=
  ps_imp (ps_set hN hi hx h hs hf) fun D σ H ⟨Hs, b, k, _⟩ => ⟨Hs, b.at, fun x v Hs' H' px g d => k _ _ Hs' H' (hp x px) g.base ((b.mono g).set d)⟩
/-- a, b = x, [] -/
theorem psp_parR (i j : Nat) {s t : Str} {px py pt pt2 lp : Pos} {kt k2 : Nat} (hc : X.calm = true) (hN : X.N.Nodup) (ha : PE X a (tDN T δ p)) (hp : ∀ x, p x → ON ((δ.set i (.d x)).set j (.own []))) (hij : i ≠ j := by decide) (hi : X.N[i]? = some s := by rfl) (hj : X.N[j]? = some t := by rfl)
    (hx : X.env.scope.names.lookup s = some .local := by rfl) (hy : X.env.scope.names.lookup t = some .local := by rfl) (he : starEach [a, .List [] lp] X.env = (false, eval a X.env) :: starEach [.List [] lp] X.env := by rfl) (he2 : starEach [.List [] lp] X.env = (false, eval (.List [] lp) X.env) :: starEach [] X.env := by rfl)
    (hw : swappedStores [.Tuple [.Name s px, .Name t py] kt pt] (.Tuple [a, .List [] lp] k2 pt2) X.env = pure (some [s, t]) := by rfl)
    (hs : swapsWithSole [.Tuple [.Name s px, .Name t py] kt pt] (.Tuple [a, .List [] lp] k2 pt2) pos.line X.env = pure false := by rfl) :
    PS X (.Assign [.Tuple [.Name s px, .Name t py] kt pt] (.Tuple [a, .List [] lp] k2 pt2) pos) (tSP T H0s H0 δ ON OR) :=
  ps_imp (ps_par hc hN hi hj hij hx hy (pa_cons ha (pa_cons (pe_lst pa_nil) pa_nil he2) he) hw hs) fun D σ H ⟨Hs, b, k, _⟩ => ⟨Hs, b.at, fun x v Hs' H' px g d => ⟨Nat.zero_le _, fun q hq =>
    ⟨_, _, rfl, k _ _ Hs' _ (hp x px) g.base (((b.mono g).set d).fresh hq .nil)⟩⟩⟩
/-- a loop: what is known of the names at each turn -/
theorem psp_for {tg iter : Expr} {body : List Stmt} {ι : Type} {g : TG} {ks : List Nat} (ys : List ι) (enc : ι → PyData) (J : Nat → List Ent → Prop) (tgt : ι → List Ent → List Ent) (h0 : J 0 δ) (hend : ∀ δ', J ys.length δ' → ON δ') (hp : PassesOwn (model X.prog X.w) X.A X.env X.xe) (hc : X.calm = true) (hi : PI X tg iter (piD T δ (ys.map enc))) (hg : PG X tg g)
    (htg : ∀ k y δ', ys[k]? = some y → J k δ' → TgD g (enc y) δ' (tgt y δ') ks) (hm : ∀ k y δ', J k δ' → ∀ (i : Nat) e, (tgt y δ')[i]? = some e → e.mine → δ'[i]? = some e ∧ i ∉ ks)
    (hb : ∀ k y δ', ys[k]? = some y → J k δ' → PSs X body (tSP T H0s H0 (tgt y δ') (J (k + 1)) (fun _ => False)))
    (hs : ∀ x, foldedSetIterable iter X.env x = pure x := by intro _; rfl) : PS X (.For tg iter body [] pos) (tSP T H0s H0 δ ON OR) := by
  have hb' : PSs X body (fun D σ H => ∃ k y δ', (ys[k]? = some y ∧ J k δ') ∧ tSP T H0s H0 (tgt y δ') (J (k + 1)) (fun _ => False) D σ H) := ⟨fun pins s σ H D I ⟨k, y, δ', ⟨hy, hj⟩, q⟩ => (hb k y δ' hy hj).run pins s σ H D I q⟩
  refine ps_imp (ps_for hp hc hi hg hb' hs) fun D σ H ⟨Hs, b, kk, _⟩ => ⟨Hs, b.at, fun Jt H1s H1 g1 src => ?_⟩
  refine ⟨fun i m σ H => m = ys.length - i ∧ i ≤ ys.length ∧ ∃ His δi, J i δi ∧ Ex H1s His ∧ Bt T H0s H0 His H σ δi, ⟨ys.length, by simp, Nat.zero_le _, H1s, δ, h0, .refl _, b.mono g1⟩, ?_⟩
  rintro i m σ2 H2 ⟨rfl, hil, H2s, δi, hj, e2, b2⟩
  obtain ⟨sgo, sst, sy⟩ := src H2s H2 e2 b2.gr.sub
  rw [List.length_map] at sgo sst sy
  by_cases hlt : i < ys.length
  · refine .inr ⟨sgo i hlt, fun σ' H' => ∃ H3s δ3, J (i + 1) δ3 ∧ Ex H1s H3s ∧ Bt T H0s H0 H3s H' σ' δ3, fun σ' H' ⟨H3s, δ3, j3, e3, b3⟩ => ⟨ys.length - (i + 1), by omega, rfl, hlt, H3s, δ3, j3, e3, b3⟩, fun v H3 y3 => ?_⟩
    obtain ⟨d, H3s, q1, g3, d3⟩ := sy i v H3 hlt y3
    rw [List.getElem?_map, List.getElem?_eq_getElem hlt] at q1
    have q1 : enc ys[i] = d := Option.some.inj q1
    subst q1
    have hy : ys[i]? = some ys[i] := List.getElem?_eq_getElem hlt
    generalize ys[i] = y at hy d3
    have b3 := b2.mono g3
    refine htg i y δi hy hj H3s H3 σ2 v _ g3.sub b3.env d3 fun σ' env' hs' hl' => ⟨i, y, δi, ⟨hy, hj⟩, H3s, ⟨b3.gr, env', fun j e p w1 m w2 => ?_, b3.tabs⟩, fun δ4 σ4 H4s H4 j4 e4 b4 => ⟨H4s, δ4, j4, (e2.trans g3.base).trans e4, b4⟩, fun _ _ _ _ z => z.elim⟩
    obtain ⟨h1, hjk⟩ := hm i y δi hj j e w1 m
    rw [hs' j hjk] at w2
    exact b3.own j e p h1 m w2
  · have e : i = ys.length := by omega
    subst e
    exact .inl ⟨sst _ rfl, kk δi σ2 H2s H2 (hend δi hj) (g1.base.trans e2) b2⟩
end

/-! ### defs -/
def spN (T : Tx) (Pre : List PyData → Prop) (Post : List PyData → PyData → Prop) : Sp := fun vs H Q _ => ∃ Hs ds, Ex Hs H ∧ DaAll Hs vs ds ∧ Pre ds ∧ Tabs T Hs H ∧ ∀ r v Hs' H', Post ds r → Grow Hs H Hs' H' → Da Hs' v r → Q v H'
structure HasN (P : Program) (w : World) (K : PySem.W.Frag) (mg : Str → Option Value) (base : Heap) (T : Tx) (n : Str) (k : Nat) (Pre : List PyData → Prop) (Post : List PyData → PyData → Prop) : Prop where
  ex : ∃ (f : Addr) (fd : FuncData) (ps : List Str), FnOk P w K mg base CX0 k f fd ps (spN T Pre Post) ∧ mg n = some (.ref f) ∧ PySem.W.keepIn K (.ref f) = true ∧ Binds K fd ps []
section
variable {X : Cx} {T : Tx} {δ : List Ent} {e : Expr} {es : List Expr} {pos : Pos} {ds : List PyData} {q : PyData → Prop}
theorem pdn_call {n : Str} {k : Nat} {p : Pos} {Pre : List PyData → Prop} {Post : List PyData → PyData → Prop} (F : HasN X.prog X.w X.K X.mg X.base T n k Pre Post) (hr : Room k X.A) (hR : Pre ds) (hq : ∀ r, Post ds r → q r) (ha : PA X (e :: es) (tDA T δ ds)) (hg : Gl X n := by rfl) (hdb : (n == ("__debug__" : Str)) = false := by decide)
    (he : starEach (e :: es) X.env = (false, eval e X.env) :: starEach es X.env := by rfl) (hpl : (backTo pos (starEach es X.env)).any (·.1) = false := by rfl) : PE X (.Call (.Name n p) (e :: es) [] pos) (tDN T δ q) := by
  obtain ⟨f, fd, ps, G, hm, hk, hb⟩ := F.ex
  refine pe_imp (pe_call G hr hg hm hk hb .nil pass0 ha hdb he hpl) fun σ H Q ⟨Hs, at_, k⟩ => ⟨Hs, at_, fun vs H1s H1 g1 d1 => ?_⟩
  show spN T Pre Post (vs ++ []) H1 Q E0
  rw [List.append_nil]
  exact ⟨H1s, ds, g1.sub, d1, hR, at_.tabs.mono g1, fun r v H2s H2 pr g2 d2 => k r v H2s H2 (hq r pr) (g1.trans g2) d2⟩
end
section
variable {P : Program} {w : World} {K : PySem.W.Frag} {mg : Str → Option Value} {base : Heap} {T : Tx}
theorem fn_dataN {x qual : Str} {st : Stmt} {f : Addr} {fd : FuncData} {N ps : List Str} {k : Nat} {Pre : List PyData → Prop} {Post : List PyData → PyData → Prop} (F : Fun K x qual st f fd) (S : FnScope N ps (defScope st)) (hm : mg x = some (.ref f))
    (hb : Binds K fd ps []) (len : ∀ ds, Pre ds → ds.length = ps.length)
    (hbody : ∀ (cdv : Value) (A : Around) (outer : List Env) (s : Shared) (H : Hp) (E : XK) (H0s H0 : Hp) (ds : List PyData), Room k (A.deeper (envOfC qual (defScope st) s.heap.objs.size f cdv)) → Pre ds →
      PSs (BX P w K mg base N qual st f cdv A outer s H E) (defBody st) (tSP T H0s H0 (δ0 N ds) (fun _ => False) (Post ds))) : HasN P w K mg base T x (k + 1) Pre Post := by
  refine ⟨f, fd, ps, F.ok S (fun vs H Q E h => ?_) (fun cdv A outer s H vs Q E hr h => ?_), hm, F.kp, hb⟩
  · obtain ⟨Hs, ds, _, d, hR, _⟩ := h
    rw [d.len]
    exact len ds hR
  · obtain ⟨Hs, ds, sub, d, hR, tb, q⟩ := h
    exact ⟨_, hbody cdv A outer s H E Hs H ds hr hR, Hs, ⟨.refl sub, env_start d, fun i e p w1 m _ => (δ0_mine w1 m).elim, tb⟩, fun _ _ _ _ z => z.elim, fun r v Hs' H' pr g dd => q r v Hs' H' pr g dd⟩
end
end K28

set_option Elab.async false
set_option linter.all false
set_option maxRecDepth 100000
set_option maxHeartbeats 4000000
/-! the law's row: a list of its own that is written at every turn; told by its place. -/
namespace K28
open PySem PySem.Spec PyProof.Rows L2

def RowP (R S : Addr) : Heap → Prop := fun h => ∃ (i x y : Int) (its : List Value) (n : Nat), 0 ≤ i ∧ Vals [.ref S, .int i, .int x, .int y] its ∧ h.get? R = some { cls := .type "list", data := .seq its.toArray n }
def rowD (R : Addr) : PyData := .dict [(.int (R : Nat), .none)]
theorem Da.objV {H : Hp} {v : V} {R : Addr} (h : Da H v (rowD R)) : v = .ref R := by
  unfold rowD at h
  generalize e : PyData.dict [(.int (R : Nat), .none)] = d at h
  cases h <;> cases e
  rfl
abbrev rowL (S : Addr) (i x y : Int) : HO := .lst [.ref S, .int i, .int x, .int y]
def tRow (R S : Addr) (t : TS) : TS := fun D σ H => H R = some (.ext (RowP R S)) ∧ ∀ i x y, 0 ≤ i → t { nx := fun _ _ => False, rt := fun v H' => ∃ i x y, 0 ≤ i ∧ H' R = some (rowL S i x y) ∧ D.rt v (upd H' R (.ext (RowP R S))) } σ (upd H R (rowL S i x y))
theorem row_back {X : Cx} {pins : List (Addr × Obj)} {σ : L2.St} {H : Hp} {s : Shared} {R S : Addr} {i x y : Int} (I : Inv X pins σ H s) (hi : 0 ≤ i) (h : H R = some (rowL S i x y)) : Inv X pins σ (upd H R (.ext (RowP R S))) s := by
  obtain ⟨its, n, r, e, _⟩ := I.lst h
  exact I.write (x := R) (e := R) (t' := s.toks) (h' := s.heap) (by rw [h]; trivial) (.inl rfl) (fun b u _ q => q) ⟨_, e⟩ ⟨⟨i, x, y, its, n, hi, r, e⟩, ⟨_, e⟩, fun h1 h2 ⟨i, x, y, its, n, hi, r, e⟩ k => ⟨i, x, y, its, n, hi, r, k _ e⟩⟩
theorem row_open {X : Cx} {pins : List (Addr × Obj)} {σ : L2.St} {H : Hp} {s : Shared} {R S : Addr} (I : Inv X pins σ H s) (h : H R = some (.ext (RowP R S))) : ∃ i x y, 0 ≤ i ∧ Inv X pins σ (upd H R (rowL S i x y)) s := by
  obtain ⟨⟨i, x, y, its, n, hi, r, e⟩, _, _⟩ := I.hok R _ h
  exact ⟨i, x, y, hi, I.write (x := R) (e := R) (t' := s.toks) (h' := s.heap) (by rw [h]; trivial) (.inl rfl) (fun b u _ q => q) ⟨_, e⟩ ⟨by show 4 ≤ sizeLine; decide, its, n, r, e⟩⟩
theorem pss_row {X : Cx} {sts : List Stmt} {t : TS} {R S : Addr} (h : PSs X sts t) : PSs X sts (tRow R S t) := by
  refine ⟨fun pins s σ H D I ⟨hr, k⟩ => ?_⟩
  obtain ⟨i, x, y, hi, I1⟩ := row_open I hr
  refine thn (h.run pins s σ _ _ I1 (k i x y hi)) fun f s1 q => ?_
  cases f with
  | next =>
    obtain ⟨_, _, _, z⟩ := q
    exact z.elim
  | brk =>
    obtain ⟨_, _, _, z⟩ := q
    exact z.elim
  | cont =>
    obtain ⟨_, _, _, z⟩ := q
    exact z.elim
  | ret u =>
    obtain ⟨v, σ', H', I', rv, i, x, y, hi, hR, q⟩ := q
    exact ⟨v, σ', _, row_back I' hi hR, rv, q⟩

/-! exact readings: one state, one heap -/
def tX (σ0 : L2.St) (H0 : Hp) (v : V) : TE := fun σ H Q => σ = σ0 ∧ H = H0 ∧ Q v H0
def tXT (σ0 : L2.St) (H0 : Hp) (b : Bool) : TT := fun σ H Q => σ = σ0 ∧ H = H0 ∧ Q b H0
def tXA (σ0 : L2.St) (H0 : Hp) (vs : List V) : TA := fun σ H Q => σ = σ0 ∧ H = H0 ∧ Q vs H0
def OX := L2.St × Hp ⊕ V × Hp
def OX.fin (D : Ends) : OX → Prop
  | .inl (σ, H) => D.nx σ H
  | .inr (v, H) => D.rt v H
def tXS (σ0 : L2.St) (H0 : Hp) (o : OX) : TS := fun D σ H => σ = σ0 ∧ H = H0 ∧ o.fin D
section
variable {X : Cx} {σ : L2.St} {H H1 : Hp} {a b c e : Expr} {es : List Expr} {pos : Pos} {x y z v : V} {vs : List V} {st : Stmt} {sts rest A B : List Stmt} {o : OX}
theorem px_var (i : Nat) {s : Str} {p : Pos} (h : σ[i]? = some (some v)) (hi : X.N[i]? = some s := by rfl) (hv : Vis X.env.scope s := by first | exact Or.inl rfl | exact Or.inr (Or.inl rfl) | exact Or.inr (Or.inr rfl))
    (hd : (s == ("__debug__" : Str)) = false := by decide) (hcd : (s == ("__classdict__" : Str)) = false := by decide) : PE X (.Name s p) (tX σ H v) :=
  pe_imp (pe_var hi hv hd hcd) fun σ' H' Q ⟨e1, e2, q⟩ => by subst e1; subst e2; exact ⟨v, h, q⟩
theorem px_int {i : Int} {k : Nat} {p : Pos} : PE X (.Constant (.int i) k p) (tX σ H (.int i)) := pe_imp pe_int fun σ' H' Q ⟨e1, e2, q⟩ => by subst e1; subst e2; exact q
theorem px_op {op : Operator} {r : R2} (ho : OpR X (binaryOp op) r) (hr : ∀ Q : VK, Q z H → r x y H Q) (ha : PE X a (tX σ H x)) (hb : PE X b (tX σ H y)) : PE X (.BinOp a op b pos) (tX σ H z) :=
  pe_imp (pe_op ho ha hb) fun σ' H' Q ⟨e1, e2, q⟩ => ⟨e1, e2, e1, rfl, hr Q q⟩
theorem px_ix {r : R2} (ho : IxR X r) (hr : ∀ Q : VK, Q z H → r x y H Q) (ha : PE X a (tX σ H x)) (hb : PE X b (tX σ H y)) (hs : PlainIx b := by intro _ _; rfl) : PE X (.Subscript a b pos) (tX σ H z) :=
  pe_imp (pe_ix ho ha hb hs) fun σ' H' Q ⟨e1, e2, q⟩ => ⟨e1, e2, e1, rfl, hr Q q⟩
theorem px_row {i : Int} {p : Addr} {xs : List V} (ha : PE X a (tX σ H (.ref p))) (hb : PE X b (tX σ H (.int i))) (hq : SqL X.K H p xs) (hx : atI xs i = some z) (hs : PlainIx b := by intro _ _; rfl) : PE X (.Subscript a b pos) (tX σ H z) :=
  px_ix ix_list (fun Q q => ⟨p, xs, i, z, rfl, rfl, hq, hx, q⟩) ha hb hs
theorem px_cmp {op : CmpOp} {r : R2} {k : Bool} (ho : OpR X (compareOp op) r) (hr : ∀ Q : VK, Q (.bl k) H → r x y H Q) (ha : PE X a (tX σ H x)) (hb : PE X b (tX σ H y)) (hm : behindInMarks op b = false) : PT X (.Compare a [op] [b] pos) (tXT σ H k) :=
  pt_imp (pt_cmpR ho ha hb hm) fun σ' H' Q ⟨e1, e2, q⟩ => ⟨e1, e2, e1, rfl, hr _ ⟨k, rfl, q⟩⟩
theorem pxa_nil : PA X [] (tXA σ H []) := pa_imp pa_nil fun σ' H' Q ⟨e1, e2, q⟩ => by subst e2; exact q
theorem pxa_cons (h : PE X e (tX σ H x)) (hr : PA X es (tXA σ H vs)) (hs : starEach (e :: es) X.env = (false, eval e X.env) :: starEach es X.env := by rfl) : PA X (e :: es) (tXA σ H (x :: vs)) :=
  pa_imp (pa_cons h hr hs) fun σ' H' Q ⟨e1, e2, q⟩ => ⟨e1, e2, e1, rfl, q⟩
theorem px_callTy {id : String} {n : Str} {p : Pos} {r : List V → Hp → VK → Prop} (hc : CallR X (.type id) r) (hr : ∀ Q : VK, Q z H → r vs H Q) (hm : X.mg n = none) (hv : bootBuiltins n = some (.type id)) (ha : PA X (e :: es) (tXA σ H vs)) (hg : Gl X n := by rfl)
    (hn : n ≠ "__name__" := by decide) (hdb : (n == ("__debug__" : Str)) = false := by decide) (he : starEach (e :: es) X.env = (false, eval e X.env) :: starEach es X.env := by rfl) (hpl : (backTo pos (starEach es X.env)).any (·.1) = false := by rfl) :
    PE X (.Call (.Name n p) (e :: es) [] pos) (tX σ H z) :=
  pe_imp (pe_callTy hc hg hm hv ha hn hdb he hpl) fun σ' H' Q ⟨e1, e2, q⟩ => ⟨e1, e2, hr Q q⟩
theorem px_callB {id : String} {n : Str} {p : Pos} {r : List V → Hp → VK → Prop} (hc : CallR X (.builtin id) r) (hr : ∀ Q : VK, Q z H → r vs H Q) (hm : X.mg n = none) (hv : bootBuiltins n = some (.builtin id)) (ha : PA X (e :: es) (tXA σ H vs)) (hg : Gl X n := by rfl)
    (hn : n ≠ "__name__" := by decide) (hdb : (n == ("__debug__" : Str)) = false := by decide) (he : starEach (e :: es) X.env = (false, eval e X.env) :: starEach es X.env := by rfl) (hpl : (backTo pos (starEach es X.env)).any (·.1) = false := by rfl) :
    PE X (.Call (.Name n p) (e :: es) [] pos) (tX σ H z) :=
  pe_imp (pe_callB hc hg hm hv ha hn hdb he hpl) fun σ' H' Q ⟨e1, e2, q⟩ => ⟨e1, e2, hr Q q⟩
theorem pxs_nil : PSs X [] (tXS σ H (.inl (σ, H))) := pss_imp pss_nil fun D σ' H' ⟨e1, e2, q⟩ => by subst e1; subst e2; exact q
theorem pxs_cons {σ1 : L2.St} (h1 : PS X st (tXS σ H (.inl (σ1, H1)))) (h2 : PSs X rest (tXS σ1 H1 o)) : PSs X (st :: rest) (tXS σ H o) :=
  pss_imp (pss_cons h1 h2) fun D σ' H' ⟨e1, e2, q⟩ => ⟨e1, e2, rfl, rfl, by cases o <;> exact q⟩
theorem pxs_end {w : V × Hp} (h1 : PS X st (tXS σ H (.inr w))) : PSs X (st :: rest) (tXS σ H (.inr w)) := pss_imp (pss_cons h1 pss_never) fun D σ' H' ⟨e1, e2, q⟩ => ⟨e1, e2, q⟩
theorem pxs_ret (h : PE X e (tX σ H v)) : PS X (.Return (some e) pos) (tXS σ H (.inr (v, H))) := ps_imp (ps_ret h) fun D σ' H' ⟨e1, e2, q⟩ => ⟨e1, e2, q⟩
theorem pxs_set (i : Nat) {s : Str} {ps : Pos} (hN : X.N.Nodup) (h : PE X e (tX σ H v)) (hi : X.N[i]? = some s := by rfl) (hx : Loc X.env.scope s := by first | exact Or.inl rfl | exact Or.inr rfl) (hs : swapsWith e (some (.Name s ps)) pos.line X.env = pure false := by rfl)
    (hf : X.fn s = true ∨ X.env.scope.names.lookup s = some .local := by first | exact .inl rfl | exact .inr rfl | assumption) : PS X (.Assign [.Name s ps] e pos) (tXS σ H (.inl (σ.set i (some v), H))) :=
  ps_imp (ps_set hN hi hx h hs hf) fun D σ' H' ⟨e1, e2, q⟩ => ⟨e1, e2, by subst e1; exact q⟩
theorem pxs_put {tp : Pos} {p : Addr} {xs : List V} {k : Int} {j : Nat} (h : PE X e (tX σ H v)) (ha : PE X a (tX σ H (.ref p))) (hb : PE X b (tX σ H (.int k))) (hp : H p = some (.lst xs)) (hj : ixN xs.length k = some j)
    (hs : swapsWithSole [.Subscript a b tp] e pos.line X.env = pure false := by rfl) (hw : swappedStores [.Subscript a b tp] e X.env = pure none := by rfl)
    (h1 : (assignEach [.Subscript a b tp] X.env).map (·.2) = [assign (.Subscript a b tp) X.env] := by rfl)
    (hz : ∀ v, assign (.Subscript a b tp) X.env v = (do
      let ov ← holding [v] (eval a X.env)
      let iv ← holding [v, ov] (eval b X.env)
      standAt tp
      holding [v, ov, iv] (setItem ov iv v)
      release [v, ov, iv] []) := by intro _; rfl) : PS X (.Assign [.Subscript a b tp] e pos) (tXS σ H (.inl (σ, upd H p (.lst (xs.set j v))))) :=
  ps_imp (ps_asg h (pg_sub ha hb set_list hz) hs hw h1) fun D σ' H' ⟨e1, e2, q⟩ => ⟨e1, e2, e1, rfl, e1, rfl, p, xs, k, j, rfl, rfl, hp, hj, by subst e1; exact q⟩
theorem pxs_ifT (hc : PT X c (tXT σ H true)) (hA : PSs X A (tXS σ H o)) : PS X (.If c A B pos) (tXS σ H o) := ps_imp (ps_if hc hA pss_never) fun D σ' H' ⟨e1, e2, q⟩ => ⟨e1, e2, iteT ⟨e1, rfl, q⟩⟩
theorem pxs_ifF (hc : PT X c (tXT σ H false)) (hB : PSs X B (tXS σ H o)) : PS X (.If c A B pos) (tXS σ H o) := ps_imp (ps_if hc pss_never hB) fun D σ' H' ⟨e1, e2, q⟩ => ⟨e1, e2, iteF ⟨e1, rfl, q⟩⟩
end
end K28

set_option Elab.async false
set_option linter.all false
set_option maxRecDepth 100000
set_option maxHeartbeats 4000000
namespace K28
open PySem PySem.Spec PyProof.Rows L2

theorem sqL_upd {K : PySem.W.Frag} {H : Hp} {S R : Addr} {vs : List V} {φ : Heap → Prop} {o : HO} (h : SqL K H S vs) (hr : H R = some (.ext φ)) : SqL K (upd H R o) S vs := by
  rcases h with (h | ⟨u, h⟩) | h
  · exact .inl (.inl (by rw [upd_ne (ne_of h hr (by simp))]; exact h))
  · exact .inl (.inr ⟨u, by rw [upd_ne (ne_of h hr (by simp))]; exact h⟩)
  · exact .inr h
/-- what the law's defs lean on: its row at R, the script at S -/
def TR (K : PySem.W.Frag) (tb : List Addr) (R S : Addr) (ns : List Int) : Tx where
  tabs := tb
  more := fun Hs => Hs R = some (.ext (RowP R S)) ∧ SqL K Hs S (ns.map V.int)
  mono := fun e h => ⟨e.get h.1 (fun _ q => by cases q), e.sqL h.2⟩
theorem upd_self {H : Hp} {a : Addr} {o : HO} (h : H a = some o) : upd H a o = H := by
  funext b
  unfold upd
  split
  · next e => rw [e, h]
  · rfl
section
variable {X : Cx} {sts : List Stmt} {σ : L2.St} {H H1 H2 : Hp} {v : V}
theorem pxs_is (h : PSs X sts (tXS σ H (.inr (v, H1)))) (e : H1 = H2) : PSs X sts (tXS σ H (.inr (v, H2))) := e ▸ h
end
section
variable {X : Cx} {σ : L2.St} {H : Hp} {a b c e : Expr} {pos p : Pos} {v : V} {i j : Int} {k : Bool}
theorem px_add (ha : PE X a (tX σ H (.int i))) (hb : PE X b (tX σ H (.int j))) : PE X (.BinOp a .Add b pos) (tX σ H (.int (i + j))) := px_op op_add (fun Q q => ⟨i, j, rfl, rfl, q⟩) ha hb
theorem px_sub (ha : PE X a (tX σ H (.int i))) (hb : PE X b (tX σ H (.int j))) : PE X (.BinOp a .Sub b pos) (tX σ H (.int (i - j))) := px_op op_sub (fun Q q => ⟨i, j, rfl, rfl, q⟩) ha hb
theorem px_mul (ha : PE X a (tX σ H (.int i))) (hb : PE X b (tX σ H (.int j))) (h : -(2 ^ 64) < j ∧ j < 2 ^ 64) : PE X (.BinOp a .Mult b pos) (tX σ H (.int (i * j))) := px_op op_mul (fun Q q => ⟨i, j, rfl, rfl, .inr h, q⟩) ha hb
theorem px_mod (ha : PE X a (tX σ H (.int i))) (hb : PE X b (tX σ H (.int j))) (h : 0 < j) : PE X (.BinOp a .Mod b pos) (tX σ H (.int (i % j))) := px_op op_mod (fun Q q => ⟨i, j, rfl, rfl, h, q⟩) ha hb
theorem px_div (ha : PE X a (tX σ H (.int i))) (hb : PE X b (tX σ H (.int j))) (h : 0 < j ∧ j < 1073741824) : PE X (.BinOp a .FloorDiv b pos) (tX σ H (.int (i / j))) := px_op op_fdiv (fun Q q => ⟨i, j, rfl, rfl, h, q⟩) ha hb
theorem px_big (ha : PE X a (tX σ H (.int 10))) (hb : PE X b (tX σ H (.int 18))) : PE X (.BinOp a .Pow b pos) (tX σ H (.int (10 ^ 18))) := px_op op_pow (fun Q q => ⟨10, 18, rfl, rfl, ⟨by decide, by decide, by decide⟩, q⟩) ha hb
theorem pxt_gt (ha : PE X a (tX σ H (.int i))) (hb : PE X b (tX σ H (.int j))) (h : decide (j < i) = k) (hm : behindInMarks .Gt b = false := by rfl) : PT X (.Compare a [.Gt] [b] pos) (tXT σ H k) := px_cmp op_gt (fun Q q => ⟨i, j, rfl, rfl, by rw [← h] at q; exact q⟩) ha hb hm
theorem pxt_ge (ha : PE X a (tX σ H (.int i))) (hb : PE X b (tX σ H (.int j))) (h : decide (j ≤ i) = k) (hm : behindInMarks .GtE b = false := by rfl) : PT X (.Compare a [.GtE] [b] pos) (tXT σ H k) := px_cmp op_ge (fun Q q => ⟨i, j, rfl, rfl, by rw [← h] at q; exact q⟩) ha hb hm
theorem px_toI {p : Pos} (hm : X.mg "int" = none) (ha : PE X a (tX σ H (.int i))) (hg : Gl X "int" := by rfl) (he : starEach [a] X.env = (false, eval a X.env) :: starEach [] X.env := by rfl) (hpl : (backTo pos (starEach [] X.env)).any (·.1) = false := by rfl) : PE X (.Call (.Name "int" p) [a] [] pos) (tX σ H (.int i)) :=
  px_callTy call_int1 (fun Q q => .inl ⟨_, rfl, q⟩) hm boot_int (pxa_cons ha pxa_nil he) hg (by decide) (by decide) he hpl
theorem px_len {p : Pos} {q : Addr} {xs : List V} (hm : X.mg "len" = none) (ha : PE X a (tX σ H (.ref q))) (hq : SqL X.K H q xs) (hg : Gl X "len" := by rfl) (he : starEach [a] X.env = (false, eval a X.env) :: starEach [] X.env := by rfl) (hpl : (backTo pos (starEach [] X.env)).any (·.1) = false := by rfl) : PE X (.Call (.Name "len" p) [a] [] pos) (tX σ H (.int (xs.length : Nat))) :=
  px_callB call_len_seq (fun Q k => ⟨q, xs, rfl, .inl hq, k⟩) hm boot_len (pxa_cons ha pxa_nil he) hg (by decide) (by decide) he hpl
/-- an item of the row -/
theorem px_rw {R S : Addr} {i x y : Int} {pn : Pos} {kk : Nat} {pk : Pos} {s : Str} (j : Int) (h : σ[0]? = some (some (.ref R))) (hR : H R = some (rowL S i x y)) (hx : atI [.ref S, .int i, .int x, .int y] j = some v) (hi : X.N[0]? = some s := by rfl) (hv : Vis X.env.scope s := by first | exact Or.inl rfl | exact Or.inr (Or.inl rfl) | exact Or.inr (Or.inr rfl))
    (hd : (s == ("__debug__" : Str)) = false := by decide) (hcd : (s == ("__classdict__" : Str)) = false := by decide) (hs : PlainIx (.Constant (.int j) kk pk) := by intro _ _; rfl) : PE X (.Subscript (.Name s pn) (.Constant (.int j) kk pk) pos) (tX σ H v) :=
  px_row (px_var 0 h hi hv hd hcd) px_int (SqL.of hR) hx hs
theorem pxs_rw {R S : Addr} {i x y i2 x2 y2 : Int} {pn : Pos} {kk : Nat} {pk tp : Pos} {s : Str} (j : Nat) (he : PE X e (tX σ H v)) (h : σ[0]? = some (some (.ref R))) (hR : H R = some (rowL S i x y)) (hj : ixN 4 (j : Int) = some j) (hx : [V.ref S, .int i, .int x, .int y].set j v = [V.ref S, .int i2, .int x2, .int y2]) (hi : X.N[0]? = some s := by rfl) (hv : Vis X.env.scope s := by first | exact Or.inl rfl | exact Or.inr (Or.inl rfl) | exact Or.inr (Or.inr rfl))
    (hd : (s == ("__debug__" : Str)) = false := by decide) (hcd : (s == ("__classdict__" : Str)) = false := by decide)
    (hs : swapsWithSole [.Subscript (.Name s pn) (.Constant (.int j) kk pk) tp] e pos.line X.env = pure false := by rfl) (hw : swappedStores [.Subscript (.Name s pn) (.Constant (.int j) kk pk) tp] e X.env = pure none := by rfl)
    (h1 : (assignEach [.Subscript (.Name s pn) (.Constant (.int j) kk pk) tp] X.env).map (·.2) = [assign (.Subscript (.Name s pn) (.Constant (.int j) kk pk) tp) X.env] := by rfl)
    (hz : ∀ v, assign (.Subscript (.Name s pn) (.Constant (.int j) kk pk) tp) X.env v = (do
      let ov ← holding [v] (eval (.Name s pn) X.env)
      let iv ← holding [v, ov] (eval (.Constant (.int j) kk pk) X.env)
      standAt tp
      holding [v, ov, iv] (setItem ov iv v)
      release [v, ov, iv] []) := by intro _; rfl) : PS X (.Assign [.Subscript (.Name s pn) (.Constant (.int j) kk pk) tp] e pos) (tXS σ H (.inl (σ, upd H R (rowL S i2 x2 y2)))) := by
  have q := pxs_put (pos := pos) he (px_var 0 h hi hv hd hcd) (px_int (i := j)) hR (j := j) hj hs hw h1 hz
  rw [hx] at q
  exact q
end
abbrev s_taken : Stmt := top 41
def n_taken : List Str := ["_law_row_here", "_law_many", "_law_found", "_law_cell"]
theorem sc_taken : FnScope n_taken ["_law_row_here", "_law_many"] (defScope s_taken) := ⟨rfl, rfl, rfl, by decide +kernel, rfl, by decide +kernel, by decide +kernel⟩
def preTaken (R : Addr) : List PyData → Prop := fun ds => ∃ many : Nat, 1 ≤ many ∧ many ≤ 1000 ∧ ds = [rowD R, nD many]
def postTaken : List PyData → PyData → Prop := fun ds r => ∃ (R : Addr) (many k : Nat), ds = [rowD R, nD many] ∧ k < many ∧ r = nD k
section
variable {P : Program} {w : World} {K : PySem.W.Frag} {mg : Str → Option Value} {base : Heap} {tb : List Addr} {R S : Addr} {ns : List Int}
theorem taken_body {f : Addr} {cdv : Value} {A : Around} {outer : List Env} {s : Shared} {H0 : Hp} {E : XK} (B : Bi mg) {σ : L2.St} {H : Hp} {i x y : Int} {many : Nat} (hi : 0 ≤ i) (hm1 : 1 ≤ many) (hm2 : many ≤ 1000)
    (h0 : σ[0]? = some (some (.ref R))) (h1 : σ[1]? = some (some (.int many))) (hl : σ.length = 4) (hR : H R = some (rowL S i x y)) (hS : SqL K H S (ns.map V.int)) (hne : S ≠ R ∨ ∀ H : Hp, SqL K H S (ns.map V.int)) :
    ∃ k i' x' y' : Int, 0 ≤ k ∧ k < many ∧ 0 ≤ i' ∧ PSs (BX P w K mg base n_taken "_law_taken" s_taken f cdv A outer s H0 E) (defBody s_taken) (tXS σ H (.inr (.int k, upd H R (rowL S i' x' y')))) := by
  have up : ∀ {H1 : Hp} {o : HO}, SqL K H1 S (ns.map V.int) → SqL K (upd H1 R o) S (ns.map V.int) := fun {H1} {o} h => by
    rcases hne with hne | hne
    · rcases h with (h | ⟨u, h⟩) | h
      · exact .inl (.inl (by rw [upd_ne hne]; exact h))
      · exact .inl (.inr ⟨u, by rw [upd_ne hne]; exact h⟩)
      · exact .inr h
    · exact hne _
  have hmz : (0 : Int) < many := by omega
  have md : ∀ z : Int, 0 ≤ z % many ∧ z % many < many := fun z => ⟨Int.emod_nonneg _ (by omega), Int.emod_lt_of_pos _ hmz⟩
  by_cases hy : y > 0
  · refine ⟨y % many, i, x, y / many, (md y).1, (md y).2, hi, pxs_end (pxs_ifT (pxt_gt (px_rw 3 h0 hR rfl) px_int (decide_eq_true hy))
      (pxs_cons (pxs_set 2 sc_taken.nd (px_mod (px_toI B.int (px_rw 3 h0 hR rfl)) (px_var 1 h1) hmz))
      (pxs_cons (pxs_rw 3 (px_div (px_rw 3 ?_ hR rfl) (px_var 1 ?_) ⟨hmz, by omega⟩) ?_ hR rfl rfl)
      (pss_one (pxs_ret (px_var 2 ?_))))))⟩
    · rw [List.getElem?_set_ne (by decide)]; exact h0
    · rw [List.getElem?_set_ne (by decide)]; exact h1
    · rw [List.getElem?_set_ne (by decide)]; exact h0
    · rw [List.getElem?_set_self (by omega)]
  · have hR2 : (upd H R (rowL S (i + 1) x y)) R = some (rowL S (i + 1) x y) := upd_same
    have hS2 := up (o := rowL S (i + 1) x y) hS
    generalize hH2 : upd H R (rowL S (i + 1) x y) = H2 at hR2 hS2
    -- the row, one on
    by_cases hb : i + 1 > (ns.length : Int)
    · refine ⟨((x * 48271 + 11) % 2147483647 / 7) % many, i + 1, (x * 48271 + 11) % 2147483647, y, (md _).1, (md _).2, by omega, pxs_is (pxs_cons (pxs_ifF (pxt_gt (px_rw 3 h0 hR rfl) px_int (decide_eq_false hy)) pxs_nil) (pxs_cons (H1 := H2) (hH2 ▸ pxs_rw 1 (px_add (px_rw 1 h0 hR rfl) px_int) h0 hR rfl rfl)
        (pxs_end (pxs_ifT (pxt_gt (px_rw 1 h0 hR2 rfl) (px_len B.len (px_rw 0 h0 hR2 rfl) hS2) (decide_eq_true (by rw [List.length_map]; exact hb)))
        (pxs_cons (pxs_rw 2 (i2 := i + 1) (y2 := y) (px_mod (px_toI B.int (px_add (px_mul (px_rw 2 h0 hR2 rfl) px_int (by decide)) px_int)) px_int (by decide)) h0 hR2 rfl rfl)
        (pss_one (pxs_ret (px_mod (px_toI B.int (px_div (px_rw 2 h0 upd_same rfl) px_int (by decide))) (px_var 1 h1) hmz)))))))) ?_⟩
      rw [← hH2, upd_upd]
    · have hk : i.toNat < ns.length := by omega
      have hc : atI (ns.map V.int) (i + 1 - 1) = some (.int (ns[i.toNat])) := by
        rw [show i + 1 - 1 = i by omega]
        unfold atI ixN
        rw [List.length_map, if_pos hi, if_pos (by omega)]
        show (ns.map V.int)[i.toNat]? = _
        rw [List.getElem?_map, List.getElem?_eq_getElem hk]
        rfl
      generalize ns[i.toNat] = cell at hc
      have h0' : (σ.set 3 (some (.int cell)))[0]? = some (some (.ref R)) := by rw [List.getElem?_set_ne (by decide)]; exact h0
      have h1' : (σ.set 3 (some (.int cell)))[1]? = some (some (.int many)) := by rw [List.getElem?_set_ne (by decide)]; exact h1
      have h3' : (σ.set 3 (some (.int cell)))[3]? = some (some (.int cell)) := by rw [List.getElem?_set_self (by omega)]
      have hR3 : (upd H2 R (rowL S (i + 1) ((x * 48271 + cell + 11) % 2147483647) y)) R = some (rowL S (i + 1) ((x * 48271 + cell + 11) % 2147483647) y) := upd_same
      have key : ∀ {o : OX}, PSs (BX P w K mg base n_taken "_law_taken" s_taken f cdv A outer s H0 E) ((defBody s_taken).drop 5) (tXS (σ.set 3 (some (.int cell))) (upd H2 R (rowL S (i + 1) ((x * 48271 + cell + 11) % 2147483647) y)) o) →
          PSs (BX P w K mg base n_taken "_law_taken" s_taken f cdv A outer s H0 E) (defBody s_taken) (tXS σ H o) := fun {o} kk =>
        pxs_cons (pxs_ifF (pxt_gt (px_rw 3 h0 hR rfl) px_int (decide_eq_false hy)) pxs_nil) (pxs_cons (H1 := H2) (hH2 ▸ pxs_rw 1 (px_add (px_rw 1 h0 hR rfl) px_int) h0 hR rfl rfl)
        (pxs_cons (pxs_ifF (pxt_gt (px_rw 1 h0 hR2 rfl) (px_len B.len (px_rw 0 h0 hR2 rfl) hS2) (decide_eq_false (by rw [List.length_map]; exact hb))) pxs_nil)
        (pxs_cons (pxs_set 3 sc_taken.nd (px_row (px_rw 0 h0 hR2 rfl) (px_sub (px_rw 1 h0 hR2 rfl) px_int) hS2 hc))
        (pxs_cons (pxs_rw 2 (i2 := i + 1) (y2 := y) (px_mod (px_toI B.int (px_add (px_add (px_mul (px_rw 2 h0' hR2 rfl) px_int (by decide)) (px_var 3 h3')) px_int)) px_int (by decide)) h0' hR2 rfl rfl) kk))))
      have last : ∀ {H9 : Hp}, PSs (BX P w K mg base n_taken "_law_taken" s_taken f cdv A outer s H0 E) ((defBody s_taken).drop 6) (tXS (σ.set 3 (some (.int cell))) H9 (.inr (.int (cell % many), H9))) := fun {H9} =>
        pss_one (pxs_ret (px_mod (px_toI B.int (px_var 3 h3')) (px_var 1 h1') hmz))
      by_cases hg : cell ≥ 10 ^ 18
      · refine ⟨cell % many, i + 1, (x * 48271 + cell + 11) % 2147483647, cell / many, (md _).1, (md _).2, by omega, pxs_is (key (pxs_cons (pxs_ifT (pxt_ge (px_var 3 h3') (px_big px_int px_int) (decide_eq_true hg)) (pss_one (pxs_rw 3 (px_div (px_var 3 h3') (px_var 1 h1') ⟨hmz, by omega⟩) h0' hR3 rfl rfl))) last)) ?_⟩
        rw [← hH2, upd_upd, upd_upd]
      · refine ⟨cell % many, i + 1, (x * 48271 + cell + 11) % 2147483647, y, (md _).1, (md _).2, by omega, pxs_is (key (pxs_cons (pxs_ifF (pxt_ge (px_var 3 h3') (px_big px_int px_int) (decide_eq_false hg)) pxs_nil) last)) ?_⟩
        rw [← hH2, upd_upd]
theorem h_taken {f : Addr} {fd : FuncData} (F : Fun K "_law_taken" "_law_taken" s_taken f fd) (hm : mg "_law_taken" = some (.ref f)) (B : Bi mg) : HasN P w K mg base (TR K tb R S ns) "_law_taken" 1 (preTaken R) postTaken := by
  refine fn_dataN F sc_taken hm (F.binds fun _ _ _ _ _ _ us hl => match us, hl with | [_, _], _ => rfl) (fun ds h => ?_) fun cdv A outer s H E H0s H0 ds hr hR => ?_
  · obtain ⟨m, _, _, rfl⟩ := h
    rfl
  · obtain ⟨m, hm1, hm2, rfl⟩ := hR
    refine ⟨fun pins s1 σ H1 D I ⟨Hs, b, k1, k2⟩ => ?_⟩
    obtain ⟨v0, z0, d0⟩ := b.env.dat 0 _ rfl
    obtain ⟨v1, z1, d1⟩ := b.env.dat 1 _ rfl
    cases d0.objV
    cases d1.intV
    obtain ⟨tR, tS⟩ := b.tabs.2
    have gR := b.gr.sub.get tR (fun _ q => by cases q)
    have gS := b.gr.sub.sqL tS
    have hne : S ≠ R ∨ ∀ H : Hp, SqL K H S (ns.map V.int) := by
      rcases gS with (h | ⟨u, h⟩) | h
      · exact .inl (ne_of h gR (by simp))
      · exact .inl (ne_of h gR (by simp))
      · exact .inr fun _ => .inr h
    obtain ⟨i, x, y, hi, I1⟩ := row_open I gR
    obtain ⟨k, i', x', y', k0, kl, hi', body⟩ := taken_body (P := P) (w := w) (base := base) (f := f) (cdv := cdv) (A := A) (outer := outer) (s := s) (H0 := H) (E := E) B (H := upd H1 R (rowL S i x y)) hi hm1 hm2 z0 z1 b.env.len upd_same (sqL_upd gS gR) hne
    refine thn (body.run pins s1 σ _ { D with nx := fun _ _ => False, rt := fun v H' => v = .int k ∧ H' = upd (upd H1 R (rowL S i x y)) R (rowL S i' x' y') } I1 ⟨rfl, rfl, rfl, rfl⟩) fun f s2 q => ?_
    cases f with
    | next =>
      obtain ⟨_, _, _, z⟩ := q
      exact z.elim
    | brk => exact q
    | cont => exact q
    | ret u =>
      obtain ⟨v, σ', H', I', rv, rfl, rfl⟩ := q
      refine ⟨.int k, σ', _, row_back I' hi' upd_same, rv, ?_⟩
      have e : upd (upd (upd H1 R (rowL S i x y)) R (rowL S i' x' y')) R (.ext (RowP R S)) = H1 := by
        rw [upd_upd, upd_upd, upd_self gR]
      rw [e]
      have ek : k = ((k.toNat : Nat) : Int) := by omega
      rw [ek]
      exact k2 (nD k.toNat) _ Hs H1 ⟨R, m, k.toNat, rfl, by omega, rfl⟩ b.gr (.int _)
end
end K28

set_option Elab.async false
set_option linter.all false
set_option maxRecDepth 100000
set_option maxHeartbeats 4000000
namespace K28
open PySem PySem.Spec PyProof.Rows L2

section
variable {X : Cx} {T : Tx} {δ : List Ent} {a : Expr} {x : PyData} {pos p q q2 tp : Pos} {b1 b2 : Bool}
/-- isinstance(a, (c1, c2)) -/
theorem pd_isi2 {n m : Str} {c d : String} {kk : Nat} (ha : PE X a (tD T δ x)) (hk : kitB (tyD x) c = some b1) (hk2 : kitB (tyD x) d = some b2) (hv : bootBuiltins n = some (.type c)) (hv2 : bootBuiltins m = some (.type d)) (hm : X.mg "isinstance" = none) (hm2 : X.mg n = none) (hm3 : X.mg m = none) (hpl0 : plTop x = true := by rfl)
    (hg : Gl X "isinstance" := by rfl) (hg2 : Gl X n := by rfl) (hg3 : Gl X m := by rfl) (hn : n ≠ "__name__" := by decide) (hn3 : m ≠ "__name__" := by decide) (hdb : (n == ("__debug__" : Str)) = false := by decide) (hdb3 : (m == ("__debug__" : Str)) = false := by decide)
    (he : starEach [a, .Tuple [.Name n q, .Name m q2] kk tp] X.env = (false, eval a X.env) :: starEach [.Tuple [.Name n q, .Name m q2] kk tp] X.env := by rfl) (he2 : starEach [.Tuple [.Name n q, .Name m q2] kk tp] X.env = (false, eval (.Tuple [.Name n q, .Name m q2] kk tp) X.env) :: starEach [] X.env := by rfl)
    (he3 : starEach [.Name n q, .Name m q2] X.env = (false, eval (.Name n q) X.env) :: starEach [.Name m q2] X.env := by rfl) (he4 : starEach [.Name m q2] X.env = (false, eval (.Name m q2) X.env) :: starEach [] X.env := by rfl)
    (hpl : (backTo pos (starEach [.Tuple [.Name n q, .Name m q2] kk tp] X.env)).any (·.1) = false := by rfl) : PE X (.Call (.Name "isinstance" p) [a, .Tuple [.Name n q, .Name m q2] kk tp] [] pos) (tD T δ (.bool (b1 || b2))) :=
  pe_imp (pe_callB call_isiT hg hm boot_isi (pa_cons ha (pa_cons (pe_tup (pa_cons (pe_bltn (v := .ty c) hg2 hm2 hv rfl hn hdb) (pa_cons (pe_bltn (v := .ty d) hg3 hm3 hv2 rfl hn3 hdb3) pa_nil he4) he3)) pa_nil he2) he) (he := he) (hpl := hpl)) fun σ H Q ⟨Hs, at_, k⟩ => ⟨Hs, at_, fun v H1s H1 g1 d1 =>
    ⟨by show 2 ≤ sizeLine; decide, fun r hr => ⟨v, r, [.ty c, .ty d], .type (tyD x), [.type c, .type d], b1 || b2, rfl, upd_same, .cons (.ty c) (.cons (.ty d) .nil), ty_of (Da_mono (g1.sub.trans (Ex.new hr)) d1) hpl0,
      kitAny_cons (kit_ty hk) (fun e => kitAny_cons (kit_ty hk2) (fun e2 => by rw [e, e2]; rfl) (fun e2 => by rw [e2, Bool.or_true])) (fun e => by rw [e]; rfl), k _ H1s _ (g1.trans (.up g1.sub (.new hr))) (.bl _)⟩⟩⟩
/-- a is None -/
theorem pdt_isNone (ha : PE X a (tD T δ x)) {kk : Nat} {b : Bool} (hb : (match x with | .none => true | _ => false) = b) (hm : behindInMarks .Is (.Constant .none kk p) = false := by rfl) : PT X (.Compare a [.Is] [.Constant .none kk p] pos) (tDT T δ b) :=
  pdt_cmp (y := .none) op_isN (fun Hs H v u Q s d1 d2 k => ⟨d2.nonV, by
    have e : decide (v = V.non) = b := by
      subst hb
      cases d1 <;> simp
    rw [e]
    exact k _ Hs H (.refl s) (.bl _)⟩) ha pd_non hm
end
theorem kit_int_tup : kitB "int" "tuple" = some false := by decide +kernel
theorem kit_int_list : kitB "int" "list" = some false := by decide +kernel
theorem kit_int_str : kitB "int" "str" = some false := by decide +kernel
theorem kit_bool_tup : kitB "bool" "tuple" = some false := by decide +kernel
theorem kit_bool_list : kitB "bool" "list" = some false := by decide +kernel
theorem kit_bool_str : kitB "bool" "str" = some false := by decide +kernel
theorem kit_bool_int : kitB "bool" "int" = some true := by decide +kernel
theorem kit_bool_bool : kitB "bool" "bool" = some true := by decide +kernel
theorem kit_tup_list : kitB "tuple" "list" = some false := by decide +kernel
section
variable {P : Program} {w : World} {K : PySem.W.Frag} {mg : Str → Option Value} {base : Heap} {T : Tx}
/-! ### alike -/
def rAlike0 : List PyData → PyData → Prop := fun ds r => ((∃ k : Nat, ds = [nD k, nD k]) ∨ ∃ b, ds = [.bool b, .bool b]) ∧ r = .bool true
def rAlikeT : List PyData → PyData → Prop := fun ds r => ∃ l, l.length ≤ 1000 ∧ ds = [lotD l, lotD l] ∧ r = .bool true
abbrev s_alike : Stmt := top 43
def n_alike : List Str := ["_law_found", "_law_due", "_law_k"]
theorem sc_alike : FnScope n_alike ["_law_found", "_law_due"] (defScope s_alike) := ⟨rfl, rfl, rfl, by decide +kernel, rfl, by decide +kernel, by decide +kernel⟩
theorem h_alike0 {f : Addr} {fd : FuncData} (F : Fun K "_law_alike" "_law_alike" s_alike f fd) (hm : mg "_law_alike" = some (.ref f)) (B : Bi mg) : Has P w K mg base T "_law_alike" 1 rAlike0 := by
  refine fn_data F sc_alike hm (F.binds fun _ _ _ _ _ _ us hl => match us, hl with | [_, _], _ => rfl) (fun ds r h => ?_) fun cdv A outer s H E H0s H0 ds r hr hR => ?_
  · obtain ⟨⟨_, rfl⟩ | ⟨_, rfl⟩, _⟩ := h <;> rfl
  · obtain ⟨h, rfl⟩ := hR
    refine ⟨.rt (.bool true), .inl rfl, ?_⟩
    rcases h with ⟨k, rfl⟩ | ⟨b, rfl⟩
    · refine pds_cons (δ1 := [.d (nD k), .d (nD k), .no]) (pds_ifF (pdt_val (pd_isi2 (x := nD k) (pd_var 1 rfl) kit_int_tup kit_int_list boot_tuple boot_list B.isinstance B.tuple B.list)) pds_nil)
        (pds_cons (δ1 := [.d (nD k), .d (nD k), .no]) (pds_ifF (PW.pt (pdw_or (pdt_isNone (x := nD k) (pd_var 1 rfl) rfl) fun _ => pdw_one (pdt_val (pd_isi (x := nD k) (pd_var 1 rfl) kit_int_str boot_str B.isinstance B.str)))) pds_nil)
        (pds_one (pds_ret (pd_is (pd_and (pd_isi (x := nD k) (pd_var 0 rfl) kit_int_int boot_int B.isinstance B.int) fun _ => pd_and (pd_cmp op_eq rd_eqB (pd_isi (x := nD k) (pd_var 0 rfl) kit_int_bool boot_bool B.isinstance B.bool) (pd_isi (x := nD k) (pd_var 1 rfl) kit_int_bool boot_bool B.isinstance B.bool) (by rfl)) fun _ => pd_one (pd_cmp op_eq rd_eqI (pd_var 0 rfl) (pd_var 1 rfl) (by rfl))) ?_))))
      simp
    · refine pds_cons (δ1 := [.d (.bool b), .d (.bool b), .no]) (pds_ifF (pdt_val (pd_isi2 (x := .bool b) (pd_var 1 rfl) kit_bool_tup kit_bool_list boot_tuple boot_list B.isinstance B.tuple B.list)) pds_nil)
        (pds_cons (δ1 := [.d (.bool b), .d (.bool b), .no]) (pds_ifF (PW.pt (pdw_or (pdt_isNone (x := .bool b) (pd_var 1 rfl) rfl) fun _ => pdw_one (pdt_val (pd_isi (x := .bool b) (pd_var 1 rfl) kit_bool_str boot_str B.isinstance B.str)))) pds_nil)
        (pds_one (pds_ret (pd_is (pd_and (pd_isi (x := .bool b) (pd_var 0 rfl) kit_bool_int boot_int B.isinstance B.int) fun _ => pd_and (pd_cmp op_eq rd_eqB (pd_isi (x := .bool b) (pd_var 0 rfl) kit_bool_bool boot_bool B.isinstance B.bool) (pd_isi (x := .bool b) (pd_var 1 rfl) kit_bool_bool boot_bool B.isinstance B.bool) (by rfl)) fun _ => pd_one (pd_cmp op_eq rd_eqB (pd_var 0 rfl) (pd_var 1 rfl) (by rfl))) ?_))))
      cases b <;> rfl
theorem h_alikeT {f : Addr} {fd : FuncData} (F : Fun K "_law_alike" "_law_alike" s_alike f fd) (hm : mg "_law_alike" = some (.ref f)) (B : Bi mg) : Has P w K mg base T "_law_alike" 2 rAlikeT := by
  have h0 := h_alike0 (P := P) (w := w) (base := base) (T := T) F hm B
  refine fn_data F sc_alike hm (F.binds fun _ _ _ _ _ _ us hl => match us, hl with | [_, _], _ => rfl) (fun ds r h => ?_) fun cdv A outer s H E H0s H0 ds r hr hR => ?_
  · obtain ⟨_, _, rfl, _⟩ := h
    rfl
  · obtain ⟨l, hl, rfl, rfl⟩ := hR
    refine ⟨.rt (.bool true), .inl rfl, ?_⟩
    refine pds_end (pds_ifT (pdt_val (pd_isi2 (x := lotD l) (pd_var 1 rfl) kit_tup_tup kit_tup_list boot_tuple boot_list B.isinstance B.tuple B.list))
      (pds_cons (δ1 := [.d (lotD l), .d (lotD l), .no]) (pds_ifF (PW.pt (pdw_or (pdt_not (pdt_val (pd_isi2 (x := lotD l) (pd_var 0 rfl) kit_tup_tup kit_tup_list boot_tuple boot_list B.isinstance B.tuple B.list))) fun _ => pdw_one (pdt_cmp op_ne rd_neB (pd_isi (x := lotD l) (pd_var 0 rfl) kit_tup_list boot_list B.isinstance B.list) (pd_isi (x := lotD l) (pd_var 1 rfl) kit_tup_list boot_list B.isinstance B.list) (by rfl)))) pds_nil)
      (pds_cons (δ1 := [.d (lotD l), .d (lotD l), .no]) (pds_ifF (pdt_is (pdt_cmp op_ne rd_neI (pd_lenT B.len (pd_var 0 rfl)) (pd_lenT B.len (pd_var 1 rfl)) (by rfl)) (by simp)) pds_nil)
      (pds_one (pds_ret (pd_is (pd_cmp (op_eqD (hu64 hr)) (rd_eqD (x := .list []) (y := .list []) rfl rfl rfl rfl) (pd_is (pd_lc (own := [("_law_k", 2)]) (List.range l.length) nD (fun k => [.d (lotD l), .d (lotD l), .d (nD k)]) (fun _ => false) nD rfl sc_alike.nd
        (pid_range (pda_cons (pd_lenT B.len (pd_var 1 rfl)) pda_nil) (n := l.length) ?_ B.range) ?_ (blkOk_by (N := n_alike) (sc := defScope s_alike) (by decide +kernel)) (fun _ _ _ _ _ => pg_name (i := 2) sc_alike.nd rfl (Or.inl rfl)) (fun y _ => tg_name (by decide))
        (fun _ _ _ _ _ k hk => ?_) (fun _ _ _ _ _ p _ _ => pd_var 2 rfl)) ?_) (pd_lst pda_nil (by decide)) (by rfl)) rfl))))))
    · omega
    · rw [List.length_range]; omega
    · have hk := List.mem_range.mp hk
      have g := List.getElem?_eq_getElem hk
      exact pts_one (pdt_is (k := !true) (pdt_not (pdt_val (pd_call h0 hr (show rAlike0 [nD l[k], nD l[k]] (.bool true) from ⟨.inl ⟨_, rfl⟩, rfl⟩) (pda_cons (pd_ix ix_tup (rd_ixT (ix_nat (e := nD) (xs := l) g)) (pd_var 0 rfl) (pd_var 2 rfl)) (pda_cons (pd_ix ix_tup (rd_ixT (ix_nat (e := nD) (xs := l) g)) (pd_var 1 rfl) (pd_var 2 rfl)) pda_nil))))) rfl)
    · simp
end
end K28

set_option Elab.async false
set_option linter.all false
set_option maxRecDepth 100000
set_option maxHeartbeats 4000000
namespace K28
open PySem PySem.Spec PyProof.Rows L2

section
variable {X : Cx} {T : Tx} {H0s H0 : Hp} {δ : List Ent} {sts : List Stmt} {st : Stmt} {ON ON2 : List Ent → Prop} {OR : PyData → Prop} {xs : List PyData}
theorem pspS_weak (h : PSs X sts (tSP T H0s H0 δ ON OR)) (hw : ∀ δ', ON δ' → ∃ δ2, Less δ2 δ' ∧ ON2 δ2) : PSs X sts (tSP T H0s H0 δ ON2 OR) := pss_imp h fun D σ H ⟨Hs, b, k1, k2⟩ => ⟨Hs, b, fun δ' σ' Hs' H' h' e b' => by
  obtain ⟨δ2, l, h2⟩ := hw δ' h'
  exact k1 δ2 σ' Hs' H' h2 e (b'.less l), k2⟩
theorem psp_weak (h : PS X st (tSP T H0s H0 δ ON OR)) (hw : ∀ δ', ON δ' → ∃ δ2, Less δ2 δ' ∧ ON2 δ2) : PS X st (tSP T H0s H0 δ ON2 OR) := ps_imp h fun D σ H ⟨Hs, b, k1, k2⟩ => ⟨Hs, b, fun δ' σ' Hs' H' h' e b' => by
  obtain ⟨δ2, l, h2⟩ := hw δ' h'
  exact k1 δ2 σ' Hs' H' h2 e (b'.less l), k2⟩
theorem pspS_freeze (i : Nat) (h : δ[i]? = some (.own xs)) (hp : PSs X sts (tSP T H0s H0 (δ.set i (.d (.list xs))) ON OR)) : PSs X sts (tSP T H0s H0 δ ON OR) := pss_imp hp fun D σ H ⟨Hs, b, k1, k2⟩ => by
  obtain ⟨Hs', e, b'⟩ := b.freeze h
  exact ⟨Hs', b', fun δ2 σ2 H2s H2 h2 e2 b2 => k1 δ2 σ2 H2s H2 h2 (e.trans e2) b2, k2⟩
end
section
variable {P : Program} {w : World} {K : PySem.W.Frag} {mg : Str → Option Value} {base : Heap} {T : Tx} {R : Addr}
/-- below many -/
def lessN (many : Nat) : PyData → Prop := fun r => ∃ k, k < many ∧ r = nD k
section
variable {X : Cx} {δ : List Ent} {e a : Expr} {es : List Expr} {pos p : Pos}
theorem pdn_taken {many : Nat} (F : HasN X.prog X.w X.K X.mg X.base T "_law_taken" 1 (preTaken R) postTaken) (hr : Room 1 X.A) (h1 : 1 ≤ many) (h2 : many ≤ 1000) (ha : PA X (e :: es) (tDA T δ [rowD R, nD many])) (hg : Gl X "_law_taken" := by rfl)
    (he : starEach (e :: es) X.env = (false, eval e X.env) :: starEach es X.env := by rfl) (hpl : (backTo pos (starEach es X.env)).any (·.1) = false := by rfl) : PE X (.Call (.Name "_law_taken" p) (e :: es) [] pos) (tDN T δ (lessN many)) :=
  pdn_call F hr ⟨many, h1, h2, rfl⟩ (fun r h => by
    obtain ⟨R', m', k, e, hk, rfl⟩ := h
    injection e with e1 e2
    injection e2 with e2 _
    injection e2 with e2
    exact ⟨k, by omega, rfl⟩) ha hg (by decide) he hpl
end
section
variable {X : Cx} {T : Tx} {δ : List Ent} {e : Expr} {pos p2 : Pos}
theorem pd_lenD {xs : List PyData} (hm : X.mg "len" = none) (h : PE X e (tD T δ (.list xs))) (hg : Gl X "len" := by rfl) (he : starEach [e] X.env = (false, eval e X.env) :: starEach [] X.env := by rfl) : PE X (.Call (.Name "len" p2) [e] [] pos) (tD T δ (nD xs.length)) :=
  pd_callB call_len_seq rc_lenL hm boot_len (pda_cons h pda_nil he) hg (he := he)
end
/-! ### pick -/
def prePick (R : Addr) : List PyData → Prop := fun ds => ∃ xs, 1 ≤ xs.length ∧ xs.length ≤ 1000 ∧ ds = [rowD R, .list xs]
def postPick : List PyData → PyData → Prop := fun ds r => ∃ (R : Addr) (xs : List PyData), ds = [rowD R, .list xs] ∧ r ∈ xs
abbrev s_pick : Stmt := top 42
def n_pick : List Str := ["_law_row_here", "_law_things"]
theorem sc_pick : FnScope n_pick ["_law_row_here", "_law_things"] (defScope s_pick) := ⟨rfl, rfl, rfl, by decide +kernel, rfl, by decide +kernel, by decide +kernel⟩
theorem h_pick {f : Addr} {fd : FuncData} (F : Fun K "_law_pick" "_law_pick" s_pick f fd) (hm : mg "_law_pick" = some (.ref f)) (B : Bi mg) (hT : HasN P w K mg base T "_law_taken" 1 (preTaken R) postTaken) : HasN P w K mg base T "_law_pick" 2 (prePick R) postPick := by
  refine fn_dataN F sc_pick hm (F.binds fun _ _ _ _ _ _ us hl => match us, hl with | [_, _], _ => rfl) (fun ds h => ?_) fun cdv A outer s H E H0s H0 ds hr hR => ?_
  · obtain ⟨_, _, _, rfl⟩ := h
    rfl
  · obtain ⟨xs, h1, h2, rfl⟩ := hR
    refine pspS_ret (p := fun r => r ∈ xs) (pdn_ix (p := lessN xs.length) (g := fun y => match y with | .int i => xs.getD i.toNat .none | _ => .none) ix_list (fun y hy => ?_) (pd_var 1 rfl) (pdn_taken hT hr h1 h2 (pda_cons (pd_var 0 rfl) (pda_cons (pd_lenD B.len (pd_var 1 rfl)) pda_nil))) fun y hy => ?_) fun r h => ⟨R, xs, rfl, h⟩
    · obtain ⟨k, hk, rfl⟩ := hy
      refine rd_ixL ?_
      unfold atI ixN
      rw [if_pos (Int.natCast_nonneg k), if_pos (by omega)]
      show xs[((k : Nat) : Int).toNat]? = some (xs.getD ((k : Nat) : Int).toNat .none)
      rw [Int.toNat_natCast, List.getD_eq_getElem?_getD, List.getElem?_eq_getElem hk]
      rfl
    · obtain ⟨k, hk, rfl⟩ := hy
      show xs.getD ((k : Nat) : Int).toNat .none ∈ xs
      rw [Int.toNat_natCast, List.getD_eq_getElem?_getD, List.getElem?_eq_getElem hk]
      exact List.getElem_mem hk
/-! ### web -/
def pairsAt (n i : Nat) : List (Nat × Nat) := (List.range (n - (i + 1))).map fun j => (i, i + 1 + j)
def pairsTo (n k : Nat) : List (Nat × Nat) := (List.range k).flatMap (pairsAt n)
theorem pairsTo_succ {n k : Nat} : pairsTo n (k + 1) = pairsTo n k ++ pairsAt n k := by
  unfold pairsTo
  rw [List.range_succ, List.flatMap_append]
  simp
def isWeb (most : Nat) (W : Web) : Prop := 1 ≤ W.n ∧ W.n ≤ most ∧ W.ps.Sublist (pairsTo W.n W.n)
def preWeb (R : Addr) : List PyData → Prop := fun ds => ∃ most : Nat, 1 ≤ most ∧ most ≤ 4 ∧ ds = [rowD R, nD most]
def postWeb : List PyData → PyData → Prop := fun ds r => ∃ (R : Addr) (most : Nat) (W : Web), ds = [rowD R, nD most] ∧ isWeb most W ∧ r = webD W
abbrev s_web : Stmt := top 44
def n_web : List Str := ["_law_row_here", "_law_most", "_law_size", "_law_pairs", "_law_way", "_law_one", "_law_other", "_law_near"]
theorem sc_web : FnScope n_web ["_law_row_here", "_law_most"] (defScope s_web) := ⟨rfl, rfl, rfl, by decide +kernel, rfl, by decide +kernel, by decide +kernel⟩
def δw (R : Addr) (most n way : Nat) (ps : List (Nat × Nat)) (a b c : Ent) : List Ent := [.d (rowD R), .d (nD most), .d (nD n), .own (ps.map prD), .d (nD way), a, b, c]
theorem take_one {α : Type} {ys : List α} {i : Nat} {y : α} (h : ys[i]? = some y) : ys.take (i + 1) = ys.take i ++ [y] := by
  rw [List.take_add_one, h]
  rfl
theorem h_web {f : Addr} {fd : FuncData} (F : Fun K "_law_web" "_law_web" s_web f fd) (hm : mg "_law_web" = some (.ref f)) (B : Bi mg) (hT : HasN P w K mg base T "_law_taken" 1 (preTaken R) postTaken) : HasN P w K mg base T "_law_web" 2 (preWeb R) postWeb := by
  refine fn_dataN F sc_web hm (F.binds fun _ _ _ _ _ _ us hl => match us, hl with | [_, _], _ => rfl) (fun ds h => ?_) fun cdv A outer s H E H0s H0 ds hr hR => ?_
  · obtain ⟨_, _, _, rfl⟩ := h
    rfl
  · obtain ⟨most, h1, h2, rfl⟩ := hR
    refine psp_cons (I := fun δ' => ∃ n, 1 ≤ n ∧ n ≤ most ∧ δ' = [.d (rowD R), .d (nD most), .d (nD n), .own [], .no, .no, .no, .no])
      (psp_parR 2 3 (p := fun r => ∃ n, 1 ≤ n ∧ n ≤ most ∧ r = nD n) rfl sc_web.nd (pdn_op (p := lessN most) (x := .int 1) (g := fun y => match y with | .int i => .int (1 + i) | _ => .none) op_add (fun y hy => ?_) pd_int (pdn_taken hT hr h1 (by omega) (pda_cons (pd_var 0 rfl) (pda_cons (pd_var 1 rfl) pda_nil))) fun y hy => ?_) fun x hx => ?_) fun δ' hδ => ?_
    · obtain ⟨k, hk, rfl⟩ := hy
      exact rd_II
    · obtain ⟨k, hk, rfl⟩ := hy
      refine ⟨1 + k, by omega, by omega, ?_⟩
      show PyData.int (1 + (k : Nat)) = .int ((1 + k : Nat) : Int)
      rw [Int.natCast_add]
      rfl
    · obtain ⟨n, a, b, rfl⟩ := hx
      exact ⟨n, a, b, rfl⟩
    obtain ⟨n, hn1, hn2, rfl⟩ := hδ
    refine psp_cons (I := fun δ' => ∃ way, way < 4 ∧ δ' = δw R most n way [] .no .no .no) (psp_set 4 (p := lessN 4) sc_web.nd (pdn_taken hT hr (by decide) (by decide) (pda_cons (pd_var 0 rfl) (pda_cons (pd_int (i := 4)) pda_nil))) fun x hx => ?_) fun δ' hδ => ?_
    · obtain ⟨k, hk, rfl⟩ := hx
      exact ⟨k, hk, rfl⟩
    obtain ⟨way, hway, rfl⟩ := hδ
    refine psp_cons (I := fun δ' => ∃ ps, ps.Sublist (pairsTo n n) ∧ δ' = δw R most n way ps .no .no .no)
      (psp_for (ks := [5]) (List.range n) nD (fun k δ' => ∃ ps, ps.Sublist (pairsTo n k) ∧ δ' = δw R most n way ps .no .no .no) (fun y δ' => δ'.set 5 (.d (nD y))) ⟨[], List.Sublist.refl _, rfl⟩ (fun δ' h => by rw [List.length_range] at h; exact h) PassesOwn.never rfl (pid_range (n := n) (pda_cons (pd_var 2 rfl) pda_nil) (by omega) B.range) (pg_name (i := 5) sc_web.nd rfl (Or.inl rfl))
        (fun k y δ' _ _ => tg_name (by decide)) (fun k y δ' hj i e h m => ?_) fun k y δ' hy hj => ?_) fun δ' hδ => ?_
    · obtain ⟨ps, _, rfl⟩ := hj
      exact mineSub_get (i := 0) (show mineSub [5] 0 (δw R most n way ps (.d (nD y)) .no .no) (δw R most n way ps .no .no .no) from ⟨rfl, by decide, trivial⟩) i e h m |> fun z => by rwa [Nat.zero_add] at z
    · obtain ⟨ps, hps, rfl⟩ := hj
      have hk : k < n := by simpa using (List.getElem?_eq_some_iff.mp hy).1
      rw [List.getElem?_range hk] at hy
      cases hy
      refine pspS_weak (ON := fun δ' => ∃ ps', ps'.Sublist (pairsTo n (k + 1)) ∧ δ' = δw R most n way ps' (.d (nD k)) .no .no) (psp_one (psp_for (ks := [6]) (pairsAt n k) (fun p => nD p.2) (fun j δ' => ∃ ps', ps'.Sublist (pairsTo n k ++ (pairsAt n k).take j) ∧ δ' = δw R most n way ps' (.d (nD k)) .no .no) (fun y δ' => δ'.set 6 (.d (nD y.2)))
        ⟨ps, by simpa using hps, rfl⟩ (fun δ' h => by rw [List.take_length, ← pairsTo_succ] at h; exact h) PassesOwn.never rfl (pi_imp (pid_range2 (T := T) (δ := δw R most n way ps (.d (nD k)) .no .no) (m := k + 1) (n := n) (pda_cons (pd_is (pd_op op_add rd_II (pd_var 5 rfl) pd_int) ?_) (pda_cons (pd_var 2 rfl) pda_nil)) (by omega) (by omega) B.range) fun σ H R q => ?_) (pg_name (i := 6) sc_web.nd rfl (Or.inl rfl))
        (fun j y δ' _ _ => tg_name (by decide)) (fun j y δ' hj i e h m => ?_) fun j y δ' hy hj => ?_)) fun δ' hδ => ?_
      · rfl
      · have e : (pairsAt n k).map (fun p => nD p.2) = (List.range (n - (k + 1))).map fun i => PyData.int ((k + 1 + i : Nat) : Int) := by
          unfold pairsAt
          rw [List.map_map]
          rfl
        rw [e] at q
        exact q
      · obtain ⟨ps', _, rfl⟩ := hj
        exact mineSub_get (i := 0) (show mineSub [6] 0 (δw R most n way ps' (.d (nD k)) (.d (nD y.2)) .no) (δw R most n way ps' (.d (nD k)) .no .no) from ⟨rfl, by decide, trivial⟩) i e h m |> fun z => by rwa [Nat.zero_add] at z
      · obtain ⟨ps', hps', rfl⟩ := hj
        have hy1 : y.1 = k := by
          have := List.mem_of_getElem? hy
          unfold pairsAt at this
          obtain ⟨_, _, rfl⟩ := List.mem_map.mp this
          rfl
        obtain ⟨y1, y2⟩ := y
        have hy1 : k = y1 := hy1.symm
        subst hy1
        have hsm : (pairsTo n k ++ (pairsAt n k).take j).length ≤ 1000 := by
          have : ∀ m, m < 5 → ∀ k, k < 5 → (pairsTo m k).length ≤ 100 ∧ (pairsAt m k).length ≤ 10 := by decide +kernel
          have h := this n (by omega) k (by omega)
          rw [List.length_append]
          have := List.length_take_le j (pairsAt n k)
          have := List.length_take_le' j (pairsAt n k)
          omega
        refine pspS_weak (ON := fun δ' => ∃ ps2 b, ps2.Sublist (pairsTo n k ++ (pairsAt n k).take (j + 1)) ∧ δ' = δw R most n way ps2 (.d (nD k)) (.d (nD y2)) (.d (.bool b))) (psp_cons (I := fun δ' => ∃ b, δ' = δw R most n way ps' (.d (nD k)) (.d (nD y2)) (.d (.bool b)))
          (psp_nx (pds_set 7 sc_web.nd (pd_or (pd_cmp op_eq rd_eqI (pd_var 6 rfl) (pd_op op_add rd_II (pd_var 5 rfl) pd_int) (by rfl)) fun _ => pd_one (pd_and (pd_cmp op_eq rd_eqI (pd_var 5 rfl) pd_int (by rfl)) fun _ => pd_and (pd_cmp op_eq rd_eqI (pd_var 6 rfl) (pd_op op_sub rd_II (pd_var 2 rfl) pd_int) (by rfl)) fun _ => pd_one (pd_cmp op_eq rd_eqI (pd_var 4 rfl) pd_int (by rfl))))) ⟨_, rfl⟩) fun δ' hδ => ?_) fun δ' hδ => ?_
        · obtain ⟨b, rfl⟩ := hδ
          have tk : ∀ m : Nat, 1 ≤ m → m ≤ 1000 → ∀ y, lessN m y → RD rEq y (.int 0) (.bool (match y with | .int i => decide (i = 0) | _ => false)) := fun m _ _ y hy => by
            obtain ⟨k, _, rfl⟩ := hy
            exact rd_eqI
          refine psp_one (psp_if (PW.pt (pdwa_or (PW.pt (pdwa_and (pdta_cmp (y := .int 0) (p := lessN 3) op_eq (tk 3 (by decide) (by decide)) (pdn_taken hT hr (by decide) (by decide) (pda_cons (pd_var 0 rfl) (pda_cons (pd_int (i := 3)) pda_nil))) pd_int (by rfl)) (pdwa_one (pdta_of (pdt_cmp op_gt rd_IB (pd_var 4 rfl) pd_int (by rfl))))))
            (pdwa_or (PW.pt (pdwa_and (pdta_of (pdt_val (pd_var 7 rfl))) (pdwa_one (pdta_of (pdt_cmp op_lt rd_IB (pd_var 4 rfl) pd_int (by rfl))))))
            (pdwa_one (PW.pt (pdwa_and (pdta_of (pdt_cmp op_eq rd_eqI (pd_var 4 rfl) pd_int (by rfl))) (pdwa_one (pdta_cmp (y := .int 0) (p := lessN 2) op_eq (tk 2 (by decide) (by decide)) (pdn_taken hT hr (by decide) (by decide) (pda_cons (pd_var 0 rfl) (pda_cons (pd_int (i := 2)) pda_nil))) pd_int (by rfl)))))))))
            (psp_one (psp_nx (pds_append 3 rfl (pd_tup (pda_cons (pd_var 5 rfl) (pda_cons (pd_var 6 rfl) pda_nil)) (by show 2 ≤ 1000; decide)) ?_ rfl) ⟨ps' ++ [(k, y2)], b, ?_, ?_⟩)) (pspS_nil ⟨ps', b, ?_, rfl⟩))
          · rw [List.length_map]
            have := hps'.length_le
            omega
          · rw [take_one hy, ← List.append_assoc]
            exact hps'.append (List.Sublist.refl _)
          · unfold δw
            rw [List.map_append]
            rfl
          · rw [take_one hy, ← List.append_assoc]
            exact hps'.trans (List.sublist_append_left _ _)
        · obtain ⟨ps2, b, h, rfl⟩ := hδ
          exact ⟨_, less_of (show lessB (δw R most n way ps2 (.d (nD k)) .no .no) _ from ⟨rfl, rfl, rfl, rfl, rfl, rfl, trivial⟩), ps2, h, rfl⟩
      · obtain ⟨ps2, h, rfl⟩ := hδ
        exact ⟨_, less_of (show lessB (δw R most n way ps2 .no .no .no) _ from ⟨rfl, rfl, rfl, rfl, rfl, trivial⟩), ps2, h, rfl⟩
    · obtain ⟨ps, hps, rfl⟩ := hδ
      refine pspS_freeze 3 rfl (pspS_ret (p := fun r => r = webD ⟨n, ps⟩) (pdn_of (pd_tup (pda_cons (pd_var 2 rfl) (pda_cons (pd_tuple B.tuple (pd_var 3 rfl)) pda_nil)) (by show 2 ≤ 1000; decide)) rfl) fun r h => ⟨R, most, ⟨n, ps⟩, rfl, ⟨hn1, hn2, hps⟩, h⟩)
end
end K28

set_option Elab.async false
set_option linter.all false
set_option maxRecDepth 100000
set_option maxHeartbeats 4000000
namespace K28
open PySem PySem.Spec PyProof.Rows L2

section
variable {X : Cx} {T : Tx} {δ : List Ent} {a b e : Expr} {pos p : Pos} {x : PyData}
/-- [x] * int(flag) -/
theorem pd_rep1 {c : Bool} (ha : PE X a (tD T δ (.list [x]))) (hb : PE X b (tD T δ (.int (if c then 1 else 0)))) : PE X (.BinOp a .Mult b pos) (tD T δ (.list (if c then [x] else []))) :=
  pd_is (pd_op op_rep (rd_rep (by cases c <;> decide) (by cases c <;> decide) (by cases c <;> show 1 * _ ≤ 1000 <;> decide)) ha hb) (by cases c <;> rfl)
theorem pd_intB {c : Bool} (hm : X.mg "int" = none) (h : PE X e (tD T δ (.bool c))) (hg : Gl X "int" := by rfl) (he : starEach [e] X.env = (false, eval e X.env) :: starEach [] X.env := by rfl) : PE X (.Call (.Name "int" p) [e] [] pos) (tD T δ (.int (if c then 1 else 0))) :=
  pd_callTy call_int1 rc_intB hm boot_int (pda_cons h pda_nil he) hg (he := he)
end
section
variable {P : Program} {w : World} {K : PySem.W.Frag} {mg : Str → Option Value} {base : Heap} {T : Tx}
/-! ### foes -/
def lfAt (p : Nat) (q : Nat × Nat) : List Nat := (if decide (q.1 = p) then [q.2] else []) ++ (if decide (q.2 = p) then [q.1] else [])
def lfTo (ps : List (Nat × Nat)) (p : Nat) (k : Nat) : List Nat := (ps.take k).flatMap (lfAt p)
def lFoes (W : Web) (p : Nat) : List Nat := isort ltN (W.ps.flatMap (lfAt p))
theorem lfAt_len (p : Nat) (q : Nat × Nat) : (lfAt p q).length ≤ 2 := by
  unfold lfAt
  split <;> split <;> simp
theorem lfTo_len (ps : List (Nat × Nat)) (p : Nat) : (ps.flatMap (lfAt p)).length ≤ 2 * ps.length := by
  induction ps with
  | nil => simp
  | cons q ps ih =>
    have := lfAt_len p q
    rw [List.flatMap_cons, List.length_append, List.length_cons]
    omega
def rLfoes : List PyData → PyData → Prop := fun ds r => ∃ W p, W.ps.length ≤ 100 ∧ ds = [webD W, nD p] ∧ r = listD nD (lFoes W p)
abbrev s_lfoes : Stmt := top 45
def n_lfoes : List Str := ["_law_web_here", "_law_person", "_law_found", "_law_one", "_law_other"]
theorem sc_lfoes : FnScope n_lfoes ["_law_web_here", "_law_person"] (defScope s_lfoes) := ⟨rfl, rfl, rfl, by decide +kernel, rfl, by decide +kernel, by decide +kernel⟩
theorem h_lfoes {f : Addr} {fd : FuncData} (F : Fun K "_law_foes" "_law_foes" s_lfoes f fd) (hm : mg "_law_foes" = some (.ref f)) (B : Bi mg) : Has P w K mg base T "_law_foes" 1 rLfoes := by
  refine fn_data F sc_lfoes hm (F.binds fun _ _ _ _ _ _ us hl => match us, hl with | [_, _], _ => rfl) (fun ds r h => ?_) fun cdv A outer s H E H0s H0 ds r hr hR => ?_
  · obtain ⟨W, p, _, rfl, _⟩ := h
    rfl
  · obtain ⟨W, p, hl, rfl, rfl⟩ := hR
    refine ⟨.rt (listD nD (lFoes W p)), .inl rfl, pds_cons (δ1 := [.d (webD W), .d (nD p), .d (listD nD (lfTo W.ps p 0)), .no, .no]) (pds_set 2 sc_lfoes.nd (pd_lst (ds := []) pda_nil (by decide))) (pds_cons (δ1 := [.d (webD W), .d (nD p), .d (listD nD (lfTo W.ps p W.ps.length)), .no, .no]) ?_ (pds_one (pds_ret ?_)))⟩
    · refine pds_forD (ks := [3, 4]) (g := gTup K 2 (gCons (gName 3) (gCons (gName 4) gNil))) W.ps prD (fun k => [.d (webD W), .d (nD p), .d (listD nD (lfTo W.ps p k)), .no, .no]) (fun k q => [.d (webD W), .d (nD p), .d (listD nD (lfTo W.ps p k)), .d (nD q.1), .d (nD q.2)]) rfl rfl PassesOwn.never rfl
        (pid_tup (pd_web1 (pd_var 0 rfl))) (pg_tup rfl (pgs_cons (pg_name (i := 3) sc_lfoes.nd rfl (Or.inl rfl)) (pgs_cons (pg_name (i := 4) sc_lfoes.nd rfl (Or.inl rfl)) pgs_nil))) (fun k q => trivial) (fun k q _ => tg_pair (by decide) (by decide)) (fun k q hq => ?_)
      have hk : k < W.ps.length := (List.getElem?_eq_some_iff.mp hq).1
      have h1 := lfTo_len (W.ps.take k) p
      have h2 := List.length_take_le k W.ps
      have h4 : (lfTo W.ps p k).length ≤ 200 := by
        unfold lfTo
        omega
      refine pds_weak (δ1 := [.d (webD W), .d (nD p), .d (listD nD (lfTo W.ps p (k + 1))), .d (nD q.1), .d (nD q.2)]) (less_of ⟨rfl, rfl, rfl, trivial⟩) (pds_one (pds_set 2 sc_lfoes.nd (pd_is (pd_op op_cat (rd_cat ?_) (pd_op op_cat (rd_cat ?_) (pd_var 2 rfl) (pd_rep1 (pd_lst (pda_cons (pd_var 4 rfl) pda_nil) (by show 1 ≤ 1000; decide)) (pd_intB B.int (pd_cmp op_eq rd_eqN (pd_var 3 rfl) (pd_var 1 rfl) (by rfl)))))
        (pd_rep1 (pd_lst (pda_cons (pd_var 3 rfl) pda_nil) (by show 1 ≤ 1000; decide)) (pd_intB B.int (pd_cmp op_eq rd_eqN (pd_var 4 rfl) (pd_var 1 rfl) (by rfl))))) ?_)))
      · rw [List.length_append, List.length_map]
        generalize (lfTo W.ps p k).length = m at h4
        split <;> split <;> simp only [List.length_cons, List.length_nil] <;> omega
      · rw [List.length_map]
        generalize (lfTo W.ps p k).length = m at h4
        split <;> simp only [List.length_cons, List.length_nil] <;> omega
      · unfold lfTo listD
        rw [take_one hq, List.flatMap_append, List.map_append, List.append_assoc]
        congr 2
        simp only [List.flatMap_cons, List.flatMap_nil, List.append_nil]
        unfold lfAt
        rw [List.map_append]
        congr 1 <;> split <;> rfl
    · have e : lfTo W.ps p W.ps.length = W.ps.flatMap (lfAt p) := by
        unfold lfTo
        rw [List.take_length]
      rw [e]
      exact pd_sortedE EOrd.nat lin_N (by decide) _ (sok_nat _) (hu64 hr) B.sorted (pd_var 2 rfl)
/-! ### come, done -/
def lCome (W : Web) (g : List Nat) (p : Nat) : List Nat := isort ltN (g.filter (fun o => !decide (o = p) && !memB o (lFoes W p)) ++ [p])
theorem lCome_len (W : Web) (g : List Nat) (p : Nat) : (lCome W g p).length ≤ g.length + 1 := by
  unfold lCome
  rw [(isort_perm _).length_eq, List.length_append]
  have := List.length_filter_le (fun o => !decide (o = p) && !memB o (lFoes W p)) g
  simp only [List.length_cons, List.length_nil]
  omega
def rLcome : List PyData → PyData → Prop := fun ds r => ∃ W g p, W.ps.length ≤ 100 ∧ g.length ≤ 900 ∧ ds = [webD W, lotD g, nD p] ∧ r = lotD (lCome W g p)
abbrev s_lcome : Stmt := top 46
def n_lcome : List Str := ["_law_web_here", "_law_gathering", "_law_person", "_law_bad", "_law_one"]
theorem sc_lcome : FnScope n_lcome ["_law_web_here", "_law_gathering", "_law_person"] (defScope s_lcome) := ⟨rfl, rfl, rfl, by decide +kernel, rfl, by decide +kernel, by decide +kernel⟩
theorem h_lcome {f : Addr} {fd : FuncData} (F : Fun K "_law_come" "_law_come" s_lcome f fd) (hm : mg "_law_come" = some (.ref f)) (B : Bi mg) (hA : Has P w K mg base T "_law_foes" 1 rLfoes) : Has P w K mg base T "_law_come" 2 rLcome := by
  refine fn_data F sc_lcome hm (F.binds fun _ _ _ _ _ _ us hl => match us, hl with | [_, _, _], _ => rfl) (fun ds r h => ?_) fun cdv A outer s H E H0s H0 ds r hr hR => ?_
  · obtain ⟨W, g, p, _, _, rfl, _⟩ := h
    rfl
  · obtain ⟨W, g, p, hW, hg, rfl, rfl⟩ := hR
    have hfl := List.length_filter_le (fun o => !decide (o = p) && !memB o (lFoes W p)) g
    refine ⟨.rt (lotD (lCome W g p)), .inl rfl, pds_cons (δ1 := [.d (webD W), .d (lotD g), .d (nD p), .d (listD nD (lFoes W p)), .no]) (pds_set 3 sc_lcome.nd (pd_call hA hr ⟨W, p, hW, rfl, rfl⟩ (pda_cons (pd_var 0 rfl) (pda_cons (pd_var 2 rfl) pda_nil))))
      (pds_one (pds_ret (pd_tuple B.tuple (pd_sortedE EOrd.nat lin_N (by decide) _ (sok_nat _) (hu64 hr) B.sorted (pd_is (pd_op op_cat (rd_cat ?_) (pd_lc (own := [("_law_one", 4)]) g nD (fun o => [.d (webD W), .d (lotD g), .d (nD p), .d (listD nD (lFoes W p)), .d (nD o)]) (fun o => !decide (o = p) && !memB o (lFoes W p)) nD rfl sc_lcome.nd
      (pid_tup (pd_var 1 rfl)) (by omega) (blkOk_by (N := n_lcome) (sc := defScope s_lcome) (by decide +kernel)) (fun _ _ _ _ _ => pg_name (i := 4) sc_lcome.nd rfl (Or.inl rfl)) (fun y _ => tg_name (by decide))
      (fun _ _ _ _ _ o ho => pts_one (PW.pt (pdw_and (pdt_cmp op_ne rd_neN (pd_var 4 rfl) (pd_var 2 rfl) (by rfl)) fun _ => pdw_one (pdt_cmp op_notIn_seq rd_notNL (pd_var 4 rfl) (pd_var 3 rfl) (by rfl)))))
      (fun _ _ _ _ _ o ho _ => pd_var 4 rfl)) (pd_lst (pda_cons (pd_var 2 rfl) pda_nil) (by show 1 ≤ 1000; decide))) ?_)))))⟩
    · simp only [List.length_map, List.length_cons, List.length_nil]
      omega
    · unfold listD
      rw [List.map_append]
      rfl
def lDoneK (W : Web) (g row : List Nat) : Nat → List Nat
  | 0 => g
  | k + 1 => lCome W (lDoneK W g row k) (row.getD k 0)
def lDone (W : Web) (g row : List Nat) : List Nat := lDoneK W g row row.length
theorem lDoneK_len (W : Web) (g row : List Nat) : ∀ k, (lDoneK W g row k).length ≤ g.length + k
  | 0 => Nat.le_refl _
  | k + 1 => by
    have h1 := lDoneK_len W g row k
    have h2 := lCome_len W (lDoneK W g row k) (row.getD k 0)
    rw [lDoneK]
    omega
def rLdone : List PyData → PyData → Prop := fun ds r => ∃ W g row, W.ps.length ≤ 100 ∧ g.length ≤ 100 ∧ row.length ≤ 100 ∧ ds = [webD W, lotD g, lotD row] ∧ r = lotD (lDone W g row)
abbrev s_ldone : Stmt := top 47
def n_ldone : List Str := ["_law_web_here", "_law_gathering", "_law_row_here", "_law_person"]
theorem sc_ldone : FnScope n_ldone ["_law_web_here", "_law_gathering", "_law_row_here"] (defScope s_ldone) := ⟨rfl, rfl, rfl, by decide +kernel, rfl, by decide +kernel, by decide +kernel⟩
theorem h_ldone {f : Addr} {fd : FuncData} (F : Fun K "_law_done" "_law_done" s_ldone f fd) (hm : mg "_law_done" = some (.ref f)) (hC : Has P w K mg base T "_law_come" 2 rLcome) : Has P w K mg base T "_law_done" 3 rLdone := by
  refine fn_data F sc_ldone hm (F.binds fun _ _ _ _ _ _ us hl => match us, hl with | [_, _, _], _ => rfl) (fun ds r h => ?_) fun cdv A outer s H E H0s H0 ds r hr hR => ?_
  · obtain ⟨W, g, row, _, _, _, rfl, _⟩ := h
    rfl
  · obtain ⟨W, g, row, hW, hg, hrow, rfl, rfl⟩ := hR
    refine ⟨.rt (lotD (lDone W g row)), .inl rfl, pds_cons (δ1 := [.d (webD W), .d (lotD (lDone W g row)), .d (lotD row), .no]) ?_ (pds_one (pds_ret (pd_var 1 rfl)))⟩
    refine pds_forD (ks := [3]) (g := gName 3) row nD (fun k => [.d (webD W), .d (lotD (lDoneK W g row k)), .d (lotD row), .no]) (fun k q => [.d (webD W), .d (lotD (lDoneK W g row k)), .d (lotD row), .d (nD q)]) rfl rfl PassesOwn.never rfl
        (pid_tup (pd_var 2 rfl)) (pg_name (i := 3) sc_ldone.nd rfl (Or.inl rfl)) (fun k q => trivial) (fun k q _ => tg_name (by decide)) (fun k q hq => ?_)
    have hk : k < row.length := (List.getElem?_eq_some_iff.mp hq).1
    have hl := lDoneK_len W g row k
    have e1 : row.getD k 0 = q := by rw [List.getD_eq_getElem?_getD, hq]; rfl
    exact pds_weak (δ1 := [.d (webD W), .d (lotD (lDoneK W g row (k + 1))), .d (lotD row), .d (nD q)]) (less_of ⟨rfl, rfl, rfl, trivial⟩) (pds_one (pds_set 1 sc_ldone.nd (pd_call hC hr ⟨W, lDoneK W g row k, q, hW, by omega, rfl, by rw [lDoneK, e1]⟩ (pda_cons (pd_var 0 rfl) (pda_cons (pd_var 1 rfl) (pda_cons (pd_var 3 rfl) pda_nil))))))
/-! ### lots, gatherings -/
abbrev s_llots : Stmt := top 48
def n_llots : List Str := ["_law_web_here", "_law_found", "_law_person", "_law_one"]
theorem sc_llots : FnScope n_llots ["_law_web_here"] (defScope s_llots) := ⟨rfl, rfl, rfl, by decide +kernel, rfl, by decide +kernel, by decide +kernel⟩
theorem h_llots {f : Addr} {fd : FuncData} (F : Fun K "_law_lots" "_law_lots" s_llots f fd) (hm : mg "_law_lots" = some (.ref f)) (B : Bi mg) : Has P w K mg base T "_law_lots" 1 rAll_lots := by
  refine fn_data F sc_llots hm (F.binds fun _ _ _ _ _ _ us hl => match us, hl with | [_], _ => rfl) (fun ds r h => ?_) fun cdv A outer s H E H0s H0 ds r hr hR => ?_
  · obtain ⟨W, _, rfl, _⟩ := h
    rfl
  · obtain ⟨W, hn, rfl, rfl⟩ := hR
    refine ⟨.rt (listD lotD (allLots W.n)), .inl rfl, ?_⟩
    refine pds_cons (δ1 := [.d (webD W), .d (listD lotD (lots 0)), .no, .no]) (pds_set 1 sc_llots.nd (pd_lst (ds := [lotD []]) (pda_cons (pd_tup (ds := []) pda_nil (by decide)) pda_nil) (by show 1 ≤ 1000; decide))) ?_
    refine pds_cons (δ1 := [.d (webD W), .d (listD lotD (lots W.n)), .no, .no]) ?_ ?_
    · refine pds_forN (ks := [2]) (g := gName 2) W.n (fun k => [.d (webD W), .d (listD lotD (lots k)), .no, .no]) (fun k => [.d (webD W), .d (listD lotD (lots k)), .d (nD k), .no]) rfl rfl PassesOwn.never rfl
        (pid_range (n := W.n) (pda_cons (pd_web0 (pd_var 0 rfl)) pda_nil) (by omega) B.range) (pg_name (i := 2) sc_llots.nd rfl (Or.inr rfl)) (fun k => trivial) (fun k => tg_name (by decide)) (fun y hk => ?_)
      · refine pds_weak (δ1 := [.d (webD W), .d (listD lotD (lots (y + 1))), .d (nD y), .no]) (less_of ⟨rfl, rfl, trivial⟩) (pds_one (pds_set 1 sc_llots.nd (pd_is (pd_op op_cat (rd_cat ?_) (pd_var 1 rfl) (pd_lc (own := [("_law_one", 3)]) (lots y) lotD (fun l => [.d (webD W), .d (listD lotD (lots y)), .d (nD y), .d (lotD l)]) (fun _ => true) (fun l => lotD (l ++ [y])) rfl sc_llots.nd
          (pid_list (pd_var 1 rfl)) ?_ (blkOk_by (N := n_llots) (sc := defScope s_llots) (by decide +kernel)) (fun _ _ _ _ _ => pg_name (i := 3) sc_llots.nd rfl (Or.inl rfl)) (fun y _ => tg_name (by decide)) (fun _ _ _ _ _ _ _ => pts_no)
          (fun _ _ _ _ _ l hl _ => pd_is (pd_op op_catA (rd_catT ?_) (pd_var 3 rfl) (pd_tup (pda_cons (pd_var 2 rfl) pda_nil) (by show 1 ≤ 1000; decide))) ?_))) ?_)))
        · have := pow_7 (show y ≤ 7 by omega)
          have := lots_len y
          have e2 := List.length_filter_le (fun _ => true) (lots y)
          simp only [List.length_map]
          omega
        · have := pow_7 (show y ≤ 7 by omega)
          have := lots_len y
          omega
        · have := lots_mem y l hl
          simp only [List.length_map, List.length_cons, List.length_nil]
          omega
        · unfold lotD
          rw [List.map_append]
          rfl
        · unfold listD
          rw [lots, List.map_append, List.map_map, filt_all]
          rfl
    · obtain ⟨rest, e⟩ := lots_hd W.n
      refine pds_one (pds_ret (pd_sortedE EOrd.lot lin_lot (by decide) (lots W.n) ?_ (hu64 hr) B.sorted (pd_var 1 rfl)))
      rw [e]
      exact sok_lot
def lIsG (W : Web) (l : List Nat) : Bool := (W.ps.filter fun q => memB q.1 l && memB q.2 l).isEmpty
def rLisg : List PyData → PyData → Prop := fun ds r => ∃ W l, W.ps.length ≤ 100 ∧ ds = [webD W, lotD l] ∧ r = .bool (lIsG W l)
abbrev s_lisg : Stmt := top 49
def n_lisg : List Str := ["_law_web_here", "_law_lot", "_law_pair"]
theorem sc_lisg : FnScope n_lisg ["_law_web_here", "_law_lot"] (defScope s_lisg) := ⟨rfl, rfl, rfl, by decide +kernel, rfl, by decide +kernel, by decide +kernel⟩
theorem eq_nil {α : Type} [DecidableEq α] (l : List α) : decide (l = []) = l.isEmpty := by cases l <;> simp
theorem h_lisg {f : Addr} {fd : FuncData} (F : Fun K "_law_is_gathering" "_law_is_gathering" s_lisg f fd) (hm : mg "_law_is_gathering" = some (.ref f)) (B : Bi mg) : Has P w K mg base T "_law_is_gathering" 1 rLisg := by
  refine fn_data F sc_lisg hm (F.binds fun _ _ _ _ _ _ us hl => match us, hl with | [_, _], _ => rfl) (fun ds r h => ?_) fun cdv A outer s H E H0s H0 ds r hr hR => ?_
  · obtain ⟨W, l, _, rfl, _⟩ := h
    rfl
  · obtain ⟨W, l, hW, rfl, rfl⟩ := hR
    refine ⟨_, .inl rfl, pds_one (pds_ret (pd_is (pd_cmp (x := listD prD (W.ps.filter fun q => memB q.1 l && memB q.2 l)) (y := listD prD []) (op_eqD (hu64 hr)) (rd_eqE (Enc.lst Enc.pr) (by decide)) (pd_lc (own := [("_law_pair", 2)]) W.ps prD (fun q => [.d (webD W), .d (lotD l), .d (prD q)]) (fun q => memB q.1 l && memB q.2 l) prD rfl sc_lisg.nd (pid_tup (pd_web1 (pd_var 0 rfl))) (by omega)
      (blkOk_by (N := n_lisg) (sc := defScope s_lisg) (by decide +kernel)) (fun _ _ _ _ _ => pg_name (i := 2) sc_lisg.nd rfl (Or.inl rfl)) (fun y _ => tg_name (by decide))
      (fun _ _ _ _ _ q _ => pts_one (PW.pt (pdw_and (pdt_cmp op_in_seq rd_inNT (pd_fst (pd_var 2 rfl)) (pd_var 1 rfl) (by rfl)) fun _ => pdw_one (pdt_cmp op_in_seq rd_inNT (pd_snd (pd_var 2 rfl)) (pd_var 1 rfl) (by rfl))))) (fun _ _ _ _ _ q _ _ => pd_var 2 rfl)) (pd_lst pda_nil (by decide)) (by rfl)) (by rw [eq_nil]; rfl)))⟩
def lGaths (W : Web) : List (List Nat) := (allLots W.n).filter (lIsG W)
def rLgath : List PyData → PyData → Prop := fun ds r => ∃ W, W.n ≤ 7 ∧ W.ps.length ≤ 100 ∧ ds = [webD W] ∧ r = listD lotD (lGaths W)
abbrev s_lgath : Stmt := top 50
def n_lgath : List Str := ["_law_web_here", "_law_lot"]
theorem sc_lgath : FnScope n_lgath ["_law_web_here"] (defScope s_lgath) := ⟨rfl, rfl, rfl, by decide +kernel, rfl, by decide +kernel, by decide +kernel⟩
theorem h_lgath {f : Addr} {fd : FuncData} (F : Fun K "_law_gatherings" "_law_gatherings" s_lgath f fd) (hm : mg "_law_gatherings" = some (.ref f)) (B : Bi mg) (hL : Has P w K mg base T "_law_lots" 1 rAll_lots) (hG : Has P w K mg base T "_law_is_gathering" 1 rLisg) : Has P w K mg base T "_law_gatherings" 2 rLgath := by
  refine fn_data F sc_lgath hm (F.binds fun _ _ _ _ _ _ us hl => match us, hl with | [_], _ => rfl) (fun ds r h => ?_) fun cdv A outer s H E H0s H0 ds r hr hR => ?_
  · obtain ⟨W, _, _, rfl, _⟩ := h
    rfl
  · obtain ⟨W, hn, hW, rfl, rfl⟩ := hR
    refine ⟨_, .inl rfl, pds_one (pds_ret (pd_lc (own := [("_law_lot", 1)]) (allLots W.n) lotD (fun l => [.d (webD W), .d (lotD l)]) (lIsG W) lotD rfl sc_lgath.nd (pid_list (pd_call hL hr ⟨W, hn, rfl, rfl⟩ (pda_cons (pd_var 0 rfl) pda_nil)))
      ?_ (blkOk_by (N := n_lgath) (sc := defScope s_lgath) (by decide +kernel)) (fun _ _ _ _ _ => pg_name (i := 1) sc_lgath.nd rfl (Or.inl rfl)) (fun y _ => tg_name (by decide))
      (fun _ _ _ _ _ l hl => pts_one (pdt_val (pd_call hG hr ⟨W, l, hW, rfl, rfl⟩ (pda_cons (pd_var 0 rfl) (pda_cons (pd_var 1 rfl) pda_nil))))) (fun _ _ _ _ _ l hl _ => pd_var 1 rfl)))⟩
    have := pow_7 hn
    have := allLots_len W.n
    omega
end
end K28

set_option Elab.async false
set_option linter.all false
set_option maxRecDepth 100000
set_option maxHeartbeats 4000000
/-! sets whose members are of a kind of keys that stand in the heap (fewer than 64); the way of HandS.TupSets, for any such kind. -/
namespace K28
open PySem PySem.Spec PyProof.Rows L2

/-- what a set asks of such a key besides its hash and its equality -/
structure HK {P : Program} {w : World} {κ : Type} [DecidableEq κ] (knd : HeapKind P w κ) : Prop where
  stay : ∀ {h h' : Heap} {k : κ} {a : Addr}, (∀ b o vs n, h.get? b = some o → o.data = .seq vs n → h'.get? b = some o) → knd.is h k a → knd.is h' k a
  cls : ∀ {A : Around} {E : Value → Shared → Prop} {s : Shared} {k : κ} {a : Addr} {Q : Bool → Shared → Prop}, knd.is s.heap k a → Q false s → wpAny (model P w) A (ofAClassStatement 8 (.ref a)) Q E s
  hby : ∀ {A : Around} {E : Value → Shared → Prop} {s : Shared} {k : κ} {a : Addr} {Q : Bool → Shared → Prop}, knd.is s.heap k a → Q true s → wpAny (model P w) A (hashByValue 8 (.ref a)) Q E s
section
variable {P : Program} {w : World} {κ : Type} [DecidableEq κ] {knd : HeapKind P w κ} {A : Around} {E : Value → Shared → Prop} {s : Shared}
theorem HK.same (Z : HK knd) {h h' : Heap} {k : κ} {b a : Addr} {o : Obj} {es : Array (Int × Value)} {ep : Nat} {t : SetTable} (hb : knd.is h k b) (ho : h.get? a = some o) (hd : o.data = .set es ep t) (hs : Heap.SameBut a h h') : knd.is h' k b :=
  Z.stay (fun c u vs n hc hu => (hs.2 c (fun e => by subst e; rw [ho] at hc; cases hc; rw [hd] at hu; cases hu)).trans hc) hb
theorem HK.keep (Z : HK knd) {h h' : Heap} {k : κ} {b : Addr} (hb : knd.is h k b) (hk : ∀ c o, h.get? c = some o → h'.get? c = some o) : knd.is h' k b := Z.stay (fun c u _ _ hc _ => hk c u hc) hb
/-- a search among such keys shows nothing -/
theorem HK.seen (Z : HK knd) {k : κ} {b : Addr} {Q : Bool → Shared → Prop} (hk : knd.is s.heap k b) {ys : List Value} (hy : ∀ y ∈ ys, ∃ k' c, y = Value.ref c ∧ knd.is s.heap k' c) (h : Q false s) : wpAny (model P w) A (searchCouldBeSeen (.ref b) ys) Q E s := by
  unfold searchCouldBeSeen
  refine wpAny_bind (wpAny_forIn_list _ (fun rest r s' => r.1 = none ∧ s' = s ∧ ∀ y ∈ rest, ∃ k' c, y = Value.ref c ∧ knd.is s.heap k' c) _ ?_ ?_ _ _ ⟨rfl, rfl, hy⟩)
  · rintro v rest r s' ⟨hr, rfl, hall⟩
    obtain ⟨k', c, rfl, hc⟩ := hall v List.mem_cons_self
    have more : ∀ y ∈ rest, ∃ k' c, y = Value.ref c ∧ knd.is s'.heap k' c := fun u hu => hall u (List.mem_cons_of_mem _ hu)
    dsimp only
    by_cases hv : (b == c || (carriedByValue (.ref b) && carriedByValue (.ref c))) = true
    · exact wp_if_pos hv (wpAny_pure ⟨rfl, rfl, more⟩)
    · refine wp_if_neg hv (wpAny_bind (knd.quiet hk ?_))
      simp only [Bool.not_true, Bool.false_eq_true, if_false]
      refine wpAny_bind (knd.quiet hc ?_)
      simp only [Bool.not_true, Bool.false_eq_true, if_false]
      refine wpAny_bind (Z.cls hk ?_)
      simp only [Bool.false_eq_true, if_false]
      refine wpAny_bind (Z.cls hc ?_)
      simp only [Bool.false_eq_true, if_false]
      exact wpAny_pure ⟨rfl, rfl, more⟩
  · rintro ⟨r1, r2⟩ s' ⟨hr, rfl, _⟩
    simp only at hr
    subst hr
    exact wpAny_pure h

def rowsH (knd : HeapKind P w κ) (L : List (Addr × κ)) : List (Int × Value) := L.map fun p => (knd.hash p.2, Value.ref p.1)
/-- the set at a, its members where they stand -/
structure SetH (knd : HeapKind P w κ) (h : Heap) (a : Addr) (L : List (Addr × κ)) (es : Array (Int × Value)) (ep : Nat) (t : SetTable) : Prop where
  ob : ∃ o, h.get? a = some o ∧ o.ExactSet ∧ o.data = .set es ep t
  rows : es.toList = rowsH knd L
  tab : TabOk t (L.map fun p => knd.hash p.2)
  nd : (L.map (·.2)).Nodup
  key : ∀ p ∈ L, knd.is h p.2 p.1
  plain : t.plain = true
  led : w.params.followText "set-order" = true ∨ t.led = true
  room : L.length * 5 < t.mask * 3
  few : L.length < 64
variable {a : Addr} {L : List (Addr × κ)} {es : Array (Int × Value)} {ep : Nat} {t : SetTable}
theorem rowsH_size (h : es.toList = rowsH knd L) : es.size = L.length := by
  rw [← Array.length_toList, h]
  exact List.length_map ..
theorem SetH.size {h : Heap} (R : SetH knd h a L es ep t) : es.size = L.length := rowsH_size R.rows
theorem SetH.fits {h : Heap} (R : SetH knd h a L es ep t) : t.fits es.size = true := by
  have h1 := R.tab.sz
  rw [List.length_map] at h1
  have h2 := R.size
  have h3 := R.room
  unfold SetTable.fits SetTable.fill
  rw [R.tab.dm, Bool.and_eq_true, beq_iff_eq, decide_eq_true_eq]
  show t.place.size = es.size ∧ t.place.size + 0 ≤ t.mask
  omega
theorem SetH.entry {h : Heap} (R : SetH knd h a L es ep t) {i : Nat} {p : Addr × κ} (q : L[i]? = some p) : es[i]? = some (knd.hash p.2, Value.ref p.1) := by
  rw [← Array.getElem?_toList, R.rows]
  unfold rowsH
  rw [List.getElem?_map, q]
  rfl
theorem SetH.gw {h : Heap} (R : SetH knd h a L es ep t) : ¬ t.gaveWay = true := by
  unfold SetTable.gaveWay
  rw [mask_odd R.tab.mok]
  decide
theorem nth_dm (m : Nat) : ∀ (n : Nat) (p : SetTable.Probe), p.dummy = none → (nth m p n).dummy = none
  | 0, _, h => h
  | n + 1, p, h => nth_dm m n (adv m p) (by
    unfold adv
    split <;> exact h)
/-- the way a hash goes -/
abbrev w0 (m : Nat) (h : Int) : SetTable.Probe := runAt m (SetTable.bits h % (m + 1)) (SetTable.bits h)
/-- the search, from the c-th step of the way on -/
theorem SetH.from (Z : HK knd) (R : SetH knd s.heap a L es ep t) {x : Addr} {k : κ} (hx : knd.is s.heap k x) (hu : knd.room A) {K : Nat} (hKf : K < 10 * SetTable.turns t.mask)
    (hK : way t.mask (knd.hash k) K ∉ t.place.toList) (hKb : ∀ c, c < K → way t.mask (knd.hash k) c ∈ t.place.toList) {Q : SetFound → Shared → Prop}
    (hin : k ∈ L.map (·.2) → Q (.there none) s) (hout : k ∉ L.map (·.2) → Q (.free (way t.mask (knd.hash k) K) false) s) :
    ∀ (f c : Nat) (stand : Option SetTable.Probe), stand.getD (t.probeStart (knd.hash k)) = nth t.mask (w0 t.mask (knd.hash k)) c → c ≤ K → K - c < f →
      (∀ (i : Nat) p, L[i]? = some p → p.2 = k → ∃ c', c ≤ c' ∧ c' < K ∧ t.place.toList[i]? = some (way t.mask (knd.hash k) c')) → wpAny (model P w) A (setSearchFrom a (.ref x) (knd.hash k) true f stand) Q E s
  | 0, c, stand, _, _, hf, _ => absurd hf (Nat.not_lt_zero _)
  | f + 1, c, stand, hst, hc, hf, hre => by
    obtain ⟨o, ho, hex, hd⟩ := R.ob
    rw [setSearchFrom_succ]
    refine wpAny_bind (wpAny_setState_of ho hd R.fits ?_)
    dsimp only
    refine wp_if_neg R.gw ?_
    try refine wpAny_bind (wpAny_pure ?_)
    have e1 : ∀ q, (nth t.mask (nth t.mask (w0 t.mask (knd.hash k)) c) q).j = way t.mask (knd.hash k) (c + q) := fun q => congrArg SetTable.Probe.j (nth_add t.mask c _ q).symm
    have hashAt : ∀ (i : Nat) p, L[i]? = some p → (fun i => (es[i]?.map (·.1)).getD 0) i = knd.hash p.2 := fun i p hp => by
      show (es[i]?.map (·.1)).getD 0 = _
      rw [R.entry hp]
      rfl
    rcases go_spec t R.tab.ris R.tab.dm (fun i => (es[i]?.map (·.1)).getD 0) (knd.hash k) (10 * SetTable.turns t.mask) (K - c) _ (nth_dm _ c _ rfl) (by omega)
      (fun q hq => by rw [e1]; exact hKb (c + q) (by omega)) (by rw [e1, show c + (K - c) = K by omega]; exact hK) with ⟨q, i, hq, hi, hh, hno, hpr⟩ | ⟨hno, hpr⟩
    · -- one with this hash stands here
      have hpr' : t.probe (fun i => (es[i]?.map (·.1)).getD 0) (knd.hash k) (stand.getD (t.probeStart (knd.hash k))) = some (.candidate (way t.mask (knd.hash k) (c + q)) i (nth t.mask (w0 t.mask (knd.hash k)) (c + (q + 1)))) := by
        rw [hst, ← e1, nth_add t.mask c _ (q + 1)]
        exact hpr
      rw [hpr']
      dsimp only
      rw [e1] at hi
      have hil : i < L.length := by
        have h1 : i < t.place.toList.length := (List.getElem?_eq_some_iff.mp hi).1
        have h2 := R.tab.sz
        rw [List.length_map] at h2
        rw [Array.length_toList] at h1
        omega
      have hp : L[i]? = some L[i] := List.getElem?_eq_getElem hil
      generalize L[i] = p at hp
      have hmem : p ∈ L := List.mem_of_getElem? hp
      have go : wpAny (model P w) A (searchRest a (.ref x) (knd.hash k) true f es t (way t.mask (knd.hash k) (c + q)) i (nth t.mask (w0 t.mask (knd.hash k)) (c + (q + 1)))) Q E s := by
        unfold searchRest
        rw [R.entry hp]
        dsimp only
        refine wpAny_bind (wpAny_holding (knd.eqBool hu (R.key p hmem) hx ?_))
        refine wpAny_bind (wpAny_setState_of ho hd R.fits ?_)
        dsimp only
        by_cases hkk : p.2 = k
        · exact wp_if_pos (by simp [hkk]) (wpAny_pure (hin (List.mem_map.mpr ⟨p, hmem, hkk⟩)))
        · refine wp_if_neg (by simp [hkk]) ?_
          try refine wpAny_bind (wpAny_pure ?_)
          rw [sameMem]
          dsimp only
          have hsl : t.slot (way t.mask (knd.hash k) (c + q)) = .live i := slot_live R.tab.ris hi
          simp only [if_true, hsl, R.entry hp]
          refine wpAny_bind (wpAny_isSame_ref_self (wpAny_bind (wpAny_pure ?_)))
          simp only [if_true]
          refine wp_if_neg (by simp [hkk]) ?_
          refine SetH.from Z R hx hu hKf hK hKb hin hout f (c + (q + 1)) _ rfl (by omega) (by omega) fun i0 p0 h0 hk0 => ?_
          obtain ⟨c', a1, a2, a3⟩ := hre i0 p0 h0 hk0
          refine ⟨c', ?_, a2, a3⟩
          rcases Nat.lt_trichotomy c' (c + q) with z | z | z
          · exact absurd ((hashAt i0 p0 h0).trans (congrArg knd.hash hk0)) (hno (c' - c) i0 (by omega) (by rw [e1, show c + (c' - c) = c' by omega]; exact a3))
          · rw [z] at a3
            have s0 := slot_live R.tab.ris a3
            rw [hsl] at s0
            injection s0 with s0
            rw [← s0, hp] at h0
            exact absurd ((congrArg Prod.snd (Option.some.inj h0)).trans hk0) hkk
          · omega
      by_cases hl : t.led = true
      · refine wp_if_neg (by simp [hl]) ?_
        try refine wpAny_bind (wpAny_pure ?_)
        exact go
      · refine wp_if_pos (by simp [hl]) (wpAny_bind (Z.seen hx (fun y hy => ?_) ?_))
        · obtain ⟨e, he, ee⟩ := List.mem_map.mp hy
          have he1 : e ∈ es ∧ e.1 = knd.hash k := by simpa using he
          have he2 : e ∈ es.toList := by simpa using he1.1
          rw [R.rows] at he2
          obtain ⟨p2, hp2, e2⟩ := List.mem_map.mp he2
          exact ⟨p2.2, p2.1, by rw [← ee, ← e2], R.key p2 hp2⟩
        · refine wp_if_neg (by decide) ?_
          try refine wpAny_bind (wpAny_pure ?_)
          exact go
    · -- an empty slot
      have hpr' : t.probe (fun i => (es[i]?.map (·.1)).getD 0) (knd.hash k) (stand.getD (t.probeStart (knd.hash k))) = some (.empty (way t.mask (knd.hash k) K) none) := by
        have e2 : way t.mask (knd.hash k) K = (nth t.mask (nth t.mask (w0 t.mask (knd.hash k)) c) (K - c)).j := by rw [e1, show c + (K - c) = K by omega]
        rw [hst, e2]
        exact hpr
      rw [hpr']
      dsimp only
      refine wpAny_pure (hout fun hm => ?_)
      obtain ⟨p0, h0, hk0⟩ := List.mem_map.mp hm
      obtain ⟨i0, hi0, e0⟩ := List.getElem_of_mem h0
      have h00 : L[i0]? = some p0 := by rw [List.getElem?_eq_getElem hi0, e0]
      obtain ⟨c', a1, a2, a3⟩ := hre i0 p0 h00 hk0
      exact hno (c' - c) i0 (by omega) (by rw [e1, show c + (c' - c) = c' by omega]; exact a3) ((hashAt i0 p0 h00).trans (congrArg knd.hash hk0))
/-- the search as adding asks for it -/
theorem SetH.search (Z : HK knd) (R : SetH knd s.heap a L es ep t) {x : Addr} {k : κ} (hx : knd.is s.heap k x) (hu : knd.room A) {Q : SetFound → Shared → Prop} (hin : k ∈ L.map (·.2) → Q (.there none) s)
    (hout : ∀ K, k ∉ L.map (·.2) → way t.mask (knd.hash k) K ∉ t.place.toList → (∀ c, c < K → way t.mask (knd.hash k) c ∈ t.place.toList) → Q (.free (way t.mask (knd.hash k) K) false) s) :
    wpAny (model P w) A (setSearch a (.ref x) (knd.hash k) true) Q E s := by
  have hroom := R.room
  obtain ⟨K, hKf, hK, hKb⟩ := R.tab.first (by rw [List.length_map]; omega) (knd.hash k)
  have hbig : K < 100000 := by
    have : 10 * SetTable.turns t.mask ≤ 1420 := by
      unfold SetTable.turns
      rcases R.tab.mok with e | e | e <;> omega
    omega
  unfold setSearch
  refine SetH.from Z R hx hu hKf hK hKb hin (fun hn => hout K hn hK hKb) 100000 0 none rfl (Nat.zero_le _) (by omega) fun i p hp hk => ?_
  have hi : (L.map fun p => knd.hash p.2)[i]? = some (knd.hash k) := by rw [List.getElem?_map, hp, ← hk]; rfl
  have hil : i < t.place.toList.length := by
    have h1 : i < L.length := (List.getElem?_eq_some_iff.mp hp).1
    have h2 := R.tab.sz
    rw [List.length_map] at h2
    rw [Array.length_toList]
    omega
  have hj := List.getElem?_eq_getElem hil
  obtain ⟨c, hc, e⟩ := R.tab.before hK hi hj
  exact ⟨c, Nat.zero_le _, hc, by rw [hj, e]⟩
end
end K28

set_option Elab.async false
set_option linter.all false
set_option maxRecDepth 100000
set_option maxHeartbeats 4000000
namespace K28
open PySem PySem.Spec PyProof.Rows L2

section
variable {P : Program} {w : World} {κ : Type} [DecidableEq κ] {knd : HeapKind P w κ} {A : Around} {E : Value → Shared → Prop} {s : Shared}
theorem put_permH {α : Type} (L : List α) (p : Nat) (x : α) : (L.take p ++ x :: L.drop p).Perm (x :: L) := by
  have h : (L.take p ++ x :: L.drop p).Perm (x :: (L.take p ++ L.drop p)) := List.perm_middle
  rwa [List.take_append_drop] at h
theorem range_pick {α : Type} (L : List α) : ∀ n, n ≤ L.length → (List.range n).filterMap (fun i => L[i]?) = L.take n
  | 0, _ => rfl
  | n + 1, h => by
    rw [List.range_succ, List.filterMap_append, range_pick L n (by omega), List.filterMap_cons_some (List.getElem?_eq_getElem (by omega))]
    rw [List.take_succ, List.getElem?_eq_getElem (by omega)]
    rfl
theorem order_H {L : List (Addr × κ)} {es : Array (Int × Value)} {order : Array Nat} (hr : es.toList = rowsH knd L) (hp : order.toList.Perm (List.range L.length)) :
    ∃ L2, (order.filterMap (es[·]?)).toList = rowsH knd L2 ∧ L2.Perm L ∧ (L2.map fun p => knd.hash p.2) = order.toList.map fun i => (es.map (·.1)).getD i 0 := by
  have hsz := rowsH_size hr
  have ent : ∀ i (h : i < L.length), es[i]? = some (knd.hash (L[i]).2, Value.ref (L[i]).1) := fun i h => by
    rw [← Array.getElem?_toList, hr]
    unfold rowsH
    rw [List.getElem?_map, List.getElem?_eq_getElem h]
    rfl
  have key : ∀ l : List Nat, (∀ i ∈ l, i < L.length) → l.filterMap (fun i => es[i]?) = rowsH knd (l.filterMap fun i => L[i]?) ∧ ((l.filterMap fun i => L[i]?).map fun p => knd.hash p.2) = l.map fun i => (es.map (·.1)).getD i 0 := by
    intro l
    induction l with
    | nil => exact fun _ => ⟨rfl, rfl⟩
    | cons i l ih =>
      intro hl
      have hi := hl i List.mem_cons_self
      obtain ⟨e1, e3⟩ := ih fun j hj => hl j (List.mem_cons_of_mem _ hj)
      rw [List.filterMap_cons_some (ent i hi), List.filterMap_cons_some (List.getElem?_eq_getElem hi), e1, List.map_cons, List.map_cons, e3]
      refine ⟨rfl, ?_⟩
      have e5 : (es.map (·.1))[i]? = some (knd.hash (L[i]).2) := by rw [Array.getElem?_map, ent i hi]; rfl
      simp [Array.getD_eq_getD_getElem?, e5]
  obtain ⟨e1, e3⟩ := key order.toList fun i hi => List.mem_range.mp (hp.mem_iff.mp hi)
  refine ⟨_, by first | (rw [Array.toList_filterMap]; exact e1) | simpa using e1, ?_, e3⟩
  have h1 := hp.filterMap fun i => L[i]?
  rwa [range_pick L L.length (Nat.le_refl _), List.take_length] at h1
variable {a : Addr} {L : List (Addr × κ)} {es : Array (Int × Value)} {ep : Nat} {t : SetTable}
/-- the table laid anew, larger -/
theorem SetH.relay (Z : HK knd) {o : Obj} (ho : s.heap.get? a = some o) (hex : o.ExactSet) (hd : o.data = .set es ep t) (hrows : es.toList = rowsH knd L) (hsz : t.place.size = es.size) (hdm : t.dummies = #[]) (hfl : es.size ≤ t.mask)
    (nd : (L.map (·.2)).Nodup) (key : ∀ p ∈ L, knd.is s.heap p.2 p.1) (pl : t.plain = true) (ld : w.params.followText "set-order" = true ∨ t.led = true) (few : L.length < 64) {wanted M : Nat}
    (hw : SetTable.sizeAbove wanted - 1 = M) (hM : MaskOk M) (hw2 : SetTable.sizeAbove wanted ≤ 128) (hn : L.length * 5 < M * 3) {Q : Unit → Shared → Prop}
    (hQ : ∀ h' L' es' ep' t', Heap.SameBut a s.heap h' → SetH knd h' a L' es' ep' t' → L'.Perm L → Q () { s with heap := h' }) : wpAny (model P w) A (setRelay a wanted) Q E s := by
  have hsl := rowsH_size hrows
  have hfits : t.fits es.size = true := by
    unfold SetTable.fits SetTable.fill
    rw [hdm, Bool.and_eq_true, beq_iff_eq, decide_eq_true_eq]
    show t.place.size = es.size ∧ t.place.size + 0 ≤ t.mask
    omega
  obtain ⟨t', order, e, hp, T, em, el, ep', ed⟩ := relaid_ok t (hs := es.map (·.1)) (wanted := wanted) hw hM (by rw [Array.size_map, hsl]; omega)
  rw [Array.size_map, hsl] at hp
  obtain ⟨L2, r1, r2, r3⟩ := order_H hrows hp
  rw [← r3] at T
  have hs2 : (order.filterMap (es[·]?)).size = es.size := by rw [rowsH_size r1, r2.length_eq, hsl]
  rw [setRelay_eq]
  refine wpAny_bind (wpAny_setState_of ho hd hfits ?_)
  dsimp only
  refine wp_if_neg (by rw [sizeLine_eq]; omega) ?_
  try refine wpAny_bind (wpAny_pure ?_)
  rw [e]
  dsimp only
  refine wpAny_bind ?_
  refine wp_if_neg (by rw [hs2]; simp) ?_
  try refine wpAny_bind (wpAny_pure ?_)
  refine wpAny_pure ?_
  dsimp only
  refine wpAny_storeSet_of ho hd ?_ (by rw [hs2, hsl, sizeLine_eq]; omega)
  have sb : Heap.SameBut a s.heap (s.heap.update a (Obj.putSet (order.filterMap (es[·]?)) t')) := Heap.SameBut.update ..
  refine hQ _ L2 (order.filterMap (es[·]?)) (ep + 1) t' sb ⟨⟨_, store_at ho hd, ⟨hex.1, hex.2.1, hex.2.2⟩, rfl⟩, r1, T, (r2.map (·.2)).nodup_iff.mpr nd, fun p hpm => Z.same (key p (r2.mem_iff.mp hpm)) ho hd sb, by rw [ep']; exact pl, by rw [el]; exact ld, ?_, by rw [r2.length_eq]; exact few⟩ r2
  rw [r2.length_eq, em]
  exact hn
/-- one is added -/
theorem SetH.add (Z : HK knd) (R : SetH knd s.heap a L es ep t) {x : Addr} {k : κ} (hx : knd.is s.heap k x) (hu : knd.room A) (hfew : L.length + 1 < 64) {Q : Bool → Shared → Prop}
    (hQ : ∀ b h' L' es' ep' t', Heap.SameBut a s.heap h' → SetH knd h' a L' es' ep' t' → (k ∈ L.map (·.2) → L' = L) → (k ∉ L.map (·.2) → L'.Perm ((x, k) :: L)) → Q b { s with heap := h' }) :
    wpAny (model P w) A (setAddHashed a (.ref x) (knd.hash k)) Q E s := by
  obtain ⟨o, ho, hex, hd⟩ := R.ob
  have hsl := R.size
  have hroom := R.room
  unfold setAddHashed
  refine wpAny_holding ?_
  rw [show (100000 : Nat) = 99999 + 1 from rfl, setAddHashedIn_succ]
  refine wpAny_bind (wpAny_setState_of ho hd R.fits ?_)
  dsimp only
  refine wp_if_neg (by simp [byScan, Value.scannable]) ?_
  try refine wpAny_bind (wpAny_pure ?_)
  refine wpAny_bind (R.search Z hx hu (fun hm => wpAny_pure (hQ false s.heap L es ep t (Heap.SameBut.refl a s.heap) R (fun _ => rfl) fun z => absurd hm z)) fun K hm hK hb => ?_)
  dsimp only
  refine wpAny_bind (wpAny_setState_of ho hd R.fits ?_)
  dsimp only
  obtain ⟨q1, q2, q3, q4, q5, q6, q7, q8, q9⟩ := R.tab.put hK hb
  have hp1 : (t.put (way t.mask (knd.hash k) K)).1.plain = true := by rw [q6]; exact R.plain
  generalize hpt : t.put (way t.mask (knd.hash k) K) = pt at q1 q3 q4 q5 q6 q7 q8 q9 hp1 ⊢
  obtain ⟨t1, p⟩ := pt
  dsimp only at q1 q3 q4 q5 q6 q7 q8 q9 hp1 ⊢
  subst q1
  first
    | (refine wpAny_bind ?_; refine wp_if_pos hp1 ?_; refine Z.hby hx ?_)
    | refine wp_if_pos hp1 (wpAny_bind (Z.hby hx ?_))
  simp only [if_true]
  have hin : (SetTable.insertAt es (SetTable.below t.place (way t.mask (knd.hash k) K)) (knd.hash k, Value.ref x)).toList = rowsH knd (L.take (SetTable.below t.place (way t.mask (knd.hash k) K)) ++ (x, k) :: L.drop (SetTable.below t.place (way t.mask (knd.hash k) K))) := by
    rw [SetTable.toList_insertAt, R.rows]
    unfold rowsH
    rw [List.map_append, List.map_cons, List.map_take, List.map_drop]
  generalize SetTable.below t.place (way t.mask (knd.hash k) K) = p at q2 q3 hin ⊢
  have pm := put_permH L p (x, k)
  have hhs : (L.take p ++ (x, k) :: L.drop p).map (fun p => knd.hash p.2) = (L.map fun p => knd.hash p.2).take p ++ knd.hash k :: (L.map fun p => knd.hash p.2).drop p := by
    rw [List.map_append, List.map_cons, List.map_take, List.map_drop]
  rw [← hhs] at q3
  have nd1 : ((L.take p ++ (x, k) :: L.drop p).map (·.2)).Nodup := by
    refine (pm.map (·.2)).nodup_iff.mpr ?_
    rw [List.map_cons]
    exact List.nodup_cons.mpr ⟨hm, R.nd⟩
  have hes := rowsH_size hin
  generalize SetTable.insertAt es p (knd.hash k, Value.ref x) = es1 at hin hes ⊢
  generalize L.take p ++ (x, k) :: L.drop p = L1 at pm q3 nd1 hin hes
  have hlen : L1.length = L.length + 1 := pm.length_eq
  rw [hlen] at hes
  refine wpAny_bind (wpAny_storeSet_of ho hd ?_ (by rw [hes, sizeLine_eq]; omega))
  have sb : Heap.SameBut a s.heap (s.heap.update a (Obj.putSet es1 t1)) := Heap.SameBut.update ..
  have ho1 := store_at (es' := es1) (t' := t1) ho hd
  generalize s.heap.update a (Obj.putSet es1 t1) = h1 at sb ho1 ⊢
  have key1 : ∀ p ∈ L1, knd.is h1 p.2 p.1 := fun p hp => by
    rcases List.mem_cons.mp (pm.mem_iff.mp hp) with e | hp
    · rw [e]; exact Z.same hx ho hd sb
    · exact Z.same (R.key p hp) ho hd sb
  have ld1 : w.params.followText "set-order" = true ∨ t1.led = true := by rw [q5]; exact R.led
  rw [List.length_map] at q9
  by_cases hf : t1.tooFull = true
  · first
      | (refine wpAny_bind ?_; refine wp_if_pos (by simp [hf]) ?_)
      | (refine wp_if_pos (by simp [hf]) ?_; refine wpAny_bind ?_)
    have hfull : (L.length + 1) * 5 ≥ t1.mask * 3 := by
      have h := hf
      unfold SetTable.tooFull at h
      rwa [decide_eq_true_eq, q9] at h
    rw [hsl]
    have hsz1 : t1.place.size = es1.size := by
      have h := q3.sz
      rw [List.length_map, hlen] at h
      rw [h, hes]
    have cases2 : (t.mask = 7 ∧ L.length = 4) ∨ (t.mask = 31 ∧ L.length = 18) := by
      rcases R.tab.mok with e | e | e <;> rw [q4, e] at hfull <;> rw [e] at hroom <;> omega
    have go : ∀ M, SetTable.sizeAbove (SetTable.grown (L.length + 1)) - 1 = M → MaskOk M → SetTable.sizeAbove (SetTable.grown (L.length + 1)) ≤ 128 → (L.length + 1) * 5 < M * 3 →
        wpAny (model P w) A (setRelay a (SetTable.grown (L.length + 1))) (fun _ s' => wpAny (model P w) A (pure true) Q E s') E { s with heap := h1 } := fun M h1' h2' h3' h4' => by
      refine SetH.relay (s := { s with heap := h1 }) Z ho1 ⟨hex.1, hex.2.1, hex.2.2⟩ rfl hin hsz1 q3.dm (by rw [hes, q4]; omega) nd1 key1 hp1 ld1 (by rw [hlen]; exact hfew) h1' h2' h3' (by rw [hlen]; exact h4') fun h2 L2 es2 ep2 t2 sb2 R2 pm2 => ?_
      exact wpAny_pure (hQ true h2 L2 es2 ep2 t2 (sb.trans sb2) R2 (fun z => absurd z hm) fun _ => pm2.trans pm)
    rcases cases2 with ⟨_, e2⟩ | ⟨_, e2⟩
    · exact go 31 (by rw [e2, size_20]) (.inr (.inl rfl)) (by rw [e2, size_20]; decide) (by omega)
    · exact go 127 (by rw [e2, size_76]) (.inr (.inr rfl)) (by rw [e2, size_76]; decide) (by omega)
  · first
      | refine wp_if_neg (by simp [hf]) ?_
      | (refine wpAny_bind ?_; refine wp_if_neg (by simp [hf]) ?_; refine wpAny_pure ?_)
    refine wpAny_pure (hQ true h1 L1 es1 (ep + 1) t1 sb ⟨⟨_, ho1, ⟨hex.1, hex.2.1, hex.2.2⟩, rfl⟩, hin, q3, nd1, key1, hp1, ld1, ?_, by rw [hlen]; exact hfew⟩ (fun z => absurd z hm) fun _ => pm)
    have h := hf
    unfold SetTable.tooFull at h
    rw [decide_eq_true_eq, q9] at h
    rw [hlen]
    omega
theorem SetH.fresh {h : Heap} (ho : h.get? a = some { cls := .type "set", dict := none, data := .set #[] 0 (.fresh 0 0 (!w.params.followText "set-order")) }) : SetH knd h a [] #[] 0 (.fresh 0 0 (!w.params.followText "set-order")) where
  ob := ⟨_, ho, ⟨rfl, rfl, rfl⟩, rfl⟩
  rows := rfl
  tab := ⟨List.Pairwise.nil, rfl, rfl, .inl rfl, fun x hx => (by cases hx), fun i h j hi => (by simp at hi)⟩
  nd := List.nodup_nil
  key := fun p hp => (by cases hp)
  plain := rfl
  led := by
    show _ ∨ (!w.params.followText "set-order") = true
    cases w.params.followText "set-order"
    · exact .inr rfl
    · exact .inl rfl
  room := by
    show 0 * 5 < 7 * 3
    decide
  few := by
    show 0 < 64
    decide

/-! ### set(l), what is put in told from outside -/
/-- the loop of set.update: Φ i h, what the set is once i are in -/
theorem upd_loop {I : Addr} {fp wr : List Addr} {G : Array GenState → Array GenState → Prop} {n : Nat} {Pv : Nat → Value → Prop} {St : Nat → Shared → Prop} {R : Result → Shared → Prop}
    (W : WalksS P w A.in1 I fp wr G n Pv St) (S : Addr) (hSf : S ∉ fp) (h0 : Heap) (hS0 : h0.get? S = none) (hw0 : ∀ b ∈ wr, h0.get? b = none) (Φ : Nat → Heap → Prop)
    (stay : ∀ {i : Nat} {h h' : Heap}, Φ i h → (∀ o, h.get? S = some o → h'.get? S = some o) → (∀ b o, h0.get? b = some o → h'.get? b = some o) → Φ i h')
    (step : ∀ {i : Nat} {v : Value} {s : Shared} {E' : Value → Shared → Prop} {Q : Bool → Shared → Prop}, Pv i v → i < n → Φ i s.heap → (∀ b o, h0.get? b = some o → s.heap.get? b = some o) →
      (∀ b h' tk, Heap.SameBut S s.heap h' → s.toks ≤ tk → Φ (i + 1) h' → Q b { s with heap := h', toks := tk }) → wpAny (model P w) A.in1 (setAdd S v) Q E' s) :
    ∀ (k i : Nat) (s : Shared), n - i = k → i ≤ n → St i s → (∀ b o, h0.get? b = some o → s.heap.get? b = some o) → Φ i s.heap →
      (∀ s', Moved (S :: wr) G s s' → Φ n s'.heap → (∀ b o, h0.get? b = some o → s'.heap.get? b = some o) → R (.ok (.ret .none)) s') →
      codeAny (model P w) A (.builtin "set.update.loop" ⟨[.ref S, .ref I], []⟩) R s := by
  have hSw : S ∉ wr := fun h => hSf (W.sub _ h)
  have hsub : ∀ b ∈ wr, b ∈ S :: wr := fun b hb => List.mem_cons_of_mem _ hb
  have keepM : ∀ {s s' : Shared}, Moved wr G s s' → (∀ b o, h0.get? b = some o → s.heap.get? b = some o) → ∀ b o, h0.get? b = some o → s'.heap.get? b = some o := fun hm hkp b o e =>
    hm.heap b o (fun hb => by rw [hw0 b hb] at e; cases e) (hkp b o e)
  intro k
  induction k with
  | zero =>
    intro i s hk' hi hst hkp hS hR
    have hin : i = n := by omega
    subst hin
    refine codeAny_builtin F.entry_set_update_loop ?_
    rw [Around.under_plainId F.plain_set_update_loop _]
    show wpAny _ A.in1 (pyNext (.ref I) >>= _) _ _ s
    refine wpAny_bind (W.done s _ _ hst fun s' hm => ?_)
    show wpAny _ A.in1 (ret Value.none) _ _ s'
    exact wpAny_pure (hR s' (hm.mono hsub) (stay hS (fun o e => hm.heap S o hSw e) (keepM hm hkp)) (keepM hm hkp))
  | succ k ih =>
    intro i s hk' hi hst hkp hS hR
    have hlt : i < n := by omega
    refine codeAny_builtin F.entry_set_update_loop ?_
    rw [Around.under_plainId F.plain_set_update_loop _]
    show wpAny _ A.in1 (pyNext (.ref I) >>= _) _ _ s
    refine wpAny_bind (W.item i s _ _ hlt hst fun v s' hP hst' hm => ?_)
    have hkp' := keepM hm hkp
    show wpAny _ A.in1 (holding [v] (setAdd S v) >>= _) _ _ s'
    refine wpAny_bind (wpAny_holding ?_)
    refine step hP hlt (stay hS (fun o e => hm.heap S o hSw e) hkp') hkp' fun b h' tk hsb htk hS2 => ?_
    have hkp2 : ∀ b o, h0.get? b = some o → h'.get? b = some o := fun b o e => (hsb.2 b (fun z => by rw [z, hS0] at e; cases e)).trans (hkp' b o e)
    refine wpAny_pure ⟨plainId_quiet F.plain_set_update_loop _, ih (i + 1) _ (by omega) hlt (W.frame _ s' _ _ hst' htk fun b hb o e => ?_) hkp2 hS2 fun s'' hm'' hS'' hkp'' => ?_⟩
    · rw [hsb.2 b (fun h : b = S => hSf (by rw [← h]; exact hb))]; exact e
    · refine hR s'' (Moved.trans W.gtrans ((hm.mono hsub).then_heap htk fun b o hb e => ?_) hm'') hS'' hkp''
      rw [hsb.2 b (fun h : b = S => hb (by rw [h]; exact List.mem_cons_self))]; exact e
end
end K28

set_option Elab.async false
set_option linter.all false
set_option maxRecDepth 100000
set_option maxHeartbeats 4000000
namespace K28
open PySem PySem.Spec PyProof.Rows L2

def emptySet (w : World) : Obj := { cls := .type "set", dict := none, data := .set #[] 0 (.fresh 0 0 (!w.params.followText "set-order")) }
section
variable {P : Program} {w : World} {A : Around} {E : Value → Shared → Prop} {s : Shared}
set_option maxHeartbeats 6400000 in
/-- set(l) of a list: Φ i h, what the new set is once i of the items are in -/
theorem call_set_any {l : Addr} {items : Array Value} {Q : Value → Shared → Prop} (hh : A.handled = none) (hl : s.heap.IsList l items) (Φ : Nat → Heap → Prop)
    (new : ∀ h : Heap, h.get? s.heap.objs.size = some (emptySet w) → Φ 0 h)
    (stay : ∀ {i : Nat} {h h' : Heap}, Φ i h → (∀ o, h.get? s.heap.objs.size = some o → h'.get? s.heap.objs.size = some o) → (∀ b o, s.heap.get? b = some o → h'.get? b = some o) → Φ i h')
    (step : ∀ {A' : Around} {i : Nat} {v : Value} {s' : Shared} {E' : Value → Shared → Prop} {Q' : Bool → Shared → Prop}, A'.units = A.units + 3 → items[i]? = some v → Φ i s'.heap → (∀ b o, s.heap.get? b = some o → s'.heap.get? b = some o) →
      (∀ b h' tk, Heap.SameBut s.heap.objs.size s'.heap h' → s'.toks ≤ tk → Φ (i + 1) h' → Q' b { s' with heap := h', toks := tk }) → wpAny (model P w) A' (setAdd s.heap.objs.size v) Q' E' s')
    (h : ∀ (h' : Heap) (tk : Nat), Φ items.size h' → (∀ b o, s.heap.get? b = some o → h'.get? b = some o) → Q (.ref s.heap.objs.size) { s with heap := h', toks := tk }) :
    wpAny (model P w) A (call (.type "set") [.ref l]) Q E s := by
  obtain ⟨c, tl, hmro⟩ := F.called_set.mro
  have hmade := F.called_set.made
  have hsub := F.called_set.sub
  refine wpAny_call (codeAny_of_tree ?_)
  show wpAny _ _ (callAny (.type "set") _) _ _ _
  refine wpAny_pure ⟨Code.quiet_builtin _ (by decide +kernel), codeAny_builtin F.entry_type_call ?_⟩
  rw [Around.under_plain (weight_type_call_type "set" [.ref l] []) rfl]
  have h1 := F.called_set.notType
  have h2 := F.called_set.canCreate
  have hct := F.typeCall_set_1 (.ref l)
  repeat (any_goals (first | assumption | wp_step))

  refine codeAny_mono (code_set_led1 (.ref l) (E := E) (Q₁ := fun obj s₁ => obj = .ref s.heap.objs.size ∧ s₁ = { s with heap := s.heap.push (emptySet w) }) ⟨rfl, rfl⟩) fun r s₁ hr => ?_
  cases r with
  | error e => exact hr
  | ok fl =>
    cases fl with
    | ret obj =>
      obtain ⟨rfl, rfl⟩ := hr
      have hS : (s.heap.push (emptySet w)).get? s.heap.objs.size = some (emptySet w) := Heap.get?_push_size _ rfl
      have hT : Shared.TypeIs { s with heap := s.heap.push (emptySet w) } (.ref s.heap.objs.size) "set" := ⟨_, hS, rfl⟩
      have hli := F.called_set.init.lookup
      have hbi := F.called_set.init.bind (.ref s.heap.objs.size)
      repeat (any_goals (first | assumption | wp_step))

      refine codeAny_mono (codeAny_call_builtin (R := wants (fun r s₂ => r = .none ∧ ∃ h' tk, s₂ = { s with heap := h', toks := tk } ∧ Φ items.size h' ∧ (∀ b o, s.heap.get? b = some o → h'.get? b = some o)) E) F.called_set.init.plain F.entry_set_init (check_set_init_1 hT ?_)) fun r₂ s₂ hr₂ => ?_
      · obtain ⟨ol, hol, hcl, nl, hdl⟩ := hl
        obtain ⟨ocls, odict, odata, oslots⟩ := ol
        simp only at hcl hdl
        subst hcl; subst hdl
        have hol' : (s.heap.push (emptySet w)).get? l = some { cls := .type "list", dict := odict, data := .seq items nl, slots := oslots } := Heap.get?_push_of_some _ hol
        have hsls := F.sub_list_set
        have hslf := F.sub_list_frozenset
        have hne : (Value.type "list" == Value.type "dict") = false := by decide
        have hl1 : (s.heap.push (emptySet w)).IsList l items := ⟨_, hol', rfl, nl, rfl⟩
        unfold Builtin.«set.__init__» noKeywords Builtin.Frozenset.updateFrom
        generalize hPI : pyIter = PI
        wp_walk
        subst hPI

        refine wpAny_pyIter_list hl1 ?_
        refine wpAny_bind (wpAny_runValue ?_)
        have hlS : l < s.heap.objs.size := Heap.lt_size hol
        have hh3 : A.in1.in1.in1.handled = none := by simp [hh]
        have hneI : l ≠ (s.heap.push (emptySet w)).objs.size := by
          rw [Heap.size_push]; exact Nat.ne_of_lt (Nat.lt_succ_of_lt hlS)
        have hSf : s.heap.objs.size ∉ [(s.heap.push (emptySet w)).objs.size, l] := by
          rw [Heap.size_push]; simp only [List.mem_cons, List.mem_singleton, List.not_mem_nil, or_false, not_or]
          exact ⟨Nat.ne_of_lt (Nat.lt_succ_self _), Nat.ne_of_gt hlS⟩
        have none_of : ∀ b, s.heap.objs.size ≤ b → s.heap.get? b = none := fun b hb => by
          cases q : s.heap.get? b with
          | none => rfl
          | some o => exact absurd (Nat.lt_of_lt_of_le (Heap.lt_size q) hb) (Nat.lt_irrefl _)
        refine upd_loop ((Walks.list hh3 _ l hneI items).toS) s.heap.objs.size hSf s.heap (none_of _ (Nat.le_refl _)) (fun b hb => none_of b (by
            rw [List.mem_singleton.mp hb, Heap.size_push]
            exact Nat.le_succ _)) Φ stay (fun {i v s' E' Q'} hp hlt hΦ hkp hq => step (by simp [Around.in1]) hp hΦ hkp hq) (items.size - 0) 0 _ (by omega) (Nat.zero_le _)
          ⟨⟨_, Heap.get?_push_size _ rfl, rfl, rfl⟩, (hl1.push _)⟩ (fun b o e => Heap.get?_push_of_some _ (Heap.get?_push_of_some _ e)) (new _ (Heap.get?_push_of_some _ hS)) ?hR
        case hR =>
          intro s' hm hS' hkp
          obtain ⟨h', g2, d', tk', os'⟩ := s'
          have eg : g2 = s.gens := hm.gens
          have ed : d' = s.drawn := hm.drawn
          have eo : os' = s.os := hm.os
          subst eg; subst ed; subst eo
          show wpAny _ _ _ _ _ _
          refine wpAny_pure ?_
          show wpAny _ _ (ret Value.none) _ _ _
          exact wpAny_pure ⟨rfl, h', tk', rfl, hS', hkp⟩

      · cases r₂ with
        | error e => exact hr₂
        | ok fl₂ =>
          cases fl₂ with
          | ret r =>
            obtain ⟨rfl, h', tk, rfl, hS', hk'⟩ := hr₂
            repeat (any_goals (first | assumption | wp_step))
            exact h _ _ hS' hk'
          | _ => exact hr₂.elim
    | _ => exact hr.elim
end
end K28

set_option Elab.async false
set_option linter.all false
set_option maxRecDepth 100000
set_option maxHeartbeats 4000000
namespace K28
open PySem PySem.Spec PyProof.Rows L2

/-! ### nested tuples of whole numbers as members -/
section
variable {P : Program} {w : World} {α : Type} [DecidableEq α] {e : α → PyData} {k : Nat}
theorem KEnc.dec (K : KEnc e k) (x y : α) : decide (nk (e x) = nk (e y)) = decide (x = y) := by
  rw [decide_eq_decide]
  exact ⟨fun h => K.inj h, fun h => by rw [h]⟩
/-- the kind of keys: what e tells -/
def kindE (P : Program) (w : World) (K : KEnc e k) : HeapKind P w α where
  is := fun h x a => NestedIs h (nk (e x)) (.ref a)
  hash := fun x => (nk (e x)).hash w
  draws := fun x => (nk (e x)).draws
  room := fun A => A.units + 8 < cLine
  inj := fun hx hy => K.inj (NestedIs.inj _ _ _ hx hy)
  keeps := fun {h h' x a d o es ep} q ho hd hs => ((nestedKind P w).keeps (k := nk (e x)) ⟨q, Nat.le_trans (nk_depth _) (Nat.le_trans (K.sh x).2 K.le)⟩ ho hd hs).1
  pyHash := fun {A E s x a Q} hu hk h => (nestedKind P w).pyHash (k := nk (e x)) hu ⟨hk, Nat.le_trans (nk_depth _) (Nat.le_trans (K.sh x).2 K.le)⟩ h
  eqBool := fun {A E s x y a b Q} hu hx hy h => (nestedKind P w).eqBool (x := nk (e x)) (y := nk (e y)) hu ⟨hx, Nat.le_trans (nk_depth _) (Nat.le_trans (K.sh x).2 K.le)⟩ ⟨hy, Nat.le_trans (nk_depth _) (Nat.le_trans (K.sh y).2 K.le)⟩ (by rw [K.dec]; exact h)
  quiet := fun {A E s x a Q} hk h => (nestedKind P w).quiet (k := nk (e x)) ⟨hk, Nat.le_trans (nk_depth _) (Nat.le_trans (K.sh x).2 K.le)⟩ h
/-! questions asked of such values -/
def HbAt (P : Program) (w : World) (n : Nat) (s : Shared) (v : Value) : Prop := ∀ (A : Around) (E : Value → Shared → Prop) (Q : Bool → Shared → Prop), Q true s → wpAny (model P w) A (hashByValue n v) Q E s
def ClAt (P : Program) (w : World) (n : Nat) (s : Shared) (v : Value) : Prop := ∀ (A : Around) (E : Value → Shared → Prop) (Q : Bool → Shared → Prop), Q false s → wpAny (model P w) A (ofAClassStatement n v) Q E s
theorem hb_tup {s : Shared} {a : Addr} {o : Obj} {vs : Array Value} {m n : Nat} (ho : s.heap.get? a = some o) (hc : o.cls = .type "tuple") (hd : o.data = .seq vs m) (h : ∀ v ∈ vs.toList, HbAt P w n s v) : HbAt P w (n + 1) s (.ref a) := by
  intro A E Q q
  have hT : s.TypeIs (.ref a) "tuple" := ⟨o, ho, hc⟩
  unfold hashByValue
  refine wpAny_bind (wpAny_specialOf hT F.slot_tuple_hash.lookup ?_)
  show wpAny _ _ (seqItems? (.ref a) >>= _) _ _ s
  refine wpAny_bind (wpAny_seqItems ho hd ?_)
  refine wpAny_bind ?_
  show wpAny _ _ (forIn vs _ _) _ _ s
  rw [← Array.forIn_toList]
  refine wpAny_forIn_list _ (fun rest r s' => r.1 = none ∧ s' = s ∧ ∀ v ∈ rest, HbAt P w n s v) _ ?_ ?_ _ _ ⟨rfl, rfl, h⟩
  · rintro v rest r s' ⟨hr, rfl, hall⟩
    refine wpAny_bind (hall v List.mem_cons_self _ _ _ ?_)
    simp only [Bool.not_true, Bool.false_eq_true, if_false]
    exact wpAny_pure ⟨rfl, rfl, fun u hu' => hall u (List.mem_cons_of_mem _ hu')⟩
  · rintro ⟨r1, r2⟩ s' ⟨hr, rfl, _⟩
    simp only at hr
    subst hr
    exact wpAny_pure q
theorem cl_tup {s : Shared} {a : Addr} {o : Obj} {vs : Array Value} {m n : Nat} (ho : s.heap.get? a = some o) (hc : o.cls = .type "tuple") (hd : o.data = .seq vs m) (h : ∀ v ∈ vs.toList, ClAt P w n s v) : ClAt P w (n + 1) s (.ref a) := by
  intro A E Q q
  have hT : s.TypeIs (.ref a) "tuple" := ⟨o, ho, hc⟩
  unfold ofAClassStatement
  refine wpAny_bind (wpAny_typeOf hT ?_)
  dsimp only
  have e : (("tuple" : String) == "tuple") = true := by decide
  simp only [e, if_true, Bool.not_true, Bool.false_eq_true, if_false]
  try refine wpAny_bind (wpAny_pure ?_)
  try simp only [Bool.not_true, Bool.false_eq_true, if_false]
  show wpAny _ _ (seqItems? (.ref a) >>= _) _ _ s
  refine wpAny_bind (wpAny_seqItems ho hd ?_)
  dsimp only
  refine wpAny_bind ?_
  show wpAny _ _ (forIn vs _ _) _ _ s
  rw [← Array.forIn_toList]
  refine wpAny_forIn_list _ (fun rest r s' => r.1 = none ∧ s' = s ∧ ∀ v ∈ rest, ClAt P w n s v) _ ?_ ?_ _ _ ⟨rfl, rfl, h⟩
  · rintro v rest r s' ⟨hr, rfl, hall⟩
    refine wpAny_bind (hall v List.mem_cons_self _ _ _ ?_)
    simp only [Bool.false_eq_true, if_false]
    exact wpAny_pure ⟨rfl, rfl, fun u hu' => hall u (List.mem_cons_of_mem _ hu')⟩
  · rintro ⟨r1, r2⟩ s' ⟨hr, rfl, _⟩
    simp only at hr
    subst hr
    exact wpAny_pure q
mutual
theorem hb_cl {s : Shared} : ∀ (d : PyData) (v : Value) (n : Nat), NestedIs s.heap (nk d) v → pureD d = true → d.depth ≤ n → HbAt P w n s v ∧ ClAt P w n s v
  | .int i, v, n, h, _, _ => by
    rw [nk] at h
    cases h with
    | bool e => exact ⟨fun A E Q q => by cases n <;> exact wpAny_pure q, fun A E Q q => by cases n <;> exact wpAny_pure q⟩
    | int i t => exact ⟨fun A E Q q => by rw [hashBy_int]; exact wpAny_pure q, fun A E Q q => by rw [ofAClass_int]; exact wpAny_pure q⟩
  | .tuple xs, v, n, h, p, hn => by
    rw [nk] at h
    rw [pureD] at p
    simp only [PyData.depth] at hn
    cases h with
    | tup h1 h2 h3 h4 =>
      cases n with
      | zero => omega
      | succ n =>
        have q := hb_clA xs _ n h4 p (by omega)
        exact ⟨hb_tup h1 h2 h3 fun v hv => (q v hv).1, cl_tup h1 h2 h3 fun v hv => (q v hv).2⟩
  | .none, _, _, _, p, _ => by simp [pureD] at p
  | .bool _, _, _, _, p, _ => by simp [pureD] at p
  | .str _, _, _, _, p, _ => by simp [pureD] at p
  | .list _, _, _, _, p, _ => by simp [pureD] at p
  | .dict _, _, _, _, p, _ => by simp [pureD] at p
theorem hb_clA {s : Shared} : ∀ (ds : List PyData) (vs : List Value) (n : Nat), NestedAll s.heap (nkA ds) vs → pureA ds = true → PyData.depthAll ds ≤ n → ∀ v ∈ vs, HbAt P w n s v ∧ ClAt P w n s v
  | [], vs, _, h, _, _, v, hv => by
    rw [nkA] at h
    cases h
    cases hv
  | d :: ds, vs, n, h, p, hn, v, hv => by
    rw [nkA] at h
    rw [pureA, Bool.and_eq_true] at p
    simp only [PyData.depthAll] at hn
    cases h with
    | cons x1 x2 =>
      rcases List.mem_cons.mp hv with rfl | hv
      · exact hb_cl d _ n x1 p.1 (by omega)
      · exact hb_clA ds _ n x2 p.2 (by omega) v hv
end
theorem kindE_hk (K : KEnc e k) : HK (kindE P w K) where
  stay := fun hk x => NestedIs.at hk _ _ x
  cls := fun {A E s x a Q} h q => (hb_cl (e x) _ 8 h (K.pu x) (Nat.le_trans (K.sh x).2 K.le)).2 A E Q q
  hby := fun {A E s x a Q} h q => (hb_cl (e x) _ 8 h (K.pu x) (Nat.le_trans (K.sh x).2 K.le)).1 A E Q q
end
theorem memB_perm {α : Type} [DecidableEq α] {x : α} {l m : List α} (h : l.Perm m) : memB x l = memB x m := by
  have := h.mem_iff (a := x)
  rw [← memB_iff, ← memB_iff] at this
  cases h1 : memB x l <;> cases h2 : memB x m <;> simp_all
end K28

set_option Elab.async false
set_option linter.all false
set_option maxRecDepth 100000
set_option maxHeartbeats 4000000
namespace K28
open PySem PySem.Spec PyProof.Rows L2

/-! ### sets of whole numbers, sorted -/
section
variable {X : Cx}
def rSetI (K : PySem.W.Frag) (w : World) : List V → Hp → VK → Prop := fun xs H Q => ∃ (l : Addr) (ns : List Int), xs = [.ref l] ∧ (SqL K H l (ns.map V.int) ∨ SqT K H l (ns.map V.int)) ∧ ns.length < 64 ∧
  ∀ a c, H a = none → c ≤ ns.length → Q (.ref a) (upd H a (SetO w a (fun j => decide (j ∈ ns)) c))
theorem cr_setI (hc : X.calm = true) : CallR X (.type "set") (rSetI X.K X.w) := by
  intro pins s σ H xs us Q I r h
  obtain ⟨l, ns, rfl, hl, h64, q⟩ := h
  rw [Vals.ref1 r]
  have hn : H s.heap.objs.size = none := I.hok.fresh (Nat.le_refl _)
  have fin : ∀ (h' : Heap) (tk c : Nat), SetR X.w h' s.heap.objs.size (fun j => decide (j ∈ ns)) c → c ≤ ns.length → (∀ b o, s.heap.get? b = some o → h'.get? b = some o) → EP X pins σ Q (.ref s.heap.objs.size) { s with heap := h', toks := tk } := fun h' tk c R hcl k =>
    ⟨.ref s.heap.objs.size, upd H s.heap.objs.size (SetO X.w s.heap.objs.size (fun j => decide (j ∈ ns)) c), I.laid (t' := tk) k (Nat.le_refl _) (setO_new R), rfl, q _ c hn hcl⟩
  rcases hl with hl | hl
  · obtain ⟨its, rv, pl, hz⟩ := I.list hl
    have hi : IntsAre its ns := ints_of_vals rv
    have hlen : its.length = ns.length := IntsAre.length hi
    refine call_set_any (I.ok.hd hc) pl.isList (fun i h => ∃ c, c ≤ i ∧ SetR X.w h s.heap.objs.size (fun j => decide (j ∈ ns.take i)) c) (fun h ho => ⟨0, Nat.le_refl _, setR_new_at ho⟩) (fun {i h h'} ⟨c, hc, R⟩ k _ => ⟨c, hc, R.at k⟩) (fun {A' i v s' E' Q'} hA hv hΦ hk hq => ?_) fun h' tk hΦ k => ?_
    · obtain ⟨c, hci, R⟩ := hΦ
      have hv' : its[i]? = some v := by simpa using hv
      obtain ⟨t, rfl⟩ := PyProof.Rows.IntsAre.int_at hi i v hv'
      have hil : i < ns.length := by rw [← hlen]; exact (List.getElem?_eq_some_iff.mp hv').1
      have hz : ns[i]? = some (ns.getD i 0) := by rw [List.getD_eq_getElem?_getD, List.getElem?_eq_getElem hil]; rfl
      generalize ns.getD i 0 = z at hz
      unfold setAdd
      refine wpAny_holding ?_
      refine wpAny_bind ((intKind X.prog X.w).pyHash (k := z) (intKind_is _ _ _ _) ?_)
      refine setR_add_hashed (s := { s' with toks := s'.toks + 1 }) R (by unfold scanBound; omega) fun h' hsb hS2 => ?_
      refine hq _ h' _ hsb (Nat.le_succ _) ⟨if decide (z ∈ ns.take i) = true then c else c + 1, by split <;> omega, hS2.congr fun j => ?_⟩
      rw [List.take_add_one, hz]
      simp [List.mem_append]
    · obtain ⟨c, hc2, R⟩ := hΦ
      have e : its.toArray.size = ns.length := by rw [List.size_toArray, hlen]
      rw [e] at R hc2
      rw [List.take_length] at R
      exact fin h' tk c R hc2 k
  · obtain ⟨its, rv, pl, hz⟩ := I.tuple hl
    exact call_set_tupI ns (I.ok.hd hc) pl (by simpa using ints_of_vals rv) (by unfold scanBound; omega) fun h' tk c R hcl k => fin h' tk c R hcl k
end
/-- the members of xs, rising -/
def uset (xs : List Nat) : List Nat := isort ltN (ddp xs)
theorem ddp_mem {α : Type} [DecidableEq α] {x : α} : ∀ {xs acc : List α}, x ∈ xs.foldl insA acc ↔ x ∈ acc ∨ x ∈ xs
  | [], acc => by simp
  | y :: xs, acc => by
    rw [List.foldl_cons, ddp_mem (xs := xs) (acc := insA acc y)]
    have : x ∈ insA acc y ↔ x ∈ acc ∨ x = y := by
      unfold insA
      split
      · next h =>
        have := memB_iff.mp h
        constructor
        · exact .inl
        · rintro (h | rfl) <;> assumption
      · simp
    rw [this, List.mem_cons, or_assoc]
theorem ddp_nd {α : Type} [DecidableEq α] : ∀ {xs acc : List α}, acc.Nodup → (xs.foldl insA acc).Nodup
  | [], _, h => h
  | y :: xs, acc, h => by
    rw [List.foldl_cons]
    refine ddp_nd (xs := xs) ?_
    unfold insA
    split
    · exact h
    · next hm =>
      refine List.nodup_append.mpr ⟨h, by simp, fun a ha b hb => ?_⟩
      rw [List.mem_singleton.mp hb]
      rintro rfl
      exact hm (memB_iff.mpr ha)
theorem uset_mem {xs : List Nat} {x : Nat} : x ∈ uset xs ↔ x ∈ xs := by
  unfold uset
  rw [(isort_perm _).mem_iff]
  unfold ddp
  rw [ddp_mem]
  simp
theorem uset_sorted (xs : List Nat) : (uset xs).Pairwise (· < ·) := by
  have h1 := isort_sorted lin_N (ddp xs)
  have h2 : (isort ltN (ddp xs)).Nodup := (isort_perm _).nodup_iff.mpr (ddp_nd List.nodup_nil)
  refine List.Pairwise.imp (R := fun a b => ltN b a = false ∧ a ≠ b) (fun {a b} h => ?_) (List.Pairwise.and h1 h2)
  have := h.1
  unfold ltN at this
  have h3 := h.2
  simp at this
  omega
theorem rising_uniq : ∀ {l m : List Nat}, l.Pairwise (· < ·) → m.Pairwise (· < ·) → (∀ x, x ∈ l ↔ x ∈ m) → l = m
  | [], [], _, _, _ => rfl
  | [], y :: m, _, _, h => absurd ((h y).mpr List.mem_cons_self) (by simp)
  | x :: l, [], _, _, h => absurd ((h x).mp List.mem_cons_self) (by simp)
  | x :: l, y :: m, hl, hm, h => by
    rw [List.pairwise_cons] at hl hm
    have e : x = y := by
      have h1 := (h x).mp List.mem_cons_self
      have h2 := (h y).mpr List.mem_cons_self
      rcases List.mem_cons.mp h1 with e | h1
      · exact e
      · rcases List.mem_cons.mp h2 with e | h2
        · exact e.symm
        · have := hl.1 y h2
          have := hm.1 x h1
          omega
    subst e
    congr 1
    refine rising_uniq hl.2 hm.2 fun z => ?_
    have := h z
    rw [List.mem_cons, List.mem_cons] at this
    constructor
    · intro hz
      rcases this.mp (.inr hz) with e | hz'
      · have := hl.1 z hz
        omega
      · exact hz'
    · intro hz
      rcases this.mpr (.inr hz) with e | hz'
      · have := hm.1 z hz
        omega
      · exact hz'
theorem ints_uset {ns : List Int} {xs : List Nat} (h : ns.Pairwise (· < ·)) (hm : ∀ k : Int, k ∈ ns ↔ k ∈ xs.map fun x => ((x : Nat) : Int)) : ns = (uset xs).map fun x => ((x : Nat) : Int) := by
  have h0 : ∀ k ∈ ns, 0 ≤ k := fun k hk => by
    obtain ⟨x, _, rfl⟩ := List.mem_map.mp ((hm k).mp hk)
    omega
  have e1 : ns = (ns.map Int.toNat).map fun x => ((x : Nat) : Int) := by
    rw [List.map_map]
    exact (List.map_id ns).symm.trans (List.map_congr_left fun k hk => by
      have := h0 k hk
      show k = ((k.toNat : Nat) : Int)
      omega)
  rw [e1]
  congr 1
  refine rising_uniq ?_ (uset_sorted xs) fun x => ?_
  · rw [List.pairwise_map]
    refine List.Pairwise.imp_of_mem (fun {a b} ha hb hab => ?_) h
    have := h0 a ha
    have := h0 b hb
    omega
  · rw [uset_mem]
    have := hm (x : Int)
    rw [List.mem_map] at this
    constructor
    · intro hx
      obtain ⟨k, hk, e⟩ := List.mem_map.mp hx
      have hk0 := h0 k hk
      obtain ⟨y, hy, e2⟩ := this.mp (by rwa [show (x : Int) = k by omega])
      have : y = x := by omega
      rwa [← this]
    · intro hx
      have := this.mpr ⟨x, hx, rfl⟩
      exact List.mem_map.mpr ⟨(x : Int), this, by simp⟩
section
variable {X : Cx} {T : Tx} {δ : List Ent} {e : Expr} {pos p p2 q : Pos}
/-- sorted(set(e)) -/
theorem pd_sortedSet {xs : List Nat} {d : PyData} (hc : X.calm = true) (hl : xs.length < 64) (hm : X.mg "sorted" = none) (hm2 : X.mg "set" = none) (h : PE X e (tD T δ d)) (hd : d = listD nD xs ∨ d = lotD xs) (hg : Gl X "sorted" := by rfl) (hg2 : Gl X "set" := by rfl)
    (he : starEach [e] X.env = (false, eval e X.env) :: starEach [] X.env := by rfl) (he2 : starEach [.Call (.Name "set" p2) [e] [] q] X.env = (false, eval (.Call (.Name "set" p2) [e] [] q) X.env) :: starEach [] X.env := by rfl)
    (hpl : (backTo q (starEach [] X.env)).any (·.1) = false := by rfl) (hpl2 : (backTo pos (starEach [] X.env)).any (·.1) = false := by rfl) :
    PE X (.Call (.Name "sorted" p) [.Call (.Name "set" p2) [e] [] q] [] pos) (tD T δ (listD nD (uset xs))) :=
  pe_imp (pe_callB (cr_sortedSet hc) hg hm boot_sorted (pa_cons (pe_callTy (cr_setI hc) hg2 hm2 PyProof.Rows.boot_set (pa_cons h pa_nil he) (by decide) (by decide) he hpl) pa_nil he2) (by decide) (by decide) he2 hpl2) fun σ H Q ⟨Hs, at_, k⟩ => ⟨Hs, at_, fun v H1s H1 g1 d1 => by
    have hv : ∃ l, v = .ref l ∧ (SqL X.K H1 l ((xs.map fun x => ((x : Nat) : Int)).map V.int) ∨ SqT X.K H1 l ((xs.map fun x => ((x : Nat) : Int)).map V.int)) := by
      rcases hd with rfl | rfl
      · obtain ⟨l, vs, rfl, e1, e2⟩ := d1.lstV
        rw [map_nD] at e2
        rw [e2.intsV] at e1
        exact ⟨l, rfl, .inl (SqL.of (g1.sub.lst e1))⟩
      · obtain ⟨l, vs, rfl, e1, e2⟩ := d1.tupV
        rw [map_nD] at e2
        rw [e2.intsV] at e1
        exact ⟨l, rfl, .inr (SqT.of (g1.sub.tup e1))⟩
    obtain ⟨l, rfl, hsq⟩ := hv
    refine ⟨l, xs.map fun x => ((x : Nat) : Int), rfl, hsq, by rw [List.length_map]; exact hl, fun a c ha hcl => ?_⟩
    rw [List.length_map] at hcl
    refine ⟨a, _, c, rfl, upd_same, by omega, fun ns r hp hmem _ hr => ?_⟩
    have e1 := ints_uset (xs := xs) hp (fun k => by rw [hmem k, decide_eq_true_iff])
    subst e1
    have g2 : Grow H1s H1 H1s (upd H1 a (SetO X.w a (fun j => decide (j ∈ xs.map fun x => ((x : Nat) : Int))) c)) := .up g1.sub (.new ha)
    have g3 := g2.trans (Grow.new g2.sub (o := .lst (((uset xs).map fun x => ((x : Nat) : Int)).map V.int)) hr)
    refine k _ _ _ (g1.trans g3) (.lst upd_same ?_)
    show DaAll _ _ ((uset xs).map nD)
    rw [map_nD]
    exact DaAll.ints⟩
/-- len(set(e)), e a list of nested tuples -/
def rSetN (P : Program) (w : World) {α : Type} [DecidableEq α] {en : α → PyData} {k : Nat} (K : KEnc en k) (xs : List α) : List V → Hp → VK → Prop := fun vs H Q => ∃ (Hs : Hp) (v : V), vs = [v] ∧ Ex Hs H ∧ Da Hs v (listD en xs) ∧ xs.length < 64 ∧
  ∀ a, H a = none → Q (.ref a) (upd H a (.ext fun h => ∃ o es ep t, h.get? a = some o ∧ o.ExactSet ∧ o.data = .set es ep t ∧ t.fits es.size = true ∧ es.size = (ddp xs).length))
theorem DaAll.addr {α : Type} [DecidableEq α] {en : α → PyData} (hT : ∀ x, ∃ ds, en x = .tuple ds) {Hs : Hp} : ∀ {vs : List V} {xs : List α}, DaAll Hs vs (xs.map en) → ∃ ps : List (Addr × α), vs = ps.map (fun p => V.ref p.1) ∧ xs = ps.map (·.2) ∧ ∀ p ∈ ps, Da Hs (.ref p.1) (en p.2)
  | _, [], .nil => ⟨[], rfl, rfl, fun p hp => by cases hp⟩
  | _, x :: xs, .cons h t => by
    obtain ⟨ps, e1, e2, e3⟩ := DaAll.addr hT t
    obtain ⟨ds, hds⟩ := hT x
    have h' := h
    rw [hds] at h'
    obtain ⟨b, _, rfl, _⟩ := h'.tupV
    refine ⟨(b, x) :: ps, by rw [e1]; rfl, by rw [e2]; rfl, fun p hp => ?_⟩
    rcases List.mem_cons.mp hp with rfl | hp
    · exact h
    · exact e3 p hp
theorem vals_refsH {α : Type} : ∀ {ps : List (Addr × α)} {us : List Value}, Vals (ps.map fun p => V.ref p.1) us → us = ps.map fun p => Value.ref p.1
  | [], _, .nil => rfl
  | p :: ps, _, .cons r t => by
    cases r
    rw [vals_refsH t]
    rfl
theorem cr_setN {α : Type} [DecidableEq α] {en : α → PyData} {k : Nat} (K : KEnc en k) (hT : ∀ x, ∃ ds, en x = .tuple ds) (hc : X.calm = true) (hu : X.A.units + 64 < cLine) (xs : List α) : CallR X (.type "set") (rSetN X.prog X.w K xs) := by
  intro pins s σ H vs us Q I r h
  obtain ⟨Hs, v, rfl, sub, d, h64, q⟩ := h
  obtain ⟨l, ws, rfl, e1, e2⟩ := d.lstV
  obtain ⟨ps, rfl, hxs, hps⟩ := DaAll.addr hT e2
  rw [Vals.ref1 r]
  obtain ⟨its, rv, pl, hz⟩ := I.list (SqL.of (K := X.K) (sub.lst e1))
  have hits := vals_refsH rv
  have hn : H s.heap.objs.size = none := I.hok.fresh (Nat.le_refl _)
  have hlen : its.length = ps.length := by rw [hits, List.length_map]
  have hlp : ps.length = xs.length := by rw [hxs, List.length_map]
  have isk : ∀ p ∈ ps, (kindE X.prog X.w K).is s.heap p.2 p.1 := fun p hp => (isKey K I (Da_mono sub (hps p hp))).1
  have hZ := kindE_hk (P := X.prog) (w := X.w) K
  refine call_set_any (I.ok.hd hc) pl.isList (fun i h => ∃ L es ep t, SetH (kindE X.prog X.w K) h s.heap.objs.size L es ep t ∧ (L.map (·.2)).Perm (ddp (xs.take i)) ∧ ∀ p ∈ L, p ∈ ps) (fun h ho => ⟨[], _, _, _, SetH.fresh ho, List.Perm.refl _, fun p hp => by cases hp⟩) (fun {i h h'} hΦ hk keep => ?_) (fun {A' i v s' E' Q'} hA hv hΦ hk hq => ?_) fun h' tk hΦ keep => ?_
  · obtain ⟨L, es, ep, t, R, h1, h2⟩ := hΦ
    obtain ⟨o, ho, r⟩ := R.ob
    exact ⟨L, es, ep, t, ⟨⟨o, hk o ho, r⟩, R.rows, R.tab, R.nd, fun p hp => hZ.keep (isk p (h2 p hp)) keep, R.plain, R.led, R.room, R.few⟩, h1, h2⟩
  · obtain ⟨L, es, ep, t, R, h1, h2⟩ := hΦ
    have hv' : its[i]? = some v := by simpa using hv
    have hil : i < ps.length := by rw [← hlen]; exact (List.getElem?_eq_some_iff.mp hv').1
    have hp : ps[i]? = some ps[i] := List.getElem?_eq_getElem hil
    generalize ps[i] = p at hp
    have hpm : p ∈ ps := List.mem_of_getElem? hp
    rw [hits, List.getElem?_map, hp] at hv'
    obtain rfl : Value.ref p.1 = v := Option.some.inj hv'
    have hx : xs[i]? = some p.2 := by rw [hxs, List.getElem?_map, hp]; rfl
    have hlL : L.length = (ddp (xs.take i)).length := by rw [← h1.length_eq, List.length_map]
    have hdl := ddp_len (xs.take i)
    have htl := List.length_take_le' i xs
    have hkey := hZ.keep (isk p hpm) hk
    have hin : p.2 ∈ L.map (·.2) ↔ memB p.2 (ddp (xs.take i)) = true := by rw [h1.mem_iff, memB_iff]
    unfold setAdd
    refine wpAny_holding ?_
    refine wpAny_bind ((kindE X.prog X.w K).pyHash (show A'.units + 8 < cLine by omega) hkey ?_)
    have hil2 : i < xs.length := by rw [← hlp]; exact hil
    refine SetH.add (s := { s' with toks := s'.toks + (kindE X.prog X.w K).draws p.2 }) hZ R hkey (show A'.units + 8 < cLine by omega) (by have := List.length_take_le i xs; omega) fun b h' L' es' ep' t' hsb R' c1 c2 => ?_
    refine hq b h' _ hsb (Nat.le_add_right _ _) ⟨L', es', ep', t', R', ?_, ?_⟩
    · have e : ddp (xs.take (i + 1)) = insA (ddp (xs.take i)) p.2 := by
        unfold ddp
        rw [take_one hx, List.foldl_append]
        rfl
      rw [e]
      unfold insA
      split
      · next hmm => rw [c1 (hin.mpr hmm)]; exact h1
      · next hmm =>
        have hnm : p.2 ∉ L.map (·.2) := fun z => hmm (hin.mp z)
        refine ((c2 hnm).map (·.2)).trans ?_
        rw [List.map_cons]
        exact (List.Perm.cons _ h1).trans (List.perm_append_singleton _ _).symm
    · intro y hy
      rcases Classical.em (p.2 ∈ L.map (·.2)) with c | c
      · rw [c1 c] at hy
        exact h2 y hy
      · rcases List.mem_cons.mp ((c2 c).mem_iff.mp hy) with rfl | hy
        · exact hpm
        · exact h2 y hy
  · obtain ⟨L, es, ep, t, R, h1, h2⟩ := hΦ
    have e : its.toArray.size = xs.length := by rw [List.size_toArray, hlen, hlp]
    rw [e, List.take_length] at h1
    obtain ⟨o, ho, hex, hd⟩ := R.ob
    have hsz : es.size = (ddp xs).length := by rw [R.size, ← h1.length_eq, List.length_map]
    exact ⟨.ref s.heap.objs.size, _, I.laid (t' := tk) (o := .ext fun h => ∃ o es ep t, h.get? s.heap.objs.size = some o ∧ o.ExactSet ∧ o.data = .set es ep t ∧ t.fits es.size = true ∧ es.size = (ddp xs).length) keep (Nat.le_refl _)
      ⟨⟨o, es, ep, t, ho, hex, hd, R.fits, hsz⟩, ⟨o, ho⟩, fun h1 h2 ⟨o, es, ep, t, ho, r⟩ k => ⟨o, es, ep, t, k o ho, r⟩⟩, rfl, q _ hn⟩
/-- len of such a set -/
def rLenN : List V → Hp → VK → Prop := fun vs H Q => ∃ (a : Addr) (n : Nat), vs = [.ref a] ∧ H a = some (.ext fun h => ∃ o es ep t, h.get? a = some o ∧ o.ExactSet ∧ o.data = .set es ep t ∧ t.fits es.size = true ∧ es.size = n) ∧ n ≤ 1000 ∧ Q (.int n) H
theorem cr_lenN : CallR X (.builtin "len") rLenN := by
  intro pins s σ H vs us Q I r h
  obtain ⟨a, n, rfl, ha, hn, q⟩ := h
  rw [Vals.ref1 r]
  obtain ⟨⟨o, es, ep, t, ho, hex, hd, hf, hs⟩, _⟩ := I.hok a _ ha
  exact call_len_set ho hex hd hf (by omega) ⟨.int n, H, I.tok _, ⟨_, by rw [hs]⟩, q⟩
/-- len(set(e)) -/
theorem pd_lenSet {α : Type} [DecidableEq α] {en : α → PyData} {k : Nat} (K : KEnc en k) (hT : ∀ x, ∃ ds, en x = .tuple ds) (xs : List α) (hc : X.calm = true) (hu : X.A.units + 64 < cLine) (hl : xs.length < 64) (hm : X.mg "len" = none) (hm2 : X.mg "set" = none) (h : PE X e (tD T δ (listD en xs))) (hg : Gl X "len" := by rfl) (hg2 : Gl X "set" := by rfl)
    (he : starEach [e] X.env = (false, eval e X.env) :: starEach [] X.env := by rfl) (he2 : starEach [.Call (.Name "set" p2) [e] [] q] X.env = (false, eval (.Call (.Name "set" p2) [e] [] q) X.env) :: starEach [] X.env := by rfl)
    (hpl : (backTo q (starEach [] X.env)).any (·.1) = false := by rfl) (hpl2 : (backTo pos (starEach [] X.env)).any (·.1) = false := by rfl) :
    PE X (.Call (.Name "len" p) [.Call (.Name "set" p2) [e] [] q] [] pos) (tD T δ (nD (ddp xs).length)) :=
  pe_imp (pe_callB cr_lenN hg hm boot_len (pa_cons (pe_callTy (cr_setN K hT hc hu xs) hg2 hm2 PyProof.Rows.boot_set (pa_cons h pa_nil he) (by decide) (by decide) he hpl) pa_nil he2) (by decide) (by decide) he2 hpl2) fun σ H Q ⟨Hs, at_, k⟩ => ⟨Hs, at_, fun v H1s H1 g1 d1 =>
    ⟨H1s, v, rfl, g1.sub, d1, hl, fun a ha => ⟨a, _, rfl, upd_same, by have := ddp_len xs; omega, k _ H1s _ (g1.trans (.up g1.sub (.new ha))) (.int _)⟩⟩⟩
end
end K28

set_option Elab.async false
set_option linter.all false
set_option maxRecDepth 100000
set_option maxHeartbeats 4000000
namespace K28
open PySem PySem.Spec PyProof.Rows L2

theorem del_upd {H : Hp} {D : Addr} {o : HO} : upd (del H D) D o = upd H D o := by
  funext a
  by_cases e : a = D
  · subst e
    rw [upd_same, upd_same]
  · rw [upd_ne e, upd_ne e]
    exact if_neg e
section
variable {X : Cx} {T : Tx} {H0s H0 : Hp} {δ : List Ent} {a c kx vx : Expr} {x y z : PyData} {pos : Pos} {α : Type} [DecidableEq α]
/-- a, b, c = x, {k: v}, z -/
theorem pds_par3D (i j l : Nat) {s t u : Str} {P : Program} {w : World} {px py pz pt pt2 dp : Pos} {kt k2 : Nat} (kd : DKd P w α) {k0 : α} (hu : X.A.units + 64 < cLine) (hc : X.calm = true) (hN : X.N.Nodup) (ha : PE X a (tD T δ x)) (hk : PE X kx (tD T δ (kd.enc k0))) (hv : PE X vx (tD T δ y)) (hz0 : PE X c (tD T δ z)) (hP : X.prog = P := by rfl) (hw0 : X.w = w := by rfl)
    (hij : i ≠ j := by decide) (hil : i ≠ l := by decide) (hjl : j ≠ l := by decide) (hi : X.N[i]? = some s := by rfl) (hj : X.N[j]? = some t := by rfl) (hl : X.N[l]? = some u := by rfl)
    (hx : X.env.scope.names.lookup s = some .local := by rfl) (hy : X.env.scope.names.lookup t = some .local := by rfl) (hz : X.env.scope.names.lookup u = some .local := by rfl)
    (he : starEach [a, .Dict [some kx] [vx] dp, c] X.env = (false, eval a X.env) :: starEach [.Dict [some kx] [vx] dp, c] X.env := by rfl) (he2 : starEach [.Dict [some kx] [vx] dp, c] X.env = (false, eval (.Dict [some kx] [vx] dp) X.env) :: starEach [c] X.env := by rfl) (he3 : starEach [c] X.env = (false, eval c X.env) :: starEach [] X.env := by rfl)
    (hw : swappedStores [.Tuple [.Name s px, .Name t py, .Name u pz] kt pt] (.Tuple [a, .Dict [some kx] [vx] dp, c] k2 pt2) X.env = pure (some [s, t, u]) := by rfl)
    (hs : swapsWithSole [.Tuple [.Name s px, .Name t py, .Name u pz] kt pt] (.Tuple [a, .Dict [some kx] [vx] dp, c] k2 pt2) pos.line X.env = pure false := by rfl) :
    PS X (.Assign [.Tuple [.Name s px, .Name t py, .Name u pz] kt pt] (.Tuple [a, .Dict [some kx] [vx] dp, c] k2 pt2) pos) (tS T H0s H0 δ (.nx (((δ.set i (.d x)).set j (.dct (kd.dct [k0]))).set l (.d z)))) := by
  subst hP
  subst hw0
  refine ps_imp (ps_par3 hc hN hi hj hl hij hil hjl hx hy hz (pa_cons ha (pa_cons (pe_disp1 kd hu hk hv) (pa_cons hz0 pa_nil he3) he2) he) hw hs) fun D σ H ⟨Hs, b, k⟩ => ⟨Hs, b.at, fun v1 H1s H1 g1 d1 => fun p o hp ok0 => ?_⟩
  have gu : Grow H1s H1 H1s (upd H1 p o) := .up g1.sub (.new hp)
  have hps := g1.sub.back hp
  refine ⟨H1s, (b.at.mono g1).mono gu, fun w1 H2s H2 g2 d2 => ⟨H2s, ((b.at.mono g1).mono gu).mono g2, fun w2 H3s H3 g3 d3 => ?_⟩⟩
  have q2 : H2s p = none := g2.own p hps (by rw [upd_same]; simp)
  have e2 : H2 p = some o := g2.heap.get upd_same (fun _ => kd.nt (ok0 H1s))
  have q3 : H3s p = none := g3.own p q2 (by rw [e2]; simp)
  have e3 : H3 p = some o := g3.heap.get e2 (fun _ => kd.nt (ok0 H1s))
  refine ⟨o, H3s, k0, e3, ok0 H3s, g3.sub, Da_mono g3.base d2, fun o2 ok2 => ?_⟩
  have gd : Grow Hs H H3s (K28.del H3 p) := (g1.trans ((gu.trans g2).trans g3)).del (g1.heap.back hp) q3
  have b1 := (b.mono gd).lay (i := j) (p := p) (o := o2) (x := .dct (kd.dct [k0])) del_self ok2
  rw [del_upd] at b1
  refine ⟨H3s, ?_, fun w3 H4s H4 g4 d4 => ⟨_, _, _, rfl, ?_⟩⟩
  · have gt : Grow H1s H1 H3s (upd H3 p o2) := ⟨g2.base.trans g3.base, ((Ex.new (o := o) hp).trans (g2.heap.trans g3.heap)).newR hp, g3.sub.newR q3, fun r h1 h2 => g3.own r (g2.own r h1 (gu.heap.isSome h2)) (g2.heap.isSome (gu.heap.isSome h2))⟩
    exact (b.at.mono g1).mono gt
  · have b2 := ((b1.mono g4).set (i := i) (Da_mono ((g2.base.trans g3.base).trans g4.base) d1)).set (i := l) d4
    rw [List.set_comm _ _ (Ne.symm hij)] at b2
    have e5 : (δ.set j (Ent.dct (kd.dct [k0]))).set i (.d x) = (δ.set i (.d x)).set j (.dct (kd.dct [k0])) := List.set_comm _ _ (Ne.symm hij)
    rw [e5] at b2
    exact k _ H4s H4 (gd.base.trans g4.base) b2
theorem pd_listT {ds : List PyData} {e : Expr} {p2 : Pos} (hm : X.mg "list" = none) (h : PE X e (tD T δ (.tuple ds))) (hg : Gl X "list" := by rfl) (he : starEach [e] X.env = (false, eval e X.env) :: starEach [] X.env := by rfl) : PE X (.Call (.Name "list" p2) [e] [] pos) (tD T δ (.list ds)) :=
  pd_callTy call_list_of rc_lstT hm boot_list (pda_cons h pda_nil he) hg (he := he)
end
section
variable {P : Program} {w : World} {K : PySem.W.Frag} {mg : Str → Option Value} {base : Heap} {T : Tx}
/-! ### made -/
def lMade (d : List Nat × List Nat) (g : List Nat) : List Nat := isort ltN (g.filter (fun o => !memB o d.2) ++ d.1)
def rLmade : List PyData → PyData → Prop := fun ds r => ∃ d g, d.1.length ≤ 400 ∧ g.length ≤ 400 ∧ ds = [ddD d, lotD g] ∧ r = lotD (lMade d g)
abbrev s_lmade : Stmt := top 53
def n_lmade : List Str := ["_law_some", "_law_gathering", "_law_one"]
theorem sc_lmade : FnScope n_lmade ["_law_some", "_law_gathering"] (defScope s_lmade) := ⟨rfl, rfl, rfl, by decide +kernel, rfl, by decide +kernel, by decide +kernel⟩
theorem h_lmade {f : Addr} {fd : FuncData} (F : Fun K "_law_made" "_law_made" s_lmade f fd) (hm : mg "_law_made" = some (.ref f)) (B : Bi mg) : Has P w K mg base T "_law_made" 1 rLmade := by
  refine fn_data F sc_lmade hm (F.binds fun _ _ _ _ _ _ us hl => match us, hl with | [_, _], _ => rfl) (fun ds r h => ?_) fun cdv A outer s H E H0s H0 ds r hr hR => ?_
  · obtain ⟨d, g, _, _, rfl, _⟩ := h
    rfl
  · obtain ⟨d, g, hd, hg, rfl, rfl⟩ := hR
    have hfl := List.length_filter_le (fun p => !memB p d.2) g
    refine ⟨.rt (lotD (lMade d g)), .inl rfl, pds_one (pds_ret (pd_tuple B.tuple (pd_sortedE EOrd.nat lin_N (by decide) _ (sok_nat _) (hu64 hr) B.sorted (pd_is (pd_op op_cat (rd_cat ?_) (pd_lc (own := [("_law_one", 2)]) g nD (fun p => [.d (ddD d), .d (lotD g), .d (nD p)]) (fun p => !memB p d.2) nD rfl sc_lmade.nd
      (pid_tup (pd_var 1 rfl)) (by omega) (blkOk_by (N := n_lmade) (sc := defScope s_lmade) (by decide +kernel)) (fun _ _ _ _ _ => pg_name (i := 2) sc_lmade.nd rfl (Or.inl rfl)) (fun y _ => tg_name (by decide))
      (fun _ _ _ _ _ p _ => pts_one (pdt_cmp op_notIn_seq rd_notNT (pd_var 2 rfl) (pd_ix ix_tup (rd_ixT (xs := [lotD d.1, lotD d.2]) (i := 1) rfl) (pd_var 0 rfl) pd_int) (by rfl))) (fun _ _ _ _ _ p _ _ => pd_var 2 rfl))
      (pd_listT B.list (pd_ix ix_tup (rd_ixT (xs := [lotD d.1, lotD d.2]) (i := 0) rfl) (pd_var 0 rfl) pd_int))) ?_))))⟩
    · rw [List.length_map, List.length_map]
      omega
    · unfold listD
      rw [List.map_append]
/-! ### times -/
def rLtimes : List PyData → PyData → Prop := fun ds r => ∃ m : Nat, m ≤ 60 ∧ ds = [nD 2, nD m] ∧ r = nD (2 ^ m)
abbrev s_ltimes : Stmt := top 55
def n_ltimes : List Str := ["_law_base", "_law_many", "_law_found", "_law_turn"]
theorem sc_ltimes : FnScope n_ltimes ["_law_base", "_law_many"] (defScope s_ltimes) := ⟨rfl, rfl, rfl, by decide +kernel, rfl, by decide +kernel, by decide +kernel⟩
theorem h_ltimes {f : Addr} {fd : FuncData} (F : Fun K "_law_times" "_law_times" s_ltimes f fd) (hm : mg "_law_times" = some (.ref f)) (B : Bi mg) : Has P w K mg base T "_law_times" 1 rLtimes := by
  refine fn_data F sc_ltimes hm (F.binds fun _ _ _ _ _ _ us hl => match us, hl with | [_, _], _ => rfl) (fun ds r h => ?_) fun cdv A outer s H E H0s H0 ds r hr hR => ?_
  · obtain ⟨m, _, rfl, _⟩ := h
    rfl
  · obtain ⟨m, hm, rfl, rfl⟩ := hR
    refine ⟨.rt (nD (2 ^ m)), .inl rfl, pds_cons (δ1 := [.d (nD 2), .d (nD m), .d (nD (2 ^ 0)), .no]) (pds_set 2 sc_ltimes.nd pd_int) (pds_cons (δ1 := [.d (nD 2), .d (nD m), .d (nD (2 ^ m)), .no]) ?_ (pds_one (pds_ret (pd_var 2 rfl))))⟩
    refine pds_forN (ks := [3]) (g := gName 3) m (fun k => [.d (nD 2), .d (nD m), .d (nD (2 ^ k)), .no]) (fun k => [.d (nD 2), .d (nD m), .d (nD (2 ^ k)), .d (nD k)]) rfl rfl PassesOwn.never rfl
        (pid_range (n := m) (pda_cons (pd_var 1 rfl) pda_nil) (by omega) B.range) (pg_name (i := 3) sc_ltimes.nd rfl (Or.inl rfl)) (fun k => trivial) (fun k => tg_name (by decide)) (fun k hk => ?_)
    refine pds_weak (δ1 := [.d (nD 2), .d (nD m), .d (nD (2 ^ (k + 1))), .d (nD k)]) (less_of ⟨rfl, rfl, rfl, trivial⟩) (pds_one (pds_set 2 sc_ltimes.nd (pd_is (pd_op op_mul (rd_IC (.inr (by decide))) (pd_var 2 rfl) (pd_var 0 rfl)) ?_)))
    show PyData.int (((2 ^ k : Nat) : Int) * ((2 : Nat) : Int)) = .int ((2 ^ (k + 1) : Nat) : Int)
    rw [Nat.pow_succ, Int.natCast_mul]
end
end K28

set_option Elab.async false
set_option linter.all false
set_option maxRecDepth 100000
set_option maxHeartbeats 4000000
namespace K28
open PySem PySem.Spec PyProof.Rows L2
section
variable {P : Program} {w : World} {K : PySem.W.Frag} {mg : Str → Option Value} {base : Heap} {T : Tx}
/-! ### deed of one comer -/
def lDeed (W : Web) (p : Nat) : List Nat × List Nat := ([p], uset ([p] ++ lFoes W p))
theorem lFoes_len (W : Web) (p : Nat) : (lFoes W p).length ≤ 2 * W.ps.length := by
  unfold lFoes
  rw [(isort_perm _).length_eq]
  exact lfTo_len W.ps p
def rLdeed : List PyData → PyData → Prop := fun ds r => ∃ W p, W.ps.length ≤ 20 ∧ ds = [webD W, lotD [p]] ∧ r = ddD (lDeed W p)
abbrev s_ldeed : Stmt := top 52
def n_ldeed : List Str := ["_law_web_here", "_law_comers", "_law_stays", "_law_gone", "_law_k", "_law_later", "_law_bad", "_law_one"]
theorem sc_ldeed : FnScope n_ldeed ["_law_web_here", "_law_comers"] (defScope s_ldeed) := ⟨rfl, rfl, rfl, by decide +kernel, rfl, by decide +kernel, by decide +kernel⟩
def δd (W : Web) (p : Nat) (stays : List PyData) (gone : List Nat) (a b c : Ent) : List Ent := [.d (webD W), .d (lotD [p]), .own stays, .d (listD nD gone), a, b, c, .no]
theorem h_ldeed {f : Addr} {fd : FuncData} (F : Fun K "_law_deed" "_law_deed" s_ldeed f fd) (hm : mg "_law_deed" = some (.ref f)) (B : Bi mg) (hA : Has P w K mg base T "_law_foes" 1 rLfoes) : Has P w K mg base T "_law_deed" 2 rLdeed := by
  refine fn_data F sc_ldeed hm (F.binds fun _ _ _ _ _ _ us hl => match us, hl with | [_, _], _ => rfl) (fun ds r h => ?_) fun cdv A outer s H E H0s H0 ds r hr hR => ?_
  · obtain ⟨W, p, _, rfl, _⟩ := h
    rfl
  · obtain ⟨W, p, hW, rfl, rfl⟩ := hR
    have hfl := lFoes_len W p
    have ixp : ∀ {X : Cx} {δ : List Ent} {a b : Expr} {pos : Pos}, PE X a (tD T δ (lotD [p])) → PE X b (tD T δ (nD 0)) → (hs : PlainIx b) → PE X (.Subscript a b pos) (tD T δ (nD p)) := fun ha hb hs => pd_ix ix_tup (rd_ixT (xs := [nD p]) (i := ((0 : Nat) : Int)) rfl) ha hb hs
    refine ⟨.rt (ddD (lDeed W p)), .inl rfl, pds_cons (δ1 := δd W p [] [] .no .no .no) (pds_parL 2 3 (ds := []) rfl sc_ldeed.nd (by decide) pda_nil) (pds_cons (δ1 := δd W p [nD p] ([p] ++ lFoes W p) .no .no .no) ?_ (pds_freeze 2 rfl (pds_one (pds_ret (pd_tup (ds := [lotD (isort ltN [p]), lotD (uset ([p] ++ lFoes W p))]) (pda_cons (pd_tuple B.tuple (pd_sortedE EOrd.nat lin_N (by decide) _ (sok_nat _) (hu64 hr) B.sorted (pd_var 2 rfl))) (pda_cons (pd_tuple B.tuple (pd_sortedSet (xs := [p] ++ lFoes W p) rfl ?_ B.sorted B.set (pd_var 3 rfl) (.inl rfl))) pda_nil)) (by show 2 ≤ 1000; decide))))))⟩
    · refine pds_for (ks := [4]) (g := gName 4) (List.range 1) nD (fun k => match k with | 0 => δd W p [] [] .no .no .no | _ => δd W p [nD p] ([p] ++ lFoes W p) .no .no .no) (fun k y => match k with | 0 => δd W p [] [] (.d (nD y)) .no .no | _ => (δd W p [nD p] ([p] ++ lFoes W p) .no .no .no).set 4 (.d (nD y))) rfl PassesOwn.never rfl
        (pid_range (n := 1) (pda_cons (pd_lenT (xs := [p]) B.len (pd_var 1 rfl)) pda_nil) (by decide) B.range) (pg_name (i := 4) sc_ldeed.nd rfl (Or.inl rfl)) (fun k y hy => ?_) (fun k y i e h m => ?_) (fun k y hy => ?_)
      · cases k with
        | zero => exact tg_name (by decide)
        | succ k => exact tg_name (by decide)
      · cases k with
        | zero => exact mineSub_get (i := 0) (show mineSub [4] 0 (δd W p [] [] (.d (nD y)) .no .no) (δd W p [] [] .no .no .no) from ⟨rfl, by decide, trivial⟩) i e h m |> fun z => by rwa [Nat.zero_add] at z
        | succ k => exact mineSub_get (i := 0) (show mineSub [4] 0 ((δd W p [nD p] ([p] ++ lFoes W p) .no .no .no).set 4 (.d (nD y))) (δd W p [nD p] ([p] ++ lFoes W p) .no .no .no) from ⟨rfl, by decide, trivial⟩) i e h m |> fun z => by rwa [Nat.zero_add] at z
      · have hk : k < 1 := by simpa using (List.getElem?_eq_some_iff.mp hy).1
        obtain rfl : k = 0 := by omega
        obtain rfl : (0 : Nat) = y := by simpa using hy
        refine pds_weak (δ1 := δd W p [nD p] ([p] ++ lFoes W p) (.d (nD 0)) (.d (lotD [])) (.d (listD nD (lFoes W p)))) (less_of ⟨rfl, rfl, rfl, rfl, trivial⟩) ?_
        refine pds_cons (δ1 := δd W p [] [] (.d (nD 0)) (.d (lotD [])) .no) (pds_set 5 sc_ldeed.nd (pd_is (pd_fromT (en := nD) (xs := [p]) (k := 0 + 1) (pd_var 1 rfl) (pd_is (pd_op op_add rd_II (pd_var 4 rfl) pd_int) rfl)) rfl)) ?_
        refine pds_cons (δ1 := δd W p [] [] (.d (nD 0)) (.d (lotD [])) (.d (listD nD (lFoes W p)))) (pds_set 6 sc_ldeed.nd (pd_call hA hr ⟨W, p, by omega, rfl, rfl⟩ (pda_cons (pd_var 0 rfl) (pda_cons (ixp (pd_var 1 rfl) (pd_var 4 rfl) (by intro _ _; rfl)) pda_nil)))) ?_
        refine pds_cons (δ1 := δd W p [] ([p] ++ lFoes W p) (.d (nD 0)) (.d (lotD [])) (.d (listD nD (lFoes W p)))) (pds_set 3 sc_ldeed.nd (pd_is (pd_op op_cat (rd_cat ?_) (pd_op op_cat (rd_cat (by show 0 + 1 ≤ 1000; decide)) (pd_var 3 (x := .list []) rfl) (pd_lst (ds := [nD p]) (pda_cons (ixp (pd_var 1 rfl) (pd_var 4 rfl) (by intro _ _; rfl)) pda_nil) (by show 1 ≤ 1000; decide))) (pd_var 6 rfl)) ?_)) ?_
        · show 0 + 1 + ((lFoes W p).map nD).length ≤ 1000
          rw [List.length_map]
          omega
        · show PyData.list ([nD p] ++ (lFoes W p).map nD) = .list (([p] ++ lFoes W p).map nD)
          rw [List.map_append]
          rfl
        · refine pds_one (pds_ifT (pdt_is (PW.pt (pdw_and (pdt_cmp op_notIn_seq rd_notNT (ixp (pd_var 1 rfl) (pd_var 4 rfl) (by intro _ _; rfl)) (pd_var 5 rfl) (by rfl)) fun _ => pdw_one (pdt_cmp (x := listD nD []) (y := listD nD []) (op_eqD (hu64 hr)) (rd_eqE (Enc.lst Enc.nat) (by decide)) (pd_is (pd_lc (own := [("_law_one", 7)]) (lFoes W p) nD (fun o => [.d (webD W), .d (lotD [p]), .own [], .d (listD nD ([p] ++ lFoes W p)), .d (nD 0), .d (lotD []), .d (listD nD (lFoes W p)), .d (nD o)]) (fun o => memB o []) nD rfl sc_ldeed.nd
            (pid_list (pd_var 6 rfl)) (by omega) (blkOk_by (N := n_ldeed) (sc := defScope s_ldeed) (by decide +kernel)) (fun _ _ _ _ _ => pg_name (i := 7) sc_ldeed.nd rfl (Or.inl rfl)) (fun y _ => tg_name (by decide))
            (fun _ _ _ _ _ o _ => pts_one (pdt_cmp op_in_seq rd_inNT (pd_var 7 rfl) (pd_var 5 rfl) (by rfl))) (fun _ _ _ _ _ o _ _ => pd_var 7 rfl)) ?_) (pd_lst (ds := []) pda_nil (by decide)) (by rfl)))) ?_)
            (pds_one (pds_append 2 rfl (ixp (pd_var 1 rfl) (pd_var 4 rfl) (by intro _ _; rfl)) (by decide) rfl)))
          · have : ∀ l : List Nat, l.filter (fun o => memB o []) = [] := fun l => List.filter_eq_nil_iff.mpr fun o _ => by simp [memB]
            rw [this]
            rfl
          · rfl
    · rw [List.length_append, List.length_singleton]
      omega
end
end K28

set_option Elab.async false
set_option linter.all false
set_option maxRecDepth 100000
set_option maxHeartbeats 4000000
namespace K28
open PySem PySem.Spec PyProof.Rows L2
abbrev DD := List Nat × List Nat
def thereD (s d : DD) : DD := (lMade d s.1, uset (s.2 ++ d.2))
def stepD (acc : List DD × List DD) (t : DD) : List DD × List DD := if memB t acc.1 then acc else (acc.1 ++ [t], acc.2 ++ [t])
def allT (S walk : List DD) : List DD := walk.flatMap fun s => S.map (thereD s)
def roundD (S : List DD) (st : List DD × List DD) : List DD × List DD := (allT S st.2).foldl stepD (st.1, [])
def rndD (S : List DD) : Nat → List DD × List DD
  | 0 => ([([], [])], [([], [])])
  | k + 1 => roundD S (rndD S k)
def singles (W : Web) : List DD := (List.range W.n).map (lDeed W)
def lastR (W : Web) : Nat := ((List.range 20).find? fun k => (rndD (singles W) k).2.isEmpty).getD 0
def lDeeds (W : Web) : List DD := isort ltDd (rndD (singles W) (lastR W)).1
def smallD (d : DD) : Bool := decide (d.1.length ≤ 20) && decide (d.2.length ≤ 20)
def chkD (W : Web) : Bool := (singles W).all smallD && (List.range (lastR W + 1)).all fun k => (rndD (singles W) k).2.isEmpty == !decide (k < lastR W) && decide ((rndD (singles W) k).1.length ≤ 100) && decide ((rndD (singles W) k).2.length ≤ 100) && (rndD (singles W) k).2.all smallD
theorem stepD_len (ts : List DD) : ∀ acc : List DD × List DD, (ts.foldl stepD acc).1.length ≤ acc.1.length + ts.length ∧ (ts.foldl stepD acc).2.length ≤ acc.2.length + ts.length := by
  induction ts with
  | nil => exact fun acc => ⟨Nat.le_refl _, Nat.le_refl _⟩
  | cons t ts ih =>
    intro acc
    rw [List.foldl_cons, List.length_cons]
    obtain ⟨h1, h2⟩ := ih (stepD acc t)
    have : (stepD acc t).1.length ≤ acc.1.length + 1 ∧ (stepD acc t).2.length ≤ acc.2.length + 1 := by
      unfold stepD
      split
      · exact ⟨Nat.le_succ _, Nat.le_succ _⟩
      · simp
    omega
theorem allT_len (S : List DD) : ∀ walk : List DD, (allT S walk).length = walk.length * S.length
  | [] => by simp [allT]
  | s :: walk => by
    have := allT_len S walk
    unfold allT at *
    rw [List.flatMap_cons, List.length_append, List.length_map, this, List.length_cons, Nat.add_mul]
    omega
theorem dd_tup : ∀ x : DD, ∃ ds, ddD x = .tuple ds := fun x => ⟨_, rfl⟩
section
variable {P : Program} {w : World} {K : PySem.W.Frag} {mg : Str → Option Value} {base : Heap} {T : Tx}
def rLdeeds : List PyData → PyData → Prop := fun ds r => ∃ W, W.n ≤ 7 ∧ W.ps.length ≤ 20 ∧ chkD W = true ∧ ds = [webD W] ∧ r = listD ddD (lDeeds W)
abbrev s_ldeeds : Stmt := top 54
def n_ldeeds : List Str := ["_law_web_here", "_law_single", "_law_found", "_law_walk", "_law_more", "_law_some", "_law_one", "_law_there", "_law_person"]
theorem sc_ldeeds : FnScope n_ldeeds ["_law_web_here"] (defScope s_ldeeds) := ⟨rfl, rfl, rfl, by decide +kernel, rfl, by decide +kernel, by decide +kernel⟩
def δe (P : Program) (w : World) (W : Web) (st : List DD × List DD) (walk : List DD) (a b c : Ent) : List Ent := [.d (webD W), .d (listD ddD (singles W)), .dct ((kdN P w KEnc.dd dd_tup).dct st.1), .d (listD ddD walk), .own (st.2.map ddD), a, b, c, .no]
def δf (P : Program) (w : World) (W : Web) (st : List DD × List DD) : List Ent := [.d (webD W), .d (listD ddD (singles W)), .dct ((kdN P w KEnc.dd dd_tup).dct st.1), .d (listD ddD st.2), .no, .no, .no, .no, .no]
theorem h_ldeeds {f : Addr} {fd : FuncData} (F : Fun K "_law_deeds" "_law_deeds" s_ldeeds f fd) (hm : mg "_law_deeds" = some (.ref f)) (B : Bi mg) (hD : Has P w K mg base T "_law_deed" 2 rLdeed) (hM : Has P w K mg base T "_law_made" 1 rLmade) : Has P w K mg base T "_law_deeds" 3 rLdeeds := by
  refine fn_data F sc_ldeeds hm (F.binds fun _ _ _ _ _ _ us hl => match us, hl with | [_], _ => rfl) (fun ds r h => ?_) fun cdv A outer sh H E H0s H0 ds r hr hR => ?_
  · obtain ⟨W, _, _, _, rfl, _⟩ := h
    rfl
  · obtain ⟨W, hn, hW, hc, rfl, rfl⟩ := hR
    unfold chkD at hc
    rw [Bool.and_eq_true, List.all_eq_true, List.all_eq_true] at hc
    obtain ⟨hS, hK⟩ := hc
    have hSl : (singles W).length ≤ 7 := by
      unfold singles
      rw [List.length_map, List.length_range]
      exact hn
    have hK' : ∀ k, k ≤ lastR W → ((rndD (singles W) k).2.isEmpty = !decide (k < lastR W)) ∧ (rndD (singles W) k).1.length ≤ 100 ∧ (rndD (singles W) k).2.length ≤ 100 ∧ ∀ s ∈ (rndD (singles W) k).2, s.1.length ≤ 20 ∧ s.2.length ≤ 20 := fun k hk => by
      have h := hK k (List.mem_range.mpr (by omega))
      simp only [Bool.and_eq_true, beq_iff_eq, decide_eq_true_eq, List.all_eq_true, smallD] at h
      exact ⟨h.1.1.1, h.1.1.2, h.1.2, h.2⟩
    have hS' : ∀ d ∈ singles W, d.1.length ≤ 20 ∧ d.2.length ≤ 20 := fun d hd => by
      have h := hS d hd
      simpa [smallD] using h
    have hc0 : PS (BX P w K mg base n_ldeeds "_law_deeds" s_ldeeds f cdv A outer sh H E) ((defBody s_ldeeds).getD 0 (.Pass ⟨0, 0, 0, 0⟩)) (tS T H0s H0 (δ0 n_ldeeds [webD W]) (.nx (δf P w W (rndD (singles W) 0)))) := by
      refine pds_par3D 1 2 3 (kdN P w KEnc.dd dd_tup) (k0 := ([], [])) (x := listD ddD (singles W)) (y := .bool true) (z := listD ddD [([], [])]) (hu64 hr) rfl sc_ldeeds.nd (pd_is (pd_lc (own := [("_law_person", 8)]) (List.range W.n) nD (fun p => [.d (webD W), .no, .no, .no, .no, .no, .no, .no, .d (nD p)]) (fun _ => true) (fun p => ddD (lDeed W p)) rfl sc_ldeeds.nd
        (pid_range (n := W.n) (pda_cons (pd_web0 (pd_var 0 rfl)) pda_nil) (by omega) B.range) (by rw [List.length_range]; omega) (blkOk_by (N := n_ldeeds) (sc := defScope s_ldeeds) (by decide +kernel)) (fun _ _ _ _ _ => pg_name (i := 8) sc_ldeeds.nd rfl (Or.inl rfl)) (fun y _ => tg_name (by decide)) (fun _ _ _ _ _ _ _ => pts_no)
        (fun _ _ _ _ _ p hp _ => pd_call hD hr ⟨W, p, hW, rfl, rfl⟩ (pda_cons (pd_var 0 rfl) (pda_cons (pd_tup (ds := [nD p]) (pda_cons (pd_var 8 rfl) pda_nil) (by show 1 ≤ 1000; decide)) pda_nil)))) ?_)
        (pd_tup (ds := [lotD [], lotD []]) (pda_cons (pd_tup (ds := []) pda_nil (by decide)) (pda_cons (pd_tup (ds := []) pda_nil (by decide)) pda_nil)) (by show 2 ≤ 1000; decide)) pd_bl
        (pd_lst (ds := [ddD ([], [])]) (pda_cons (pd_tup (ds := [lotD [], lotD []]) (pda_cons (pd_tup (ds := []) pda_nil (by decide)) (pda_cons (pd_tup (ds := []) pda_nil (by decide)) pda_nil)) (by show 2 ≤ 1000; decide)) pda_nil) (by show 1 ≤ 1000; decide))
      unfold singles listD
      rw [filt_all, List.map_map]
      rfl
    refine ⟨.rt (listD ddD (lDeeds W)), .inl rfl, pds_cons (δ1 := δf P w W (rndD (singles W) 0)) hc0 (pds_cons (δ1 := δf P w W (rndD (singles W) (lastR W))) (pds_while (lastR W) (fun k => δf P w W (rndD (singles W) k)) rfl PassesOwn.never (fun k hk => ?_) (fun k hk => ?_)) (pds_one (pds_ret (pd_sortedE EOrd.dd lin_dd (by decide) _ (sok_dd _) (hu64 hr) B.sorted (pd_listN KEnc.dd dd_tup 2 rfl rfl ?_ B.list)))))⟩
    · obtain ⟨h1, _⟩ := hK' k hk
      refine pdt_is (pdt_cmp (x := listD ddD (rndD (singles W) k).2) (y := listD ddD []) (op_neD (hu64 hr)) (rd_neE (Enc.lst EOrd.dd.toEnc) (by decide)) (pd_var 3 rfl) (pd_lst (ds := []) pda_nil (by decide)) (by rfl)) ?_
      rw [eq_nil, h1, Bool.not_not]
    · obtain ⟨_, hf, hwl, hws⟩ := hK' k (by omega)
      generalize hst : rndD (singles W) k = st at hf hwl hws
      have hnext : rndD (singles W) (k + 1) = (allT (singles W) st.2).foldl stepD (st.1, []) := by
        rw [rndD, hst]
        rfl
      have bound : ∀ ts : List DD, ts.length ≤ 100 * 7 → (ts.foldl stepD (st.1, [])).1.length ≤ 1000 ∧ (ts.foldl stepD (st.1, [])).2.length ≤ 1000 := fun ts h => by
        have := stepD_len ts (st.1, [])
        simp only [List.length_nil] at this
        omega
      refine pds_weak (δ1 := [.d (webD W), .d (listD ddD (singles W)), .dct ((kdN P w KEnc.dd dd_tup).dct (rndD (singles W) (k + 1)).1), .d (listD ddD (rndD (singles W) (k + 1)).2), .d (listD ddD (rndD (singles W) (k + 1)).2), .no, .no, .no, .no]) (less_of ⟨rfl, rfl, rfl, rfl, trivial⟩) ?_
      rw [hnext]
      refine pds_cons (δ1 := δe P w W (st.1, []) st.2 .no .no .no) (pds_new (ds := []) 4 sc_ldeeds.nd pda_nil (by decide)) (pds_cons (δ1 := δe P w W ((allT (singles W) st.2).foldl stepD (st.1, [])) st.2 .no .no .no) ?_ (pds_freeze 4 rfl (pds_one (pds_set 3 sc_ldeeds.nd (pd_var 4 rfl)))))
      have e0 : δe P w W ((allT (singles W) st.2).foldl stepD (st.1, [])) st.2 .no .no .no = (fun i => δe P w W ((allT (singles W) (st.2.take i)).foldl stepD (st.1, [])) st.2 .no .no .no) st.2.length := by
        show _ = δe P w W ((allT (singles W) (st.2.take st.2.length)).foldl stepD (st.1, [])) st.2 .no .no .no
        rw [List.take_length]
      rw [e0]
      refine pds_for (ks := [5]) (g := gName 5) st.2 ddD (fun i => δe P w W ((allT (singles W) (st.2.take i)).foldl stepD (st.1, [])) st.2 .no .no .no) (fun i s => δe P w W ((allT (singles W) (st.2.take i)).foldl stepD (st.1, [])) st.2 (.d (ddD s)) .no .no) rfl PassesOwn.never rfl
        (pid_list (pd_var 3 rfl)) (pg_name (i := 5) sc_ldeeds.nd rfl (Or.inl rfl)) (fun i s hs => tg_name (by decide)) (fun i s => by simpa using mineSub_get (i := 0) (ks := [5]) (show mineSub [5] 0 (δe P w W ((allT (singles W) (st.2.take i)).foldl stepD (st.1, [])) st.2 (.d (ddD s)) .no .no) (δe P w W ((allT (singles W) (st.2.take i)).foldl stepD (st.1, [])) st.2 .no .no .no) from ⟨rfl, by decide, rfl, by decide, trivial⟩)) (fun i s hs => ?_)
      have hsm : s ∈ st.2 := List.mem_of_getElem? hs
      have hil : i < st.2.length := (List.getElem?_eq_some_iff.mp hs).1
      have hs2 := hws s hsm
      have e1 : allT (singles W) (st.2.take (i + 1)) = allT (singles W) (st.2.take i) ++ (singles W).map (thereD s) := by
        unfold allT
        rw [take_one hs, List.flatMap_append]
        simp
      refine pds_weak (δ1 := (fun j => δe P w W ((allT (singles W) (st.2.take i) ++ ((singles W).take j).map (thereD s)).foldl stepD (st.1, [])) st.2 (.d (ddD s)) .no .no) (singles W).length) ?_ (pds_one ?_)
      · show Less _ (δe P w W ((allT (singles W) (st.2.take i) ++ ((singles W).take (singles W).length).map (thereD s)).foldl stepD (st.1, [])) st.2 (.d (ddD s)) .no .no)
        rw [List.take_length, ← e1]
        exact less_of ⟨rfl, rfl, rfl, rfl, rfl, trivial⟩
      refine pds_for (ks := [6]) (g := gName 6) (singles W) ddD (fun j => δe P w W ((allT (singles W) (st.2.take i) ++ ((singles W).take j).map (thereD s)).foldl stepD (st.1, [])) st.2 (.d (ddD s)) .no .no) (fun j d => δe P w W ((allT (singles W) (st.2.take i) ++ ((singles W).take j).map (thereD s)).foldl stepD (st.1, [])) st.2 (.d (ddD s)) (.d (ddD d)) .no) (by simp) PassesOwn.never rfl
        (pid_list (pd_var 1 rfl)) (pg_name (i := 6) sc_ldeeds.nd rfl (Or.inl rfl)) (fun j d hd => tg_name (by decide)) (fun j d => by simpa using mineSub_get (i := 0) (ks := [6]) (show mineSub [6] 0 (δe P w W ((allT (singles W) (st.2.take i) ++ ((singles W).take j).map (thereD s)).foldl stepD (st.1, [])) st.2 (.d (ddD s)) (.d (ddD d)) .no) (δe P w W ((allT (singles W) (st.2.take i) ++ ((singles W).take j).map (thereD s)).foldl stepD (st.1, [])) st.2 (.d (ddD s)) .no .no) from ⟨rfl, by decide, rfl, by decide, trivial⟩)) (fun j d hd => ?_)
      have hdm : d ∈ singles W := List.mem_of_getElem? hd
      have hjl : j < (singles W).length := (List.getElem?_eq_some_iff.mp hd).1
      have hd2 := hS' d hdm
      have e2 : (allT (singles W) (st.2.take i) ++ ((singles W).take (j + 1)).map (thereD s)).foldl stepD (st.1, []) = stepD ((allT (singles W) (st.2.take i) ++ ((singles W).take j).map (thereD s)).foldl stepD (st.1, [])) (thereD s d) := by
        rw [take_one hd, List.map_append, ← List.append_assoc, List.foldl_append]
        rfl
      rw [e2]
      have hb := bound (allT (singles W) (st.2.take i) ++ ((singles W).take j).map (thereD s)) (by
        rw [List.length_append, allT_len, List.length_map, List.length_take, List.length_take]
        have h1 : min i st.2.length = i := by omega
        have h2 : min j (singles W).length = j := by omega
        rw [h1, h2]
        have h3 : (i + 1) * (singles W).length ≤ 100 * 7 := Nat.mul_le_mul (by omega) hSl
        rw [Nat.add_mul] at h3
        omega)
      generalize (allT (singles W) (st.2.take i) ++ ((singles W).take j).map (thereD s)).foldl stepD (st.1, []) = acc at hb
      refine pds_weak (δ1 := δe P w W (stepD acc (thereD s d)) st.2 (.d (ddD s)) (.d (ddD d)) (.d (ddD (thereD s d)))) (less_of ⟨rfl, rfl, rfl, rfl, rfl, rfl, trivial⟩) (pds_cons (δ1 := δe P w W acc st.2 (.d (ddD s)) (.d (ddD d)) (.d (ddD (thereD s d)))) (pds_set 7 sc_ldeeds.nd (pd_tup (ds := [lotD (lMade d s.1), lotD (uset (s.2 ++ d.2))]) (pda_cons (pd_call hM (hr.mono (by decide)) ⟨d, s.1, by omega, by omega, rfl, rfl⟩ (pda_cons (pd_var 6 rfl) (pda_cons (pd_ix ix_tup (rd_ixT (xs := [lotD s.1, lotD s.2]) (i := 0) rfl) (pd_var 5 rfl) pd_int) pda_nil)))
        (pda_cons (pd_tuple B.tuple (pd_sortedSet (xs := s.2 ++ d.2) rfl ?_ B.sorted B.set (pd_is (pd_op op_catA (rd_catT (xs := s.2.map nD) (ys := d.2.map nD) ?_) (pd_ix ix_tup (rd_ixT (xs := [lotD s.1, lotD s.2]) (i := 1) rfl) (pd_var 5 rfl) pd_int) (pd_ix ix_tup (rd_ixT (xs := [lotD d.1, lotD d.2]) (i := 1) rfl) (pd_var 6 rfl) pd_int)) ?_) (.inr rfl))) pda_nil)) (by show 2 ≤ 1000; decide))) (pds_one (pds_if (pdt_notInN KEnc.dd dd_tup 2 (hu64 hr) rfl (pd_var 7 rfl)) (fun hm => ?_) (fun hm => ?_))))
      · rw [List.length_append]; omega
      · rw [List.length_map, List.length_map]; omega
      · unfold lotD
        rw [List.map_append]
      · have hm : memB (thereD s d) acc.1 = false := by simpa using hm
        have e3 : stepD acc (thereD s d) = (acc.1 ++ [thereD s d], acc.2 ++ [thereD s d]) := by
          unfold stepD
          rw [hm]
          rfl
        have e4 : insA acc.1 (thereD s d) = acc.1 ++ [thereD s d] := by
          unfold insA
          rw [hm]
          rfl
        rw [e3]
        refine pds_cons (δ1 := δe P w W (acc.1 ++ [thereD s d], acc.2) st.2 (.d (ddD s)) (.d (ddD d)) (.d (ddD (thereD s d)))) ?_ (pds_one (pds_append 4 rfl (pd_var 7 rfl) (by show (acc.2.map ddD).length ≤ 1000; rw [List.length_map]; exact hb.2) (by show acc.2.map ddD ++ [ddD (thereD s d)] = (acc.2 ++ [thereD s d]).map ddD; rw [List.map_append]; rfl)))
        have e5 : δe P w W (acc.1 ++ [thereD s d], acc.2) st.2 (.d (ddD s)) (.d (ddD d)) (.d (ddD (thereD s d))) = (δe P w W acc st.2 (.d (ddD s)) (.d (ddD d)) (.d (ddD (thereD s d)))).set 2 (.dct ((kdN P w KEnc.dd dd_tup).dct (insA acc.1 (thereD s d)))) := by
          rw [e4]
          rfl
        rw [e5]
        exact pds_put 2 (kdN P w KEnc.dd dd_tup) (x := .bool true) (hu64 hr) rfl (oneD_of ⟨rfl, trivial⟩) pd_bl (pd_var 7 rfl) hb.1
      · have hm : memB (thereD s d) acc.1 = true := by simpa using hm
        have e3 : stepD acc (thereD s d) = acc := by
          unfold stepD
          rw [hm]
          rfl
        rw [e3]
        exact pds_nil
    · have := (hK' (lastR W) (Nat.le_refl _)).2.1
      omega
end
end K28

set_option Elab.async false
set_option linter.all false
set_option maxRecDepth 100000
set_option maxHeartbeats 4000000
namespace K28
open PySem PySem.Spec PyProof.Rows L2

/-! ### comprehensions over what is not known for sure -/
def piN (T : Tx) (δ : List Ent) (S : List PyData → Prop) : TI := fun σ H R => ∃ Hs, At T Hs H σ δ ∧ ∀ xs J Hs' H', S xs → Grow Hs H Hs' H' → Src J xs Hs' → R J H'
def rngN (m : Nat) : List PyData → Prop := fun xs => ∃ n, n < m ∧ xs = (List.range n).map nD
/-- a list of fewer than m things, each of which p takes -/
def listN (m : Nat) (p : PyData → Prop) : PyData → Prop := fun r => ∃ rs, r = .list rs ∧ rs.length < m ∧ ∀ z ∈ rs, p z
section
variable {X : Cx} {T : Tx} {δ : List Ent} {elt tg iter a e : Expr} {scope : Scope} {own : List (Str × Nat)} {pos p0 : Pos} {g : TG} {p q : PyData → Prop} {m : Nat}
theorem pin_range (h : PE X a (tDN T δ (lessN m))) (hmm : m ≤ 1000) (hm : X.mg "range" = none) (hg : Gl X "range" := by rfl) (hs : starEach [a] X.env = [(false, eval a X.env)] := by rfl) : PI X tg (.Call (.Name "range" p0) [a] [] pos) (piN T δ (rngN m)) :=
  pi_imp (pi_range1 hg hm (pa_cons h pa_nil hs) hs) fun σ H R ⟨Hs, at_, k⟩ => ⟨Hs, at_, fun x v H1s H1 px g1 d1 => by
    obtain ⟨n, hn, rfl⟩ := px
    cases d1.intV
    refine ⟨n, rfl, by omega, by omega, ?_⟩
    have q := src_range (Hs := H1s) (lo := 0) (n := n)
    have e : (fun i : Nat => PyData.int (0 + (i : Nat))) = nD := by
      funext i
      rw [Int.zero_add]
      rfl
    rw [e] at q
    exact k _ _ H1s H1 ⟨n, hn, rfl⟩ g1 q⟩
theorem lcn_read {S : List PyData → Prop} {δx : PyData → List Ent} (hl : ∀ xs, S xs → xs.length < m) (hm : m ≤ 1000) (htg : ∀ xs, S xs → ∀ y ∈ xs, TgD g y (wipeD δ (own.map (·.2))) (δx y) (own.map (·.2))) {σ : L2.St} {H : Hp} {Q : VK} (h : tDN T δ (listN m p) σ H Q) :
    tLc (piN T δ S) g (fun σ H Q => ∃ y, tDT T (δx y) true σ H Q) (fun σ H Q => ∃ y, tDN T (δx y) p σ H Q) (own.map (·.2)) σ H Q := by
  obtain ⟨Hs, at_, k⟩ := h
  refine ⟨Hs, at_, fun xs J H1s H1 hS g1 src D hD => ?_⟩
  have hDs := g1.sub.back hD
  have at1 := at_.mono g1
  have hlx := hl xs hS
  refine ⟨fun i n H' => n = xs.length - i ∧ i ≤ xs.length ∧ ∃ His vs rs, Grow H1s H1 His H' ∧ His D = none ∧ H' D = some (.lst vs) ∧ DaAll His vs rs ∧ rs.length = i ∧ ∀ z ∈ rs, p z,
    ⟨xs.length, by simp, Nat.zero_le _, H1s, [], [], .up g1.sub (.new hD), hDs, upd_same, .nil, rfl, fun z hz => by cases hz⟩, ?_⟩
  rintro i n H2 ⟨rfl, hi, H2s, vs, rs, g2, d1, d2, d3, d4, d5⟩
  obtain ⟨sgo, sst, sy⟩ := src H2s H2 g2.base g2.sub
  by_cases hlt : i < xs.length
  · refine .inr ⟨sgo i hlt, fun H' => ∃ m', m' < xs.length - i ∧ (m' = xs.length - (i + 1) ∧ i + 1 ≤ xs.length ∧ ∃ His vs rs, Grow H1s H1 His H' ∧ His D = none ∧ H' D = some (.lst vs) ∧ DaAll His vs rs ∧ rs.length = i + 1 ∧ ∀ z ∈ rs, p z), fun H' q => q, fun v H3 y3 => ?_⟩
    obtain ⟨d, H3s, e1, g3, e3⟩ := sy i v H3 hlt y3
    have hmem : d ∈ xs := List.mem_of_getElem? e1
    have a3 := (at1.mono g2).mono g3
    refine htg xs hS d hmem H3s H3 _ v _ g3.sub (a3.env.wipe _) e3 fun σ2 env2 hs2 hl2 => ⟨wipe_same hl2 hs2, d, H3s, ⟨g3.sub, env2, a3.tabs⟩, fun H4s H4 g4 => ?_⟩
    have D4 : H4s D = none := g4.own D (g3.own D d1 (by rw [d2]; simp)) (g3.heap.isSome (by rw [d2]; simp))
    have G4 := (g2.trans g3).trans g4
    refine iteT ⟨d, H4s, ⟨g4.sub, env2.mono g4, a3.tabs.mono g4⟩, fun z w H5s H5 pz g5 e5 => ?_⟩
    have D5 : H5s D = none := g5.own D D4 (g4.heap.isSome (g3.heap.isSome (by rw [d2]; simp)))
    have G5 := G4.trans g5
    have hvl : vs.length ≤ 1000 := by rw [d3.len]; omega
    refine ⟨vs, g5.heap.lst (g4.heap.lst (g3.heap.lst d2)), by rw [sizeLine_eq]; omega, _, by omega, rfl, hlt, H5s, vs ++ [w], rs ++ [z], ⟨G5.base, G5.heap.newR hD, G5.sub.newR D5, G5.own⟩, D5, upd_same, (DaAll_mono ((g3.base.trans g4.base).trans g5.base) d3).app (.one e5), by simp [d4], fun y hy => ?_⟩
    rcases List.mem_append.mp hy with hy | hy
    · exact d5 y hy
    · rw [List.mem_singleton.mp hy]
      exact pz
  · have e : i = xs.length := by omega
    subst e
    refine .inl ⟨sst _ rfl, ?_⟩
    refine k _ (.ref D) (upd H2s D (.lst vs)) H2 ⟨rs, rfl, by omega, d5⟩ (g1.trans ⟨g2.base.newR hDs, g2.heap, fun a o q => ?_, fun q h1 h2 => ?_⟩) (.lst upd_same (DaAll_mono (.new d1) d3))
    · by_cases ha : a = D
      · subst ha
        rw [upd_same] at q
        cases q
        exact .inl d2
      · rw [upd_ne ha] at q
        exact g2.sub a o q
    · have hq : q ≠ D := fun z => h2 (by rw [z]; exact hD)
      rw [upd_ne hq]
      exact g2.own q h1 h2
/-- [elt for tg in range(..)] -/
theorem pdn_lc (S : List PyData → Prop) (δx : PyData → List Ent) (hl : ∀ xs, S xs → xs.length < m) (hm : m ≤ 1000) (hc : X.calm = true) (hN : X.N.Nodup) (hi : PI X tg iter (piN T δ S)) (ok : BlkOk X.N X.env.scope scope own)
    (hg : ∀ (s : Shared) (H : Hp) (C : Addr) (cl : List (Str × Addr)) (fp : List Addr), PG (X.blk s H scope (compEnvC scope cl C X.env) fp) tg g)
    (htg : ∀ xs, S xs → ∀ y ∈ xs, TgD g y (wipeD δ (own.map (·.2))) (δx y) (own.map (·.2)))
    (he : ∀ (s : Shared) (H : Hp) (C : Addr) (cl : List (Str × Addr)) (fp : List Addr), ∀ y, PE (X.blk s H scope (compEnvC scope cl C X.env) fp) elt (tDN T (δx y) p))
    (hs : ∀ x, foldedSetIterable iter X.env x = pure x := by intro _; rfl) : PE X (.ListComp elt [⟨tg, iter, [], 0⟩] scope pos) (tDN T δ (listN m p)) := by
  refine pe_imp (pe_lc (g := g) (own := own) (tt := fun σ H Q => ∃ y, tDT T (δx y) true σ H Q) (te := fun σ H Q => ∃ y, tDN T (δx y) p σ H Q) hc hN hi ok hg ?_ ?_ hs) fun σ H Q h => lcn_read hl hm htg h
  · intro s H C cl fp
    exact ⟨fun pins s σ H Q I ⟨y, q⟩ => pts_no.run pins s σ H Q I q⟩
  · intro s H C cl fp
    exact ⟨fun pins s σ H Q I ⟨y, q⟩ => (he _ _ _ _ _ y).run pins s σ H Q I q⟩
theorem pdn_callTy {id : String} {n : Str} {r : List V → Hp → VK → Prop} {f : PyData → PyData} (hc : CallR X (.type id) r) (hr : ∀ x, p x → RC r [x] (f x)) (hq : ∀ x, p x → q (f x)) (hm : X.mg n = none) (hv : bootBuiltins n = some (.type id)) (ha : PE X e (tDN T δ p)) (hg : Gl X n := by rfl)
    (hn : n ≠ "__name__" := by decide) (hdb : (n == ("__debug__" : Str)) = false := by decide) (he : starEach [e] X.env = (false, eval e X.env) :: starEach [] X.env := by rfl) (hpl : (backTo pos (starEach [] X.env)).any (·.1) = false := by rfl) :
    PE X (.Call (.Name n p0) [e] [] pos) (tDN T δ q) :=
  pe_imp (pe_callTy hc hg hm hv (pa_cons ha pa_nil he) hn hdb he hpl) fun σ H Q ⟨Hs, at_, k⟩ => ⟨Hs, at_, fun x v H1s H1 px g1 d1 => hr x px H1s H1 [v] Q g1.sub (.one d1) fun w H2s H2 g2 d2 => k _ w H2s H2 (hq x px) (g1.trans g2) d2⟩
def tupOf : PyData → PyData
  | .list ds => .tuple ds
  | x => x
theorem pdn_tuple (hm : X.mg "tuple" = none) (ha : PE X e (tDN T δ (listN m p))) (hq : ∀ rs, rs.length < m → (∀ z ∈ rs, p z) → q (.tuple rs)) (hg : Gl X "tuple" := by rfl) (he : starEach [e] X.env = (false, eval e X.env) :: starEach [] X.env := by rfl) : PE X (.Call (.Name "tuple" p0) [e] [] pos) (tDN T δ q) :=
  pdn_callTy (f := tupOf) call_tuple_of (fun x hx => by
    obtain ⟨rs, rfl, _, _⟩ := hx
    exact rc_tupL) (fun x hx => by
    obtain ⟨rs, rfl, h1, h2⟩ := hx
    exact hq rs h1 h2) hm boot_tuple ha hg (by decide) (by decide) he
end
theorem lessN_list {n : Nat} : ∀ {rs : List PyData}, (∀ z ∈ rs, lessN n z) → ∃ l : List Nat, rs = l.map nD ∧ ∀ o ∈ l, o < n
  | [], _ => ⟨[], rfl, fun o ho => by cases ho⟩
  | r :: rs, h => by
    obtain ⟨k, hk, rfl⟩ := h r List.mem_cons_self
    obtain ⟨l, rfl, hl⟩ := lessN_list (rs := rs) fun z hz => h z (List.mem_cons_of_mem _ hz)
    exact ⟨k :: l, rfl, fun o ho => by
      rcases List.mem_cons.mp ho with rfl | ho
      · exact hk
      · exact hl o ho⟩
section
variable {P : Program} {w : World} {K : PySem.W.Frag} {mg : Str → Option Value} {base : Heap} {T : Tx} {R : Addr}
/-! ### row -/
def preRow (R : Addr) : List PyData → Prop := fun ds => ∃ (W : Web) (most : Nat), 1 ≤ W.n ∧ W.n ≤ 100 ∧ most ≤ 100 ∧ ds = [rowD R, webD W, nD most]
def postRow : List PyData → PyData → Prop := fun ds r => ∃ (R : Addr) (W : Web) (most : Nat) (l : List Nat), ds = [rowD R, webD W, nD most] ∧ l.length ≤ most ∧ (∀ o ∈ l, o < W.n) ∧ r = lotD l
abbrev s_lrow : Stmt := top 51
def n_lrow : List Str := ["_law_row_here", "_law_web_here", "_law_most", "_law_k"]
theorem sc_lrow : FnScope n_lrow ["_law_row_here", "_law_web_here", "_law_most"] (defScope s_lrow) := ⟨rfl, rfl, rfl, by decide +kernel, rfl, by decide +kernel, by decide +kernel⟩
theorem h_lrow {f : Addr} {fd : FuncData} (F : Fun K "_law_row" "_law_row" s_lrow f fd) (hm : mg "_law_row" = some (.ref f)) (B : Bi mg) (hT : HasN P w K mg base T "_law_taken" 1 (preTaken R) postTaken) : HasN P w K mg base T "_law_row" 2 (preRow R) postRow := by
  refine fn_dataN F sc_lrow hm (F.binds fun _ _ _ _ _ _ us hl => match us, hl with | [_, _, _], _ => rfl) (fun ds h => ?_) fun cdv A outer s H E H0s H0 ds hr hR => ?_
  · obtain ⟨_, _, _, _, _, rfl⟩ := h
    rfl
  · obtain ⟨W, most, h1, h2, h3, rfl⟩ := hR
    refine pspS_ret (pdn_tuple (m := most + 1) (p := lessN W.n) (q := fun r => ∃ l : List Nat, l.length ≤ most ∧ (∀ o ∈ l, o < W.n) ∧ r = lotD l) B.tuple (pdn_lc (g := gName 3) (own := [("_law_k", 3)]) (rngN (most + 1)) (fun y => [.d (rowD R), .d (webD W), .d (nD most), .d y]) (fun xs hx => ?_) (by omega) rfl sc_lrow.nd
      (pin_range (pdn_taken hT hr (by omega) (by omega) (pda_cons (pd_var 0 rfl) (pda_cons (pd_is (pd_op op_add rd_II (pd_var 2 rfl) pd_int) ?_) pda_nil))) (by omega) B.range) (blkOk_by (N := n_lrow) (sc := defScope s_lrow) (by decide +kernel)) (fun _ _ _ _ _ => pg_name (i := 3) sc_lrow.nd rfl (Or.inl rfl)) (fun _ _ y _ => tg_name (by decide))
      (fun _ _ _ _ _ y => pdn_taken hT hr h1 (by omega) (pda_cons (pd_var 0 rfl) (pda_cons (pd_web0 (pd_var 1 rfl)) pda_nil)))) fun rs hl hz => ?_) fun r h => ?_
    · obtain ⟨n, hn, rfl⟩ := hx
      rw [List.length_map, List.length_range]
      exact hn
    · show PyData.int ((most : Int) + 1) = .int ((most + 1 : Nat) : Int)
      rw [Int.natCast_add]
      rfl
    · obtain ⟨l, rfl, hl2⟩ := lessN_list hz
      rw [List.length_map] at hl
      exact ⟨l, by omega, hl2, rfl⟩
    · obtain ⟨l, a, b, rfl⟩ := h
      exact ⟨R, W, most, l, rfl, a, b, rfl⟩
end
end K28

set_option Elab.async false
set_option linter.all false
set_option maxRecDepth 100000
set_option maxHeartbeats 4000000
namespace K28
/-! ### all webs -/
def subs {α : Type} : List α → List (List α)
  | [] => [[]]
  | x :: xs => subs xs ++ (subs xs).map (x :: ·)
theorem subs_mem {α : Type} : ∀ {xs l : List α}, l.Sublist xs → l ∈ subs xs
  | [], _, .slnil => List.mem_singleton.mpr rfl
  | x :: xs, l, .cons _ h => List.mem_append_left _ (subs_mem h)
  | x :: xs, _, .cons_cons _ h => List.mem_append_right _ (List.mem_map.mpr ⟨_, subs_mem h, rfl⟩)
def websN (n : Nat) : List Web := (subs (pairsTo n n)).map (Web.mk n)
theorem websN_mem {most : Nat} {W : Web} (h : isWeb most W) : W ∈ websN W.n := List.mem_map.mpr ⟨W.ps, subs_mem h.2.2, rfl⟩
/-- what is asked of a web of at most four -/
def chk4 (W : Web) : Bool := webOk W && decide (W.ps.length ≤ 20) && chkD W && decide (lGaths W = gaths W) && decide (allDeeds W = lDeeds W) && decide ((gaths W).length ≤ 16) && !(gaths W).isEmpty && decide ((lDeeds W).length ≤ 60) && (gaths W).all (fun g => decide (g.length ≤ 20)) && (lDeeds W).all smallD
theorem chk_1 : (websN 1).all chk4 = true := by decide +kernel
theorem chk_2 : (websN 2).all chk4 = true := by decide +kernel
theorem chk_3 : (websN 3).all chk4 = true := by decide +kernel
theorem chk_4 : (websN 4).all chk4 = true := by decide +kernel
end K28

set_option Elab.async false
set_option linter.all false
set_option maxRecDepth 100000
set_option maxHeartbeats 4000000
namespace K28
/-! ### least telling -/
def bitOn (code k : Nat) : Bool := decide (code / 2 ^ k % 2 = 1)
def lotsAt (sm : List (List Nat)) (code : Nat) : List (List Nat) := ((List.range sm.length).filter (bitOn code)).map fun k => sm.getD k []
def toldL (l : List (List Nat)) (d : DD) : List (List Nat) := l.map (lMade d)
def lTells (ds : List DD) (l : List (List Nat)) : Bool := decide ((ddp (ds.map (toldL l))).length = ds.length)
def stepL (sm : List (List Nat)) (ds : List DD) (acc : Option Nat) (code : Nat) : Option Nat :=
  if (lTells ds (lotsAt sm code) && (match acc with | none => true | some m => decide ((lotsAt sm code).length < m))) = true then some (lotsAt sm code).length else acc
def lLeastK (W : Web) (k : Nat) : Option Nat := (List.range k).foldl (stepL (lGaths W) (lDeeds W)) none
def lLeast (W : Web) : Option Nat := lLeastK W (2 ^ (lGaths W).length)
def chk3 (W : Web) : Bool := match lLeast W with
  | none => false
  | some n => decide (n ≤ 100) && telK W n && (List.range n).all fun k => !telK W k
theorem least_1 : (websN 1).all chk3 = true := by decide +kernel
theorem least_2 : (websN 2).all chk3 = true := by decide +kernel
theorem least_3 : (websN 3).all chk3 = true := by decide +kernel
end K28

set_option Elab.async false
set_option linter.all false
set_option maxRecDepth 100000
set_option maxHeartbeats 4000000
namespace K28
/-! ### the plain law -/
theorem isort_congr {α : Type} [DecidableEq α] {lt : α → α → Bool} (h : Lin lt) {xs ys : List α} (p : xs.Perm ys) : isort lt xs = isort lt ys :=
  sorted_uniq h (isort_sorted h xs) (isort_sorted h ys) (((isort_perm xs).trans p).trans (isort_perm ys).symm)
theorem made_eq (d : DD) (g : List Nat) : made d g = lMade d g := isort_congr lin_N List.perm_append_comm
theorem ddp_perm {α : Type} [DecidableEq α] {xs ys : List α} (p : xs.Perm ys) : (ddp xs).length = (ddp ys).length := by
  refine List.Perm.length_eq ((List.perm_ext_iff_of_nodup (ddp_nd List.nodup_nil) (ddp_nd List.nodup_nil)).mpr fun a => ?_)
  rw [ddp_mem, ddp_mem, p.mem_iff]
theorem told_eq (l : List (List Nat)) (d : DD) : toldBy l d = toldL l d := List.map_congr_left fun g _ => made_eq d g
theorem tells_eq (ds : List DD) (l : List (List Nat)) : tells ds l = lTells ds l := by
  unfold tells lTells
  rw [List.map_congr_left fun d _ => told_eq l d]
theorem foes_iff {W : Web} (h : ∀ q ∈ W.ps, q.1 < q.2) (o p : Nat) : areFoes W o p = memB o (lFoes W p) := by
  have e1 : areFoes W o p = true ↔ (min o p, max o p) ∈ W.ps := memB_iff
  have e2 : memB o (lFoes W p) = true ↔ (p, o) ∈ W.ps ∨ (o, p) ∈ W.ps := by
    rw [memB_iff]
    unfold lFoes
    rw [(isort_perm _).mem_iff, List.mem_flatMap]
    constructor
    · rintro ⟨q, hq, hm⟩
      unfold lfAt at hm
      rcases List.mem_append.mp hm with hm | hm
      · split at hm
        · next c =>
          have c := of_decide_eq_true c
          have := List.mem_singleton.mp hm
          exact .inl (by rw [← c, this]; exact hq)
        · cases hm
      · split at hm
        · next c =>
          have c := of_decide_eq_true c
          have := List.mem_singleton.mp hm
          exact .inr (by rw [← c, this]; exact hq)
        · cases hm
    · rintro (hq | hq)
      · exact ⟨(p, o), hq, by simp [lfAt]⟩
      · exact ⟨(o, p), hq, by simp [lfAt]⟩
  have e3 : (min o p, max o p) ∈ W.ps ↔ (p, o) ∈ W.ps ∨ (o, p) ∈ W.ps := by
    rcases Nat.lt_trichotomy o p with c | c | c
    · rw [Nat.min_eq_left (by omega), Nat.max_eq_right (by omega)]
      exact ⟨.inr, fun z => z.elim (fun z => absurd (h _ z) (by simp only; omega)) id⟩
    · subst c
      rw [Nat.min_self, Nat.max_self]
      exact ⟨.inl, fun z => z.elim id id⟩
    · rw [Nat.min_eq_right (by omega), Nat.max_eq_left (by omega)]
      exact ⟨.inl, fun z => z.elim id (fun z => absurd (h _ z) (by simp only; omega))⟩
  cases c1 : areFoes W o p <;> cases c2 : memB o (lFoes W p) <;> simp_all
theorem came_eq {W : Web} (h : ∀ q ∈ W.ps, q.1 < q.2) (g : List Nat) (p : Nat) : came W g p = lCome W g p := by
  unfold came lCome
  congr 3
  funext o
  rw [foes_iff h]
theorem st_eq {W : Web} (h : ∀ q ∈ W.ps, q.1 < q.2) (g row : List Nat) : ∀ k, st W g row k = lDoneK W g row k
  | 0 => rfl
  | k + 1 => by rw [st, lDoneK, st_eq h g row k, came_eq h]
theorem ends_eq {W : Web} (h : ∀ q ∈ W.ps, q.1 < q.2) (hg : lGaths W = gaths W) (row : List Nat) : endsL W row = (lGaths W).map fun g => lDone W g row := by
  unfold endsL
  rw [hg]
  exact List.map_congr_left fun g _ => st_eq h g row row.length
/-- what the checks say -/
structure Good (W : Web) : Prop where
  web : webOk W = true
  ps : W.ps.length ≤ 20
  deeds : chkD W = true
  gath : lGaths W = gaths W
  all : allDeeds W = lDeeds W
  glen : (gaths W).length ≤ 16
  gne : 1 ≤ (gaths W).length
  dlen : (lDeeds W).length ≤ 60
  gsm : ∀ g ∈ gaths W, g.length ≤ 20
  dsm : ∀ d ∈ lDeeds W, d.1.length ≤ 20 ∧ d.2.length ≤ 20
theorem good_of {W : Web} (h : chk4 W = true) : Good W := by
  unfold chk4 at h
  simp only [Bool.and_eq_true, decide_eq_true_eq, Bool.not_eq_true', List.all_eq_true, smallD] at h
  obtain ⟨⟨⟨⟨⟨⟨⟨⟨⟨h1, h2⟩, h3⟩, h4⟩, h5⟩, h6⟩, h7⟩, h8⟩, h9⟩, h10⟩ := h
  refine ⟨h1, h2, h3, h4, h5, h6, ?_, h8, h9, h10⟩
  cases e : gaths W with
  | nil => rw [e] at h7; cases h7
  | cons g r => simp
theorem good4 {W : Web} (h : isWeb 4 W) : Good W := by
  have hm := websN_mem h
  obtain ⟨h1, h2, _⟩ := h
  have e : W.n = 1 ∨ W.n = 2 ∨ W.n = 3 ∨ W.n = 4 := by omega
  refine good_of ?_
  rcases e with e | e | e | e <;> rw [e] at hm
  · exact List.all_eq_true.mp chk_1 W hm
  · exact List.all_eq_true.mp chk_2 W hm
  · exact List.all_eq_true.mp chk_3 W hm
  · exact List.all_eq_true.mp chk_4 W hm
theorem least_ok {W : Web} (h : isWeb 3 W) : ∃ n, lLeast W = some n ∧ n ≤ 100 ∧ telK W n = true ∧ ∀ k, k < n → telK W k = false := by
  have hm := websN_mem h
  obtain ⟨h1, h2, _⟩ := h
  have e : W.n = 1 ∨ W.n = 2 ∨ W.n = 3 := by omega
  have hc : chk3 W = true := by
    rcases e with e | e | e <;> rw [e] at hm
    · exact List.all_eq_true.mp least_1 W hm
    · exact List.all_eq_true.mp least_2 W hm
    · exact List.all_eq_true.mp least_3 W hm
  unfold chk3 at hc
  split at hc
  · cases hc
  · next n e =>
    simp only [Bool.and_eq_true, decide_eq_true_eq, List.all_eq_true, List.mem_range, Bool.not_eq_true'] at hc
    exact ⟨n, e, hc.1.1, hc.1.2, hc.2⟩
theorem web_up {W : Web} (h : isWeb 3 W) : isWeb 4 W := ⟨h.1, by have := h.2.1; omega, h.2.2⟩
end K28

set_option Elab.async false
set_option linter.all false
set_option maxRecDepth 100000
set_option maxHeartbeats 4000000
namespace K28
open PySem PySem.Spec PyProof.Rows L2

section
variable {X : Cx} {T : Tx} {H0s H0 : Hp} {δ δ1 : List Ent} {st : Stmt} {rest sts : List Stmt} {ON : List Ent → Prop} {OR : PyData → Prop} {a b : Expr} {p : PyData → Prop} {y : PyData} {pos : Pos}
theorem psp_det (h1 : PS X st (tS T H0s H0 δ (.nx δ1))) (h2 : PSs X rest (tSP T H0s H0 δ1 ON OR)) : PSs X (st :: rest) (tSP T H0s H0 δ ON OR) := psp_cons (I := fun δ' => δ' = δ1) (psp_nx h1 rfl) fun δ' e => e ▸ h2
theorem pspS_less (l : Less δ1 δ) (h : PSs X sts (tSP T H0s H0 δ1 ON OR)) : PSs X sts (tSP T H0s H0 δ ON OR) := pss_imp h fun D σ H ⟨Hs, b, k⟩ => ⟨Hs, b.less l, k⟩
/-- a, b = x, y: x not known for sure -/
theorem psp_par (i j : Nat) {s t : Str} {px py pt pt2 : Pos} {kt k2 : Nat} (hc : X.calm = true) (hN : X.N.Nodup) (ha : PE X a (tDN T δ p)) (hb : PE X b (tD T δ y)) (hp : ∀ x, p x → ON ((δ.set i (.d x)).set j (.d y))) (hij : i ≠ j := by decide) (hi : X.N[i]? = some s := by rfl) (hj : X.N[j]? = some t := by rfl)
    (hx : X.env.scope.names.lookup s = some .local := by rfl) (hy : X.env.scope.names.lookup t = some .local := by rfl) (he : starEach [a, b] X.env = (false, eval a X.env) :: starEach [b] X.env := by rfl) (he2 : starEach [b] X.env = (false, eval b X.env) :: starEach [] X.env := by rfl)
    (hw : swappedStores [.Tuple [.Name s px, .Name t py] kt pt] (.Tuple [a, b] k2 pt2) X.env = pure (some [s, t]) := by rfl)
    (hs : swapsWithSole [.Tuple [.Name s px, .Name t py] kt pt] (.Tuple [a, b] k2 pt2) pos.line X.env = pure false := by rfl) :
    PS X (.Assign [.Tuple [.Name s px, .Name t py] kt pt] (.Tuple [a, b] k2 pt2) pos) (tSP T H0s H0 δ ON OR) :=
  ps_imp (ps_par hc hN hi hj hij hx hy (pa_cons ha (pa_cons hb pa_nil he2) he) hw hs) fun D σ H ⟨Hs, b, k, _⟩ => ⟨Hs, b.at, fun x v Hs' H' px g d => ⟨Hs', b.at.mono g, fun v2 H2s H2 g2 d2 =>
    ⟨_, _, rfl, k _ _ H2s H2 (hp x px) (g.base.trans g2.base) ((((b.mono g).mono g2).set (Da_mono g2.base d)).set d2)⟩⟩⟩
end
theorem pss_hide {X : Cx} {sts : List Stmt} {t : TS} {S : Addr} (h : PSs X sts t) : PSs X sts (fun D σ H => ∃ R i x y, 0 ≤ i ∧ H R = some (rowL S i x y) ∧ t D σ (upd H R (.ext (RowP R S)))) :=
  ⟨fun pins s σ H D I ⟨R, i, x, y, hi, hR, q⟩ => h.run pins s σ _ D (row_back I hi hR) q⟩
section
variable {P : Program} {w : World} {K : PySem.W.Frag} {mg : Str → Option Value} {base : Heap}
/-- what the law leans on -/
structure LawF (P : Program) (w : World) (K : PySem.W.Frag) (mg : Str → Option Value) (base : Heap) (T : Tx) (R : Addr) : Prop where
  taken : HasN P w K mg base T "_law_taken" 1 (preTaken R) postTaken
  pick : HasN P w K mg base T "_law_pick" 2 (prePick R) postPick
  alike0 : Has P w K mg base T "_law_alike" 1 rAlike0
  alikeT : Has P w K mg base T "_law_alike" 2 rAlikeT
  web : HasN P w K mg base T "_law_web" 2 (preWeb R) postWeb
  done : Has P w K mg base T "_law_done" 3 rLdone
  gath : Has P w K mg base T "_law_gatherings" 2 rLgath
  row : HasN P w K mg base T "_law_row" 2 (preRow R) postRow
  made : Has P w K mg base T "_law_made" 1 rLmade
  deeds : Has P w K mg base T "_law_deeds" 3 rLdeeds
  times : Has P w K mg base T "_law_times" 1 rLtimes
  tellsA : Has P w K mg base T "tells_all" 7 rTells_all
  sizes : Has P w K mg base T "deed_sizes" 7 rSizes
  merged : Has P w K mg base T "merged" 6 rMerged
  least : Has P w K mg base T "least_telling" 7 rLeast
abbrev s_law : Stmt := top 56
def n_law : List Str := ["_law_script", "_law_row_here", "_law_web_here", "_law_some", "_law_deeds_here", "_law_k", "_law_lots_here", "_law_told", "_law_sizes", "_law_comers", "_law_pairs", "_law_j", "_law_small", "_law_least", "_law_code", "_law_one", "_law_each"]
theorem sc_law : FnScope n_law ["_law_script"] (defScope s_law) := ⟨rfl, rfl, rfl, by decide +kernel, rfl, by decide +kernel, by decide +kernel⟩
def asgE (st : Stmt) : Expr := match st with
  | .Assign _ e _ => e
  | _ => .Constant .none 0 ⟨0, 0, 0, 0⟩
def lcIn (e : Expr) : Scope := match e with
  | .Call _ [.ListComp _ _ sc _] _ _ => sc
  | .ListComp _ _ sc _ => sc
  | _ => defScope s_law
def forB (st : Stmt) : List Stmt := match st with
  | .For _ _ b _ _ => b
  | _ => []
def psS : Stmt := .Pass ⟨0, 0, 0, 0⟩
theorem sok_told (ds : List DD) (l : List (List Nat)) : SortOk ((ds.map (toldL l)).map (tupD lotD)) := by
  cases l with
  | nil =>
    cases ds with
    | nil => exact sok_dd []
    | cons d ds =>
      exact .inr ⟨(ds.map (toldL [])).map (tupD lotD), rfl, fun x hx => by
        obtain ⟨y, _, rfl⟩ := List.mem_map.mp hx
        exact ⟨_, rfl⟩⟩
  | cons g l =>
    rw [List.map_map]
    exact .inl (.tuples fun d => ⟨lotD (lMade d g), (l.map (lMade d)).map lotD, rfl⟩)
/-! ### the second half: the least number -/
def δ2 (R : Addr) (sm : Web) (k lots told least code : Ent) : List Ent := [.no, .d (rowD R), .no, .d (listD lotD (lGaths sm)), .d (listD ddD (lDeeds sm)), k, lots, told, .no, .no, .no, .no, .d (webD sm), least, code, .no, .no]
def optD : Option Nat → PyData
  | none => .none
  | some n => nD n
theorem bit_int (code k : Nat) : decide (((code : Nat) : Int) / ((2 ^ k : Nat) : Int) % 2 = 1) = bitOn code k := by
  unfold bitOn
  rw [decide_eq_decide, ← Int.natCast_ediv]
  omega
theorem second {f : Addr} {cdv : Value} {A : Around} {outer : List Env} {s : Shared} {H : Hp} {E : XK} {H0s H0 : Hp} {T : Tx} {R : Addr} (B : Bi mg) (L : LawF P w K mg base T R) (hr : Room 7 (A.deeper (envOfC "law" (defScope s_law) s.heap.objs.size f cdv))) :
    PSs (BX P w K mg base n_law "law" s_law f cdv A outer s H E) ((defBody s_law).drop 11) (tSP T H0s H0 [.no, .d (rowD R), .no, .no, .no, .no, .no, .no, .no, .no, .no, .no, .no, .no, .no, .no, .no] (fun _ => False) (fun r => r = .bool true)) := by
  refine psp_cons (I := fun δ' => ∃ W, isWeb 3 W ∧ δ' = [.no, .d (rowD R), .no, .no, .no, .no, .no, .no, .no, .no, .no, .no, .d (webD W), .no, .no, .no, .no]) (psp_set 12 (p := fun r => ∃ W, isWeb 3 W ∧ r = webD W) sc_law.nd (pdn_call L.web (hr.mono (by decide)) ⟨3, by decide, by decide, rfl⟩ (fun r h => ?_) (pda_cons (pd_var 1 rfl) (pda_cons (pd_int (i := 3)) pda_nil))) fun x hx => ?_) fun δ' hδ => ?_
  · obtain ⟨R', m, W, e, hW, rfl⟩ := h
    have e3 : m = 3 := by
      injection e with _ e
      injection e with e _
      exact (nD_inj (a := 3) e).symm
    subst e3
    exact ⟨W, hW, rfl⟩
  · obtain ⟨W, hW, rfl⟩ := hx
    exact ⟨W, hW, rfl⟩
  obtain ⟨W, hW, rfl⟩ := hδ
  have G := good4 (web_up hW)
  have hn3 : W.n ≤ 3 := hW.2.1
  have hgl : (lGaths W).length ≤ 8 := by
    rw [G.gath]
    have h2 := gaths_len W
    have h3 := Nat.pow_le_pow_right (show 0 < 2 by decide) hn3
    have : (2 : Nat) ^ 3 = 8 := by decide
    omega
  obtain ⟨n, hn, hn100, ht, hf⟩ := least_ok hW
  have hgs : ∀ g ∈ lGaths W, g.length ≤ 20 := fun g hg => G.gsm g (G.gath ▸ hg)
  refine psp_det (δ1 := δ2 R W .no .no .no (.d (optD (lLeastK W 0))) .no) (pds_asg (ks := [3, 4, 13]) (x := .tuple [listD lotD (lGaths W), listD ddD (lDeeds W), .none]) (pd_tup (pda_cons (pd_call L.gath (hr.mono (by decide)) ⟨W, by omega, by have := G.ps; omega, rfl, rfl⟩ (pda_cons (pd_var 12 rfl) pda_nil)) (pda_cons (pd_call L.deeds (hr.mono (by decide)) ⟨W, by omega, G.ps, G.deeds, rfl, rfl⟩ (pda_cons (pd_var 12 rfl) pda_nil)) (pda_cons pd_non pda_nil))) (by show 3 ≤ 1000; decide))
      (pg_tup rfl (pgs_cons (pg_name (i := 3) sc_law.nd rfl (Or.inr rfl)) (pgs_cons (pg_name (i := 4) sc_law.nd rfl (Or.inl rfl)) (pgs_cons (pg_name (i := 13) sc_law.nd rfl (Or.inl rfl)) pgs_nil)))) (tg_three (by decide) (by decide) (by decide)) (ownFree_mine (by trivial))) ?_
  refine psp_det (δ1 := δ2 R W .no .no .no (.d (optD (lLeast W))) .no) ?_ ?_
  · have hpw : 2 ^ (lGaths W).length ≤ 256 := Nat.pow_le_pow_right (show 0 < 2 by decide) hgl
    refine pds_forN (ks := [14]) (g := gName 14) (2 ^ (lGaths W).length) (fun c => δ2 R W .no .no .no (.d (optD (lLeastK W c))) .no) (fun c => δ2 R W .no .no .no (.d (optD (lLeastK W c))) (.d (nD c))) rfl rfl PassesOwn.never rfl
      (pid_range (n := 2 ^ (lGaths W).length) (pda_cons (pd_call L.times (hr.mono (by decide)) ⟨(lGaths W).length, by omega, rfl, rfl⟩ (pda_cons (pd_int (i := 2)) (pda_cons (pd_lenL B.len (pd_var 3 rfl)) pda_nil))) pda_nil) (by omega) B.range) (pg_name (i := 14) sc_law.nd rfl (Or.inr rfl)) (fun c => trivial) (fun c => tg_name (by decide)) (fun c hc => ?_)
    have hlen : (lotsAt (lGaths W) c).length ≤ 8 := by
      unfold lotsAt
      rw [List.length_map]
      have := List.length_filter_le (bitOn c) (List.range (lGaths W).length)
      rw [List.length_range] at this
      omega
    have hlot : ∀ g ∈ lotsAt (lGaths W) c, g.length ≤ 20 := fun g hg => by
      unfold lotsAt at hg
      obtain ⟨k, hk, rfl⟩ := List.mem_map.mp hg
      have hk := List.mem_range.mp (List.mem_filter.mp hk).1
      rw [List.getD_eq_getElem?_getD, List.getElem?_eq_getElem hk]
      exact hgs _ (List.getElem_mem hk)
    have hnext : lLeastK W (c + 1) = stepL (lGaths W) (lDeeds W) (lLeastK W c) c := by
      unfold lLeastK
      rw [List.range_succ, List.foldl_append]
      rfl
    generalize hl : lotsAt (lGaths W) c = l at hlen hlot
    refine pds_weak (δ1 := δ2 R W .no (.d (listD lotD l)) (.d (listD (tupD lotD) ((lDeeds W).map (toldL l)))) (.d (optD (lLeastK W (c + 1)))) (.d (nD c))) (less_of ⟨rfl, rfl, rfl, rfl, rfl, trivial⟩) ?_
    refine pds_cons (δ1 := δ2 R W .no (.d (listD lotD l)) .no (.d (optD (lLeastK W c))) (.d (nD c))) (pds_set 6 sc_law.nd (pd_is (pd_lc (own := [("_law_k", 5)]) (List.range (lGaths W).length) nD (fun k => δ2 R W (.d (nD k)) .no .no (.d (optD (lLeastK W c))) (.d (nD c))) (bitOn c) (fun k => lotD ((lGaths W).getD k [])) rfl sc_law.nd
      (pid_range (n := (lGaths W).length) (pda_cons (pd_lenL B.len (pd_var 3 rfl)) pda_nil) (by omega) B.range) (by rw [List.length_range]; omega) (blkOk_by (N := n_law) (sc := defScope s_law) (by decide +kernel)) (fun _ _ _ _ _ => pg_name (i := 5) sc_law.nd rfl (Or.inl rfl)) (fun y _ => tg_name (by decide))
      (fun _ _ _ _ _ k hk => pts_one (pdt_is (pdt_cmp op_eq rd_eqI (pd_op op_mod (rd_IC (by decide)) (pd_op op_fdiv (rd_IC ?_) (pd_var 14 rfl) (pd_call L.times (hr.mono (by decide)) ⟨k, ?_, rfl, rfl⟩ (pda_cons (pd_int (i := 2)) (pda_cons (pd_var 5 rfl) pda_nil)))) pd_int) pd_int (by rfl)) (bit_int c k)))
      (fun _ _ _ _ _ k hk _ => pd_ix ix_list (rd_ixL (ix_nat (e := lotD) (xs := lGaths W) ?_)) (pd_var 3 rfl) (pd_var 5 rfl))) ?_)) ?_
    · have hk := List.mem_range.mp hk
      have h1 : 0 < 2 ^ k := Nat.pow_pos (by decide)
      have h2 : 2 ^ k ≤ 256 := Nat.pow_le_pow_right (show 0 < 2 by decide) (show k ≤ 8 by omega)
      exact ⟨by omega, by omega⟩
    · have hk := List.mem_range.mp hk
      omega
    · have hk := List.mem_range.mp hk
      rw [List.getD_eq_getElem?_getD, List.getElem?_eq_getElem hk]
      rfl
    · rw [← hl]
      unfold lotsAt listD
      rw [List.map_map]
      rfl
    have e7 : (listD (tupD lotD) ((lDeeds W).map (toldL l))) = .list (((lDeeds W).filter fun _ => true).map fun d => tupD lotD (toldL l d)) := by
      rw [filt_all]
      unfold listD
      rw [List.map_map]
      rfl
    refine pds_cons (δ1 := δ2 R W .no (.d (listD lotD l)) (.d (.list (((lDeeds W).filter fun _ => true).map fun d => tupD lotD (toldL l d)))) (.d (optD (lLeastK W c))) (.d (nD c))) (pds_lc 7 (own := [("_law_one", 15)]) (lDeeds W) ddD (fun d => (δ2 R W .no (.d (listD lotD l)) .no (.d (optD (lLeastK W c))) (.d (nD c))).set 15 (.d (ddD d))) (fun _ => true) (fun d => tupD lotD (toldL l d)) rfl sc_law.nd (pid_list (pd_var 4 rfl)) (by have := G.dlen; omega)
      (blkOk_by (N := n_law) (sc := defScope s_law) (by decide +kernel)) (fun _ _ _ _ _ => pg_name (i := 15) sc_law.nd rfl (Or.inr rfl)) (fun y _ => tg_name (by decide)) (fun _ _ _ _ _ _ _ => pts_no)
      (fun _ _ _ _ _ d hd _ => pd_is (pd_tuple B.tuple (pd_lc (own := [("_law_each", 16)]) l lotD (fun g => ((δ2 R W .no (.d (listD lotD l)) .no (.d (optD (lLeastK W c))) (.d (nD c))).set 15 (.d (ddD d))).set 16 (.d (lotD g))) (fun _ => true) (fun g => lotD (lMade d g)) rfl sc_law.nd (pid_list (pd_var 6 rfl)) (by omega)
        (blkOk_by (N := n_law) (sc := cellsOf (lcIn (asgE ((forB ((defBody s_law).getD 13 psS)).getD 1 psS)))) (by decide +kernel)) (fun _ _ _ _ _ => pg_name (i := 16) sc_law.nd rfl (Or.inl rfl)) (fun y _ => tg_name (by decide)) (fun _ _ _ _ _ _ _ => pts_no)
        (fun _ _ _ _ _ g hg _ => pd_call L.made (hr.mono (by decide)) ⟨d, g, by have := (G.dsm d hd).1; omega, by have := hlot g hg; omega, rfl, rfl⟩ (pda_cons (pd_var 15 rfl) (pda_cons (pd_var 16 rfl) pda_nil))))) (by rw [filt_all]; show PyData.tuple _ = tupD lotD (toldL l d); unfold tupD toldL; rw [List.map_map]; rfl))) ?_
    rw [← e7]
    have hdl := ddp_len ((lDeeds W).map (toldL l))
    rw [List.length_map] at hdl
    have hst : lLeastK W (c + 1) = if (lTells (lDeeds W) l && (match lLeastK W c with | none => true | some m => decide (l.length < m))) = true then some l.length else lLeastK W c := by
      rw [hnext]
      unfold stepL
      rw [hl]
      try (cases lLeastK W c <;> rfl)
    have htest : PT (BX P w K mg base n_law "law" s_law f cdv A outer s H E) (match (forB ((defBody s_law).getD 13 psS)).getD 2 psS with | .If t _ _ _ => t | _ => .Constant .none 0 ⟨0, 0, 0, 0⟩) (tDT T (δ2 R W .no (.d (listD lotD l)) (.d (listD (tupD lotD) ((lDeeds W).map (toldL l)))) (.d (optD (lLeastK W c))) (.d (nD c))) (lTells (lDeeds W) l && (match lLeastK W c with | none => true | some m => decide (l.length < m)))) := by
      have hand : ∀ {k2 : Bool}, PT (BX P w K mg base n_law "law" s_law f cdv A outer s H E) (match (forB ((defBody s_law).getD 13 psS)).getD 2 psS with | .If (.BoolOp _ [_, t] _) _ _ _ => t | _ => .Constant .none 0 ⟨0, 0, 0, 0⟩) (tDT T (δ2 R W .no (.d (listD lotD l)) (.d (listD (tupD lotD) ((lDeeds W).map (toldL l)))) (.d (optD (lLeastK W c))) (.d (nD c))) k2) →
          PT (BX P w K mg base n_law "law" s_law f cdv A outer s H E) (match (forB ((defBody s_law).getD 13 psS)).getD 2 psS with | .If t _ _ _ => t | _ => .Constant .none 0 ⟨0, 0, 0, 0⟩) (tDT T (δ2 R W .no (.d (listD lotD l)) (.d (listD (tupD lotD) ((lDeeds W).map (toldL l)))) (.d (optD (lLeastK W c))) (.d (nD c))) (lTells (lDeeds W) l && k2)) := fun h2 =>
        pdt_is (PW.pt (pdw_and (pdt_cmp op_eq rd_eqN (pd_lenSet KEnc.told lot_tup ((lDeeds W).map (toldL l)) rfl (hu64 hr) (by rw [List.length_map]; have := G.dlen; omega) B.len B.set (pd_var 7 rfl)) (pd_lenL B.len (pd_var 4 rfl)) (by rfl)) fun _ => pdw_one h2)) rfl
      refine hand ?_
      cases hk : lLeastK W c with
      | none => exact pdt_is (PW.pt (pdw_or (l := false) (pdt_isNone (b := true) (pd_var 13 (x := .none) rfl) rfl) fun z => by cases z)) rfl
      | some m => exact pdt_is (PW.pt (pdw_or (pdt_isNone (b := false) (pd_var 13 (x := nD m) rfl) rfl) fun _ => pdw_one (pdt_cmp op_lt rd_IB (pd_lenL B.len (pd_var 6 rfl)) (pd_var 13 (x := nD m) rfl) (by rfl)))) (by rw [Bool.false_or, decide_eq_decide]; omega)
    cases hb : (lTells (lDeeds W) l && (match lLeastK W c with | none => true | some m => decide (l.length < m))) with
    | true =>
      rw [hb] at hst htest
      rw [hst]
      exact pds_one (pds_ifT htest (pds_one (pds_set 13 sc_law.nd (pd_lenL B.len (pd_var 6 rfl)))))
    | false =>
      rw [hb] at hst htest
      rw [hst]
      exact pds_one (pds_ifF htest pds_nil)
  · rw [hn]
    exact pspS_rt (pds_one (pds_ret (pd_call L.alike0 (hr.mono (by decide)) ⟨.inl ⟨n, rfl⟩, rfl⟩ (pda_cons (pd_call L.least hr ⟨W, n, G.web, hn3, hn100, ht, hf, rfl, rfl⟩ (pda_cons (pd_var 12 rfl) pda_nil)) (pda_cons (pd_var 13 rfl) pda_nil))))) rfl
end
end K28

set_option Elab.async false
set_option linter.all false
set_option maxRecDepth 100000
set_option maxHeartbeats 4000000
namespace K28
open PySem PySem.Spec PyProof.Rows L2
section
variable {P : Program} {w : World} {K : PySem.W.Frag} {mg : Str → Option Value} {base : Heap}
def δ1 (R : Addr) (W : Web) (k lots told sizes comers pairs j : Ent) : List Ent := [.no, .d (rowD R), .d (webD W), .d (listD lotD (lGaths W)), .d (listD ddD (lDeeds W)), k, lots, told, sizes, comers, pairs, j, .no, .no, .no, .no, .no]
theorem lots_of {G : List (List Nat)} : ∀ {rs : List PyData}, (∀ z ∈ rs, ∃ g, g ∈ G ∧ z = lotD g) → ∃ l : List (List Nat), rs = l.map lotD ∧ ∀ g ∈ l, g ∈ G
  | [], _ => ⟨[], rfl, fun g hg => by cases hg⟩
  | r :: rs, h => by
    obtain ⟨g, hg, rfl⟩ := h r List.mem_cons_self
    obtain ⟨l, rfl, hl⟩ := lots_of (rs := rs) fun z hz => h z (List.mem_cons_of_mem _ hz)
    exact ⟨g :: l, rfl, fun x hx => by
      rcases List.mem_cons.mp hx with rfl | hx
      · exact hg
      · exact hl x hx⟩
theorem first {f : Addr} {cdv : Value} {A : Around} {outer : List Env} {s : Shared} {H : Hp} {E : XK} {H0s H0 : Hp} {T : Tx} {R : Addr} (B : Bi mg) (L : LawF P w K mg base T R) (hr : Room 7 (A.deeper (envOfC "law" (defScope s_law) s.heap.objs.size f cdv))) :
    PSs (BX P w K mg base n_law "law" s_law f cdv A outer s H E) ((defBody s_law).drop 1) (tSP T H0s H0 [.no, .d (rowD R), .no, .no, .no, .no, .no, .no, .no, .no, .no, .no, .no, .no, .no, .no, .no] (fun _ => False) (fun r => r = .bool true)) := by
  refine psp_cons (I := fun δ' => ∃ W, isWeb 4 W ∧ δ' = [.no, .d (rowD R), .d (webD W), .no, .no, .no, .no, .no, .no, .no, .no, .no, .no, .no, .no, .no, .no]) (psp_set 2 (p := fun r => ∃ W, isWeb 4 W ∧ r = webD W) sc_law.nd (pdn_call L.web (hr.mono (by decide)) ⟨4, by decide, by decide, rfl⟩ (fun r h => ?_) (pda_cons (pd_var 1 rfl) (pda_cons (pd_int (i := 4)) pda_nil))) fun x hx => ?_) fun δ' hδ => ?_
  · obtain ⟨R', m, W, e, hW, rfl⟩ := h
    have e3 : m = 4 := by
      injection e with _ e
      injection e with e _
      exact (nD_inj (a := 4) e).symm
    subst e3
    exact ⟨W, hW, rfl⟩
  · obtain ⟨W, hW, rfl⟩ := hx
    exact ⟨W, hW, rfl⟩
  obtain ⟨W, hW, rfl⟩ := hδ
  have G := good4 hW
  have hn4 : W.n ≤ 4 := hW.2.1
  have hgl : (lGaths W).length ≤ 16 := by rw [G.gath]; exact G.glen
  have hg1 : 1 ≤ (lGaths W).length := by rw [G.gath]; exact G.gne
  have hgs : ∀ g ∈ lGaths W, g.length ≤ 20 := fun g hg => G.gsm g (G.gath ▸ hg)
  have hisg : ∀ g ∈ lGaths W, isGath W g = true := fun g hg => (List.mem_filter.mp (show g ∈ gaths W from G.gath ▸ hg)).2
  obtain ⟨_, hps, _⟩ := webOk_of G.web
  have hps1 : ∀ q ∈ W.ps, q.1 < q.2 := fun q hq => (hps q hq).1
  refine psp_det (δ1 := δ1 R W .no .no .no .no .no .no .no) (pds_asg (ks := [3, 4]) (x := .tuple [listD lotD (lGaths W), listD ddD (lDeeds W)]) (pd_tup (pda_cons (pd_call L.gath (hr.mono (by decide)) ⟨W, by omega, by have := G.ps; omega, rfl, rfl⟩ (pda_cons (pd_var 2 rfl) pda_nil)) (pda_cons (pd_call L.deeds (hr.mono (by decide)) ⟨W, by omega, G.ps, G.deeds, rfl, rfl⟩ (pda_cons (pd_var 2 rfl) pda_nil)) pda_nil)) (by show 2 ≤ 1000; decide))
      (pg_tup rfl (pgs_cons (pg_name (i := 3) sc_law.nd rfl (Or.inr rfl)) (pgs_cons (pg_name (i := 4) sc_law.nd rfl (Or.inl rfl)) pgs_nil))) (tg_pair (by decide) (by decide)) (ownFree_mine (by trivial))) ?_
  -- some lots
  refine psp_cons (I := fun δ' => ∃ l : List (List Nat), l.length ≤ 5 ∧ (∀ g ∈ l, g ∈ lGaths W) ∧ δ' = δ1 R W .no (.d (tupD lotD l)) .no .no .no .no .no) (psp_set 6 (p := fun r => ∃ l : List (List Nat), l.length ≤ 5 ∧ (∀ g ∈ l, g ∈ lGaths W) ∧ r = tupD lotD l) sc_law.nd
    (pdn_tuple (m := 6) (p := fun z => ∃ g, g ∈ lGaths W ∧ z = lotD g) B.tuple (pdn_lc (g := gName 5) (own := [("_law_k", 5)]) (rngN 6) (fun y => δ1 R W (.d y) .no .no .no .no .no .no) (fun xs hx => ?_) (by decide) rfl sc_law.nd
      (pin_range (pdn_taken L.taken (hr.mono (by decide)) (by decide) (by decide) (pda_cons (pd_var 1 rfl) (pda_cons (pd_int (i := 6)) pda_nil))) (by decide) B.range) (blkOk_by (N := n_law) (sc := defScope s_law) (by decide +kernel)) (fun _ _ _ _ _ => pg_name (i := 5) sc_law.nd rfl (Or.inl rfl)) (fun _ _ y _ => tg_name (by decide))
      (fun _ _ _ _ _ y => pdn_call L.pick (hr.mono (by decide)) ⟨(lGaths W).map lotD, by rw [List.length_map]; omega, by rw [List.length_map]; omega, rfl⟩ (fun r h => ?_) (pda_cons (pd_var 1 rfl) (pda_cons (pd_var 3 rfl) pda_nil)))) fun rs hl hz => ?_) fun x hx => ?_) fun δ' hδ => ?_
  · obtain ⟨n, hn, rfl⟩ := hx
    rw [List.length_map, List.length_range]
    exact hn
  · obtain ⟨R', xs, e, hm⟩ := h
    injection e with _ e
    injection e with e _
    injection e with e
    subst e
    obtain ⟨g, hg, rfl⟩ := List.mem_map.mp hm
    exact ⟨g, hg, rfl⟩
  · obtain ⟨l, rfl, hl2⟩ := lots_of hz
    rw [List.length_map] at hl
    exact ⟨l, by omega, hl2, rfl⟩
  · obtain ⟨l, a, b, rfl⟩ := hx
    exact ⟨l, a, b, rfl⟩
  obtain ⟨l, hl5, hlg, rfl⟩ := hδ
  -- what is told
  refine psp_det (δ1 := δ1 R W .no (.d (tupD lotD l)) (.d (listD (tupD lotD) (isort (ltL ltLot) ((lDeeds W).map (toldL l))))) .no .no .no .no) (pds_set 7 sc_law.nd (pd_sortedE EOrd.told (lin_L lin_lot) (by decide) ((lDeeds W).map (toldL l)) (sok_told _ _) (hu64 hr) B.sorted (pd_is (pd_lc (own := [("_law_one", 15)]) (lDeeds W) ddD (fun d => (δ1 R W .no (.d (tupD lotD l)) .no .no .no .no .no).set 15 (.d (ddD d))) (fun _ => true) (fun d => tupD lotD (toldL l d)) rfl sc_law.nd (pid_list (pd_var 4 rfl)) (by have := G.dlen; omega)
      (blkOk_by (N := n_law) (sc := defScope s_law) (by decide +kernel)) (fun _ _ _ _ _ => pg_name (i := 15) sc_law.nd rfl (Or.inr rfl)) (fun y _ => tg_name (by decide)) (fun _ _ _ _ _ _ _ => pts_no)
      (fun _ _ _ _ _ d hd _ => pd_is (pd_tuple B.tuple (pd_lc (own := [("_law_each", 16)]) l lotD (fun g => ((δ1 R W .no (.d (tupD lotD l)) .no .no .no .no .no).set 15 (.d (ddD d))).set 16 (.d (lotD g))) (fun _ => true) (fun g => lotD (lMade d g)) rfl sc_law.nd (pid_tup (pd_var 6 rfl)) (by omega)
        (blkOk_by (N := n_law) (sc := cellsOf (lcIn (asgE ((defBody s_law).getD 4 psS)))) (by decide +kernel)) (fun _ _ _ _ _ => pg_name (i := 16) sc_law.nd rfl (Or.inl rfl)) (fun y _ => tg_name (by decide)) (fun _ _ _ _ _ _ _ => pts_no)
        (fun _ _ _ _ _ g hg _ => pd_call L.made (hr.mono (by decide)) ⟨d, g, by have := (G.dsm d hd).1; omega, by have := hgs g (hlg g hg); omega, rfl, rfl⟩ (pda_cons (pd_var 15 rfl) (pda_cons (pd_var 16 rfl) pda_nil))))) (by rw [filt_all]; show PyData.tuple _ = tupD lotD (toldL l d); unfold tupD toldL; rw [List.map_map]; rfl)))
      (by rw [filt_all]; unfold listD; rw [List.map_map]; rfl)))) ?_
  have hd1 := (isort_perm (lt := ltL ltLot) ((lDeeds W).map (toldL l)))
  have hd2 : (isort (ltL ltLot) ((lDeeds W).map (toldL l))).length = (lDeeds W).length := by rw [hd1.length_eq, List.length_map]
  have hd3 : decide ((ddp (isort (ltL ltLot) ((lDeeds W).map (toldL l)))).length = (lDeeds W).length) = tells (allDeeds W) l := by
    rw [tells_eq, G.all, ddp_perm hd1]
    rfl
  refine psp_det (δ1 := δ1 R W .no (.d (tupD lotD l)) (.d (listD (tupD lotD) (isort (ltL ltLot) ((lDeeds W).map (toldL l))))) .no .no .no .no) (pds_ifF (pdt_is (k := !true) (pdt_not (pdt_val (pd_call L.alike0 (hr.mono (by decide)) (show rAlike0 [.bool (tells (allDeeds W) l), .bool (tells (allDeeds W) l)] (.bool true) from ⟨.inr ⟨_, rfl⟩, rfl⟩) (pda_cons (pd_call L.tellsA hr ⟨W, l, G.web, hn4, by omega, fun g hg => ⟨by have := hgs g (hlg g hg); omega, hisg g (hlg g hg)⟩, rfl, rfl⟩ (pda_cons (pd_var 2 rfl) (pda_cons (pd_var 6 rfl) pda_nil)))
    (pda_cons (pd_is (pd_cmp op_eq rd_eqN (pd_lenSet KEnc.told lot_tup (isort (ltL ltLot) ((lDeeds W).map (toldL l))) rfl (hu64 hr) (by have := G.dlen; omega) B.len B.set (pd_var 7 rfl)) (pd_lenL B.len (pd_var 4 rfl)) (by rfl)) (by rw [hd3])) pda_nil))))) rfl) pds_nil) ?_
  -- sizes
  have hsz : (lDeeds W).map (fun d => d.2.length) = sizesL W := by
    unfold sizesL
    rw [G.all]
  refine psp_det (δ1 := δ1 R W .no (.d (tupD lotD l)) (.d (listD (tupD lotD) (isort (ltL ltLot) ((lDeeds W).map (toldL l))))) (.d (listD nD (sizesL W))) .no .no .no) (pds_set 8 sc_law.nd (pd_is (pd_lc (own := [("_law_one", 15)]) (lDeeds W) ddD (fun d => (δ1 R W .no (.d (tupD lotD l)) (.d (listD (tupD lotD) (isort (ltL ltLot) ((lDeeds W).map (toldL l))))) .no .no .no .no).set 15 (.d (ddD d))) (fun _ => true) (fun d => nD d.2.length) rfl sc_law.nd (pid_list (pd_var 4 rfl)) (by have := G.dlen; omega)
      (blkOk_by (N := n_law) (sc := defScope s_law) (by decide +kernel)) (fun _ _ _ _ _ => pg_name (i := 15) sc_law.nd rfl (Or.inl rfl)) (fun y _ => tg_name (by decide)) (fun _ _ _ _ _ _ _ => pts_no)
      (fun _ _ _ _ _ d hd _ => pd_lenT (en := nD) (xs := d.2) B.len (pd_ix ix_tup (rd_ixT (xs := [lotD d.1, lotD d.2]) (i := 1) rfl) (pd_var 15 rfl) pd_int))) (by rw [filt_all, ← hsz]; unfold listD; rw [List.map_map]; rfl))) ?_
  refine psp_det (δ1 := δ1 R W .no (.d (tupD lotD l)) (.d (listD (tupD lotD) (isort (ltL ltLot) ((lDeeds W).map (toldL l))))) (.d (listD nD (sizesL W))) .no .no .no) (pds_ifF (pdt_is (k := !true) (pdt_not (pdt_val (pd_call L.alikeT (hr.mono (by decide)) (show rAlikeT [lotD (deedSizes W), lotD (deedSizes W)] (.bool true) from ⟨deedSizes W, by unfold deedSizes; rw [List.length_map, List.length_range]; omega, rfl, rfl⟩) (pda_cons (pd_call L.sizes hr ⟨W, G.web, hn4, rfl, rfl⟩ (pda_cons (pd_var 2 rfl) pda_nil))
    (pda_cons (pd_is (pd_tuple B.tuple (pd_lc (own := [("_law_k", 5)]) (List.range (W.n + 1)) nD (fun k => δ1 R W (.d (nD k)) (.d (tupD lotD l)) (.d (listD (tupD lotD) (isort (ltL ltLot) ((lDeeds W).map (toldL l))))) (.d (listD nD (sizesL W))) .no .no .no) (fun _ => true) (fun k => nD ((sizesL W).count k)) rfl sc_law.nd
      (pid_range (n := W.n + 1) (pda_cons (pd_is (pd_op op_add rd_II (pd_web0 (pd_var 2 rfl)) pd_int) (by show PyData.int ((W.n : Int) + 1) = .int ((W.n + 1 : Nat) : Int); rw [Int.natCast_add]; rfl)) pda_nil) (by omega) B.range) (by rw [List.length_range]; omega) (blkOk_by (N := n_law) (sc := defScope s_law) (by decide +kernel)) (fun _ _ _ _ _ => pg_name (i := 5) sc_law.nd rfl (Or.inl rfl)) (fun y _ => tg_name (by decide)) (fun _ _ _ _ _ _ _ => pts_no)
      (fun _ _ _ _ _ k hk _ => pd_count (pd_var 8 rfl) (pd_var 5 rfl)))) (by rw [filt_all]; unfold lotD deedSizes; rw [List.map_map]; rfl)) pda_nil))))) rfl) pds_nil) ?_
  refine pspS_less (δ1 := δ1 R W .no .no .no .no .no .no .no) (less_of ⟨rfl, rfl, rfl, rfl, trivial⟩) ?_
  -- merged
  refine psp_cons (I := fun δ' => ∃ row : List Nat, row.length ≤ 6 ∧ (∀ o ∈ row, o < W.n) ∧ δ' = δ1 R W .no .no .no .no (.d (lotD row)) (.d (nD 0)) .no) (psp_par 9 10 (p := fun r => ∃ row : List Nat, row.length ≤ 6 ∧ (∀ o ∈ row, o < W.n) ∧ r = lotD row) rfl sc_law.nd (pdn_call L.row (hr.mono (by decide)) ⟨W, 6, hW.1, by omega, by decide, rfl⟩ (fun r h => ?_) (pda_cons (pd_var 1 rfl) (pda_cons (pd_var 2 rfl) (pda_cons (pd_int (i := 6)) pda_nil)))) (pd_int (i := 0)) fun x hx => ?_) fun δ' hδ => ?_
  · obtain ⟨R', W', m, row, e, h1, h2, rfl⟩ := h
    injection e with _ e
    injection e with ew e
    injection e with e _
    have em : m = 6 := (nD_inj (a := 6) e).symm
    have en : W.n = W'.n := by
      unfold webD at ew
      injection ew with ew
      injection ew with ew _
      exact nD_inj ew
    subst em
    exact ⟨row, h1, fun o ho => by have := h2 o ho; omega, rfl⟩
  · obtain ⟨row, a, b, rfl⟩ := hx
    exact ⟨row, a, b, rfl⟩
  obtain ⟨row, hrl, hro, rfl⟩ := hδ
  have hes := ends_eq hps1 G.gath row
  have hmrg : ∀ k, mrg ((lGaths W).map fun g => lDone W g row) (k + 1) = mrg ((lGaths W).map fun g => lDone W g row) k + ((((lGaths W).map fun g => lDone W g row).take k).filter fun o => decide (o = ((lGaths W).map fun g => lDone W g row).getD k [])).length := fun k => rfl
  refine psp_det (δ1 := δ1 R W .no .no .no .no (.d (lotD row)) (.d (nD (mrg ((lGaths W).map fun g => lDone W g row) (lGaths W).length))) .no) ?_ ?_
  · refine pds_forN (ks := [5]) (g := gName 5) (lGaths W).length (fun k => δ1 R W .no .no .no .no (.d (lotD row)) (.d (nD (mrg ((lGaths W).map fun g => lDone W g row) k))) .no) (fun k => δ1 R W (.d (nD k)) .no .no .no (.d (lotD row)) (.d (nD (mrg ((lGaths W).map fun g => lDone W g row) k))) .no) rfl rfl PassesOwn.never rfl
      (pid_range (n := (lGaths W).length) (pda_cons (pd_lenL B.len (pd_var 3 rfl)) pda_nil) (by omega) B.range) (pg_name (i := 5) sc_law.nd rfl (Or.inl rfl)) (fun k => trivial) (fun k => tg_name (by decide)) (fun k hk => ?_)
    have gk : (lGaths W)[k]? = some (lGaths W)[k] := List.getElem?_eq_getElem hk
    have ek : ((lGaths W).map fun g => lDone W g row).getD k [] = lDone W (lGaths W)[k] row := by rw [List.getD_eq_getElem?_getD, List.getElem?_map, gk]; rfl
    have sk := hgs _ (List.getElem_mem hk)
    rw [hmrg k, ek]
    generalize (lGaths W)[k] = gg at gk sk
    refine pds_weak (δ1 := δ1 R W (.d (nD k)) .no .no .no (.d (lotD row)) (.d (nD (mrg ((lGaths W).map fun g => lDone W g row) k + ((((lGaths W).map fun g => lDone W g row).take k).filter fun o => decide (o = lDone W gg row)).length))) .no) (less_of ⟨rfl, rfl, rfl, rfl, rfl, rfl, trivial⟩) (pds_one ?_)
    refine pds_forN (ks := [11]) (g := gName 11) k (fun j => δ1 R W (.d (nD k)) .no .no .no (.d (lotD row)) (.d (nD (mrg ((lGaths W).map fun g => lDone W g row) k + ((((lGaths W).map fun g => lDone W g row).take j).filter fun o => decide (o = lDone W gg row)).length))) .no) (fun j => δ1 R W (.d (nD k)) .no .no .no (.d (lotD row)) (.d (nD (mrg ((lGaths W).map fun g => lDone W g row) k + ((((lGaths W).map fun g => lDone W g row).take j).filter fun o => decide (o = lDone W gg row)).length))) (.d (nD j))) rfl rfl PassesOwn.never rfl
      (pid_range (n := k) (pda_cons (pd_var 5 rfl) pda_nil) (by omega) B.range) (pg_name (i := 11) sc_law.nd rfl (Or.inl rfl)) (fun j => trivial) (fun j => tg_name (by decide)) (fun j hj => ?_)
    have hjl : j < (lGaths W).length := by omega
    have gj : (lGaths W)[j]? = some (lGaths W)[j] := List.getElem?_eq_getElem hjl
    have sj := hgs _ (List.getElem_mem hjl)
    have ej : ((lGaths W).map fun g => lDone W g row)[j]? = some (lDone W (lGaths W)[j] row) := by rw [List.getElem?_map, gj]; rfl
    rw [take_one ej, List.filter_append, List.length_append]
    generalize (lGaths W)[j] = gi at gj sj
    refine pds_weak (δ1 := δ1 R W (.d (nD k)) .no .no .no (.d (lotD row)) (.d (nD (mrg ((lGaths W).map fun g => lDone W g row) k + (((((lGaths W).map fun g => lDone W g row).take j).filter fun o => decide (o = lDone W gg row)).length + ([lDone W gi row].filter fun o => decide (o = lDone W gg row)).length)))) (.d (nD j))) (less_of ⟨rfl, rfl, rfl, rfl, rfl, rfl, rfl, trivial⟩) (pds_one (pds_set 10 sc_law.nd (pd_is (pd_op op_add rd_II (pd_var 10 rfl) (pd_intB B.int (pd_cmp (x := lotD (lDone W gg row)) (y := lotD (lDone W gi row)) (op_eqD (hu64 hr)) (rd_eqE EOrd.lot.toEnc (by decide))
      (pd_call L.done (hr.mono (by decide)) ⟨W, gg, row, by have := G.ps; omega, by omega, by omega, rfl, rfl⟩ (pda_cons (pd_var 2 rfl) (pda_cons (pd_ix ix_list (rd_ixL (ix_nat (e := lotD) (xs := lGaths W) gk)) (pd_var 3 rfl) (pd_var 5 rfl)) (pda_cons (pd_var 9 rfl) pda_nil))))
      (pd_call L.done (hr.mono (by decide)) ⟨W, gi, row, by have := G.ps; omega, by omega, by omega, rfl, rfl⟩ (pda_cons (pd_var 2 rfl) (pda_cons (pd_ix ix_list (rd_ixL (ix_nat (e := lotD) (xs := lGaths W) gj)) (pd_var 3 rfl) (pd_var 11 rfl)) (pda_cons (pd_var 9 rfl) pda_nil)))) (by rfl)))) ?_)))
    by_cases h : lDone W gg row = lDone W gi row
    · have e : ([lDone W gi row].filter fun o => decide (o = lDone W gg row)) = [lDone W gi row] := by rw [h]; simp
      rw [decide_eq_true h, e]
      show PyData.int (_ + 1) = .int _
      congr 1
    · have e : ([lDone W gi row].filter fun o => decide (o = lDone W gg row)) = [] := List.filter_eq_nil_iff.mpr fun o ho => by
        rw [List.mem_singleton.mp ho, decide_eq_true_iff]
        exact fun z => h z.symm
      rw [decide_eq_false h, e]
      show PyData.int (_ + 0) = .int _
      congr 1
  refine psp_det (δ1 := δ1 R W .no .no .no .no (.d (lotD row)) (.d (nD (mrg ((lGaths W).map fun g => lDone W g row) (lGaths W).length))) .no) (pds_ifF (pdt_is (k := !true) (pdt_not (pdt_val (pd_call L.alike0 (hr.mono (by decide)) (show rAlike0 [nD (mrg ((lGaths W).map fun g => lDone W g row) (lGaths W).length), nD (mrg ((lGaths W).map fun g => lDone W g row) (lGaths W).length)] (.bool true) from ⟨.inl ⟨_, rfl⟩, rfl⟩) (pda_cons (pd_call L.merged (hr.mono (by decide)) ⟨W, row, G.web, hn4, by omega, hro, rfl, by rw [hes, List.length_map]⟩ (pda_cons (pd_var 2 rfl) (pda_cons (pd_var 9 rfl) pda_nil)))
    (pda_cons (pd_var 10 rfl) pda_nil))))) rfl) pds_nil) ?_
  exact pspS_less (δ1 := [.no, .d (rowD R), .no, .no, .no, .no, .no, .no, .no, .no, .no, .no, .no, .no, .no, .no, .no]) (less_of ⟨rfl, trivial⟩) (second B L hr)
end
end K28

set_option Elab.async false
set_option linter.all false
set_option maxRecDepth 100000
set_option maxHeartbeats 4000000
namespace K28
open PySem PySem.Spec PyProof.Rows L2
theorem pss_hideE {X : Cx} {sts : List Stmt} {t : TS} (h : PSs X sts t) : PSs X sts (fun D σ H => ∃ S R i x y, 0 ≤ i ∧ H R = some (rowL S i x y) ∧ t D σ (upd H R (.ext (RowP R S)))) :=
  ⟨fun pins s σ H D I ⟨S, R, i, x, y, hi, hR, q⟩ => h.run pins s σ _ D (row_back I hi hR) q⟩
theorem sqL_new {K : PySem.W.Frag} {H : Hp} {S R : Addr} {vs : List V} {o : HO} (h : SqL K H S vs) (hr : H R = none) : SqL K (upd H R o) S vs := by
  rcases h with (h | ⟨u, h⟩) | h
  · exact .inl (.inl (by rw [upd_ne (ne_of_none h hr)]; exact h))
  · exact .inl (.inr ⟨u, by rw [upd_ne (ne_of_none h hr)]; exact h⟩)
  · exact .inr h
/-- the two objects alone -/
def two (H : Hp) (R S : Addr) : Hp := fun a => if a = R ∨ a = S then H a else none
theorem two_sub {H : Hp} {R S : Addr} : Ex (two H R S) H := fun a o h => by
  unfold two at h
  split at h
  · exact .inl h
  · cases h
theorem two_R {H : Hp} {R S : Addr} : two H R S R = H R := if_pos (.inl rfl)
theorem two_S {H : Hp} {R S : Addr} : two H R S S = H S := if_pos (.inr rfl)
theorem two_sq {K : PySem.W.Frag} {H : Hp} {S R : Addr} {vs : List V} (h : SqL K H S vs) : SqL K (two H R S) S vs := by
  rcases h with (h | ⟨u, h⟩) | h
  · exact .inl (.inl (by rw [two_S]; exact h))
  · exact .inl (.inr ⟨u, by rw [two_S]; exact h⟩)
  · exact .inr h
theorem env_no {Hs H : Hp} {σ : L2.St} {n : Nat} (h : σ.length = n) : EnvD Hs H σ (List.replicate n .no) := by
  have key : ∀ (i : Nat) x, (List.replicate n Ent.no)[i]? = some x → x = .no := fun i x q => by
    rw [List.getElem?_replicate] at q
    split at q
    · exact (Option.some.inj q).symm
    · cases q
  exact ⟨by rw [h, List.length_replicate], fun i x q => (by cases key i _ q), fun i x q => (by cases key i _ q), fun i j xs ys p r _ q => (by cases key i _ q), fun i D q => (by cases key i _ q)⟩
section
variable {P : Program} {w : World} {K : PySem.W.Frag} {mg : Str → Option Value} {base : Heap} {tb : List Addr}
def tLaw (K : PySem.W.Frag) (tb : List Addr) : TS := fun D σ H => ∃ (S : Addr) (ns : List Int), σ[0]? = some (some (V.ref S)) ∧ σ.length = 17 ∧ SqL K H S (ns.map V.int) ∧ (∀ P ∈ tb, GxR.TabG H P) ∧ ∀ H', D.rt (.bl true) H'
theorem law_body {f : Addr} {cdv : Value} {A : Around} {outer : List Env} {s : Shared} {H : Hp} {E : XK} (B : Bi mg) (L : ∀ R S ns, LawF P w K mg base (TR K tb R S ns) R) (hr : Room 7 (A.deeper (envOfC "law" (defScope s_law) s.heap.objs.size f cdv))) :
    PSs (BX P w K mg base n_law "law" s_law f cdv A outer s H E) (defBody s_law) (tLaw K tb) := by
  have rest : PSs (BX P w K mg base n_law "law" s_law f cdv A outer s H E) ((defBody s_law).drop 1) (fun D σ H => ∃ R S ns H0s H0, tSP (TR K tb R S ns) H0s H0 [.no, .d (rowD R), .no, .no, .no, .no, .no, .no, .no, .no, .no, .no, .no, .no, .no, .no, .no] (fun _ => False) (fun r => r = .bool true) D σ H) :=
    ⟨fun pins s1 σ H1 D I ⟨R, S, ns, H0s, H0, q⟩ => (first B (L R S ns) hr).run pins s1 σ H1 D I q⟩
  refine pss_imp (pss_cons (ps_set (i := 1) sc_law.nd rfl (Or.inr rfl) (pe_lst (pa_cons (pe_var (i := 0) rfl (Or.inl rfl) (by decide) (by decide)) (pa_cons pe_int (pa_cons pe_int (pa_cons pe_int pa_nil))))) rfl (.inl rfl)) (pss_hideE rest)) fun D σ H ⟨S, ns, h0, hl, hS, hT, q⟩ => ?_
  refine ⟨_, h0, by show 4 ≤ sizeLine; decide, fun R hR => ⟨S, R, 0, 13528, 0, by decide, upd_same, R, S, ns, two (upd H R (.ext (RowP R S))) R S, upd H R (.ext (RowP R S)), ?_⟩⟩
  rw [upd_upd]
  refine ⟨two (upd H R (.ext (RowP R S))) R S, ⟨.refl two_sub, ?_, fun i e p q1 m _ => ?_, ⟨fun P hP => ?_, by rw [two_R]; exact upd_same, two_sq (sqL_new hS hR)⟩⟩, fun _ _ _ _ z => z.elim, fun x v Hs' H' hx g d => ?_⟩
  · exact (env_no (Hs := two (upd H R (.ext (RowP R S))) R S) (H := upd H R (.ext (RowP R S))) hl).set (i := 1) (v := .ref R) (x := rowD R) (.obj (by rw [two_R]; exact upd_same))
  · have : ownFree [.no, .d (rowD R), .no, .no, .no, .no, .no, .no, .no, .no, .no, .no, .no, .no, .no, .no, .no] := trivial
    exact (ownFree_get this q1 m).elim
  · obtain ⟨ps, e1, e2⟩ := hT P hP
    exact ⟨ps, by rw [upd_ne (ne_of_none e1 hR)]; exact e1, e2⟩
  · subst hx
    cases d.blV
    exact q H'
def spLaw (K : PySem.W.Frag) (tb : List Addr) : Sp := fun vs H Q _ => ∃ (S : Addr) (ns : List Int), vs = [.ref S] ∧ SqL K H S (ns.map V.int) ∧ (∀ P ∈ tb, GxR.TabG H P) ∧ ∀ H', Q (.bl true) H'
theorem ok_law {f : Addr} {fd : FuncData} (F : Fun K "law" "law" s_law f fd) (B : Bi mg) (L : ∀ R S ns, LawF P w K mg base (TR K tb R S ns) R) : FnOk P w K mg base CX0 8 f fd ["_law_script"] (spLaw K tb) := by
  refine F.ok sc_law (fun vs H Q E h => ?_) (fun cdv A outer s H vs Q E hr h => ⟨tLaw K tb, law_body B L hr, ?_⟩)
  · obtain ⟨S, ns, rfl, _⟩ := h
    rfl
  · obtain ⟨S, ns, rfl, hS, hT, q⟩ := h
    exact ⟨S, ns, rfl, rfl, hS, hT, q⟩
end
end K28

set_option Elab.async false
set_option linter.all false
set_option maxRecDepth 100000
set_option maxHeartbeats 0
namespace K28
open PySem PySem.Spec PyProof.Rows L2
theorem fun_ofD {K : PySem.W.Frag} {x qual : Str} {st : Stmt} {f : Addr} {fd : FuncData} (F : FunD K x qual (defArgs st) (defBody st) (defScope st) [] [] f fd) : Fun K x qual st f fd := by
  obtain ⟨oc, od, dV, kV, doc, pm, an, cdv, ct, osl, h1, h2, h3, h4, _⟩ := F.ex
  rcases h4 with ⟨_, rfl⟩ | ⟨h, _⟩
  · exact ⟨⟨oc, od, kV, doc, pm, an, cdv, ct, osl, h1, h2, h3⟩, F.kp⟩
  · exact (h rfl).elim
theorem funC_of {K : PySem.W.Frag} {x qual : Str} {st : Stmt} {p : Str × Option Str} {fd : FuncData} (F : Fun K x qual st (He.fAd K p) fd) : FunC K x qual st (He.fAd K p) fd (He.codeOf K p) := by
  refine ⟨F, ?_⟩
  obtain ⟨oc, od, kV, doc, pm, an, cdv, ct, osl, h1, h2, h3⟩ := F.ex
  obtain ⟨c, rfl⟩ := He.codeIn_ref h3
  have e : fd.code = .ref c := by rw [h1]
  rw [He.codeOf_eq h2 e]
  exact e
/-! ### the head -/
def nms : List (Str × Nat) := [("is_in", 9), ("need_web", 10), ("are_foes", 11), ("foes", 12), ("is_lot", 13), ("is_gathering", 14), ("all_lots", 15), ("all_gatherings", 16), ("came", 17), ("is_row", 18), ("need_row", 19), ("trace", 20),
  ("with_foes", 22), ("calm_part", 23), ("comes", 24), ("made", 25), ("need_small", 28), ("all_deeds", 29), ("need_some", 33), ("tells", 34), ("tells_all", 35), ("choices", 36), ("least_telling", 37), ("merged", 38), ("deed_sizes", 39)]
def lms : List (Str × Nat) := [("_law_taken", 41), ("_law_pick", 42), ("_law_alike", 43), ("_law_web", 44), ("_law_foes", 45), ("_law_come", 46), ("_law_done", 47), ("_law_lots", 48), ("_law_is_gathering", 49), ("_law_gatherings", 50), ("_law_row", 51), ("_law_deed", 52), ("_law_made", 53), ("_law_deeds", 54), ("_law_times", 55), ("law", 56)]
theorem nms_ok : (nms ++ lms).all (fun p => match top p.2 with | .FunctionDef n _ _ _ _ _ _ _ _ _ => decide (n = p.1) | _ => false) = true := by decide +kernel
end K28

set_option Elab.async false
set_option linter.all false
set_option maxRecDepth 100000
set_option maxHeartbeats 0
namespace K28
open PySem PySem.Spec PyProof.Rows L2
def dfn (p : Str × Nat) : He.DefD := ⟨(p.1, none), p.1, p.1, defArgs (top p.2), defBody (top p.2), defScope (top p.2), [], []⟩
def fnL : List He.DefD := (nms ++ lms).map dfn
def bnames : List Str := ["isinstance", "int", "bool", "tuple", "list", "str", "len", "min", "max", "any", "all", "range", "sorted", "enumerate", "set"]
def cnames : List (Str × Int) := [("MOST_PEOPLE", 7), ("MOST_ROW", 30), ("MOST_LISTED", 5), ("MOST_GATHERINGS", 20), ("MOST_LEAST", 4)]
def faL : List He.Fa := (nms ++ lms).map (fun p => .glo p.1) ++ bnames.map .free ++ cnames.map fun p => .int p.1 p.2
def tfL : List He.Defn := [("need_web", none), ("is_lot", none), ("is_gathering", none), ("is_row", none), ("calm_part", none), ("comes", none), ("least_telling", none)]
abbrev hk : PySem.W.Hook := He.hookX 4 faL fnL [] tfL fun _ => true
def ob (s : PySem.W.SharedT) : He.AlX := He.obsX 4 faL fnL [] tfL (fun _ => true) (HandSHeadRun.getT s)
theorem ob_eq (s : PySem.W.SharedT) : ob s = hk.obs s.abs := He.obsX_eq (HandSHeadRun.getT_eq s)
abbrev RR : PySem.W.OpenRow := PySem.W.OpenLaw.row PySem.Challenge.rw_foescome_k28_whole_telling
def others1 : List Str := ["__name__", "FoeError", "BadWeb", "BadRow", "BadGatherings", "TooMany", "MOST_PEOPLE", "MOST_ROW", "MOST_LISTED", "MOST_GATHERINGS", "MOST_LEAST", "is_in", "need_web", "are_foes", "foes", "is_lot", "is_gathering", "all_lots", "all_gatherings", "came", "is_row", "need_row", "trace", "with_foes", "calm_part", "comes", "made", "need_small", "all_deeds", "need_some", "tells"]
def others2 : List Str := ["tells_all", "choices", "least_telling", "merged", "deed_sizes", "_law_taken", "_law_pick", "_law_alike", "_law_web", "_law_foes", "_law_come", "_law_done", "_law_lots", "_law_is_gathering", "_law_gatherings", "_law_row", "_law_deed", "_law_made", "_law_deeds", "_law_times"]
def others : List Str := others1 ++ others2
theorem run (w : World) : HandSHeadRun.RunEq RR (PySem.W.view RR.prog [56]) hk ob 6000 others w := by
  intro os
  kernel_rfl
end K28

set_option Elab.async false
set_option linter.all false
set_option maxRecDepth 100000
set_option maxHeartbeats 0
namespace K28
open PySem PySem.Spec PyProof.Rows L2
def cs (K : PySem.W.Frag) : List (Addr × Addr) := tfL.map (He.cT K)
theorem facts {P : Program} {w : World} {K : PySem.W.Frag} {h : Heap} {mg : Str → Option Value} (KX : K.In h) (G : h.Ns mainGlobals mg) (c : He.SaysX faL fnL [] tfL (fun _ => true) w h K) :
    ∃ fd : FuncData, (∀ (s : Shared) (v : Value), BindsTo s fd ⟨[v], []⟩ [("_law_script", v)]) ∧ mg "law" = some (.ref (He.fAd K ("law", none))) ∧ ∀ base : Heap, (∀ p ∈ cs K, GxR.TabB base mg p.1 p.2) → FnOk P w K mg base CX0 8 (He.fAd K ("law", none)) fd ["_law_script"] (spLaw K ((cs K).map (·.2))) := by
  have D := c.t.d
  obtain ⟨d0, F0⟩ := D.def_ 0 (d := dfn ("is_in", 9)) rfl
  have f0 : L2.Fun K "is_in" "is_in" (top 9) (He.fAd K ("is_in", none)) d0 := fun_ofD F0
  have m0 : mg "is_in" = some (.ref (He.fAd K ("is_in", none))) := He.glo_ok KX G (D.fact 0 (f := .glo "is_in") rfl)
  obtain ⟨d1, F1⟩ := D.def_ 1 (d := dfn ("need_web", 10)) rfl
  have f1 : L2.Fun K "need_web" "need_web" (top 10) (He.fAd K ("need_web", none)) d1 := fun_ofD F1
  have m1 : mg "need_web" = some (.ref (He.fAd K ("need_web", none))) := He.glo_ok KX G (D.fact 1 (f := .glo "need_web") rfl)
  obtain ⟨d2, F2⟩ := D.def_ 2 (d := dfn ("are_foes", 11)) rfl
  have f2 : L2.Fun K "are_foes" "are_foes" (top 11) (He.fAd K ("are_foes", none)) d2 := fun_ofD F2
  have m2 : mg "are_foes" = some (.ref (He.fAd K ("are_foes", none))) := He.glo_ok KX G (D.fact 2 (f := .glo "are_foes") rfl)
  obtain ⟨d3, F3⟩ := D.def_ 3 (d := dfn ("foes", 12)) rfl
  have f3 : L2.Fun K "foes" "foes" (top 12) (He.fAd K ("foes", none)) d3 := fun_ofD F3
  have m3 : mg "foes" = some (.ref (He.fAd K ("foes", none))) := He.glo_ok KX G (D.fact 3 (f := .glo "foes") rfl)
  obtain ⟨d4, F4⟩ := D.def_ 4 (d := dfn ("is_lot", 13)) rfl
  have f4 : L2.Fun K "is_lot" "is_lot" (top 13) (He.fAd K ("is_lot", none)) d4 := fun_ofD F4
  have m4 : mg "is_lot" = some (.ref (He.fAd K ("is_lot", none))) := He.glo_ok KX G (D.fact 4 (f := .glo "is_lot") rfl)
  obtain ⟨d5, F5⟩ := D.def_ 5 (d := dfn ("is_gathering", 14)) rfl
  have f5 : L2.Fun K "is_gathering" "is_gathering" (top 14) (He.fAd K ("is_gathering", none)) d5 := fun_ofD F5
  have m5 : mg "is_gathering" = some (.ref (He.fAd K ("is_gathering", none))) := He.glo_ok KX G (D.fact 5 (f := .glo "is_gathering") rfl)
  obtain ⟨d6, F6⟩ := D.def_ 6 (d := dfn ("all_lots", 15)) rfl
  have f6 : L2.Fun K "all_lots" "all_lots" (top 15) (He.fAd K ("all_lots", none)) d6 := fun_ofD F6
  have m6 : mg "all_lots" = some (.ref (He.fAd K ("all_lots", none))) := He.glo_ok KX G (D.fact 6 (f := .glo "all_lots") rfl)
  obtain ⟨d7, F7⟩ := D.def_ 7 (d := dfn ("all_gatherings", 16)) rfl
  have f7 : L2.Fun K "all_gatherings" "all_gatherings" (top 16) (He.fAd K ("all_gatherings", none)) d7 := fun_ofD F7
  have m7 : mg "all_gatherings" = some (.ref (He.fAd K ("all_gatherings", none))) := He.glo_ok KX G (D.fact 7 (f := .glo "all_gatherings") rfl)
  obtain ⟨d8, F8⟩ := D.def_ 8 (d := dfn ("came", 17)) rfl
  have f8 : L2.Fun K "came" "came" (top 17) (He.fAd K ("came", none)) d8 := fun_ofD F8
  have m8 : mg "came" = some (.ref (He.fAd K ("came", none))) := He.glo_ok KX G (D.fact 8 (f := .glo "came") rfl)
  obtain ⟨d9, F9⟩ := D.def_ 9 (d := dfn ("is_row", 18)) rfl
  have f9 : L2.Fun K "is_row" "is_row" (top 18) (He.fAd K ("is_row", none)) d9 := fun_ofD F9
  have m9 : mg "is_row" = some (.ref (He.fAd K ("is_row", none))) := He.glo_ok KX G (D.fact 9 (f := .glo "is_row") rfl)
  obtain ⟨d10, F10⟩ := D.def_ 10 (d := dfn ("need_row", 19)) rfl
  have f10 : L2.Fun K "need_row" "need_row" (top 19) (He.fAd K ("need_row", none)) d10 := fun_ofD F10
  have m10 : mg "need_row" = some (.ref (He.fAd K ("need_row", none))) := He.glo_ok KX G (D.fact 10 (f := .glo "need_row") rfl)
  obtain ⟨d11, F11⟩ := D.def_ 11 (d := dfn ("trace", 20)) rfl
  have f11 : L2.Fun K "trace" "trace" (top 20) (He.fAd K ("trace", none)) d11 := fun_ofD F11
  have m11 : mg "trace" = some (.ref (He.fAd K ("trace", none))) := He.glo_ok KX G (D.fact 11 (f := .glo "trace") rfl)
  obtain ⟨d12, F12⟩ := D.def_ 12 (d := dfn ("with_foes", 22)) rfl
  have f12 : L2.Fun K "with_foes" "with_foes" (top 22) (He.fAd K ("with_foes", none)) d12 := fun_ofD F12
  have m12 : mg "with_foes" = some (.ref (He.fAd K ("with_foes", none))) := He.glo_ok KX G (D.fact 12 (f := .glo "with_foes") rfl)
  obtain ⟨d13, F13⟩ := D.def_ 13 (d := dfn ("calm_part", 23)) rfl
  have f13 : L2.Fun K "calm_part" "calm_part" (top 23) (He.fAd K ("calm_part", none)) d13 := fun_ofD F13
  have m13 : mg "calm_part" = some (.ref (He.fAd K ("calm_part", none))) := He.glo_ok KX G (D.fact 13 (f := .glo "calm_part") rfl)
  obtain ⟨d14, F14⟩ := D.def_ 14 (d := dfn ("comes", 24)) rfl
  have f14 : L2.Fun K "comes" "comes" (top 24) (He.fAd K ("comes", none)) d14 := fun_ofD F14
  have m14 : mg "comes" = some (.ref (He.fAd K ("comes", none))) := He.glo_ok KX G (D.fact 14 (f := .glo "comes") rfl)
  obtain ⟨d15, F15⟩ := D.def_ 15 (d := dfn ("made", 25)) rfl
  have f15 : L2.Fun K "made" "made" (top 25) (He.fAd K ("made", none)) d15 := fun_ofD F15
  have m15 : mg "made" = some (.ref (He.fAd K ("made", none))) := He.glo_ok KX G (D.fact 15 (f := .glo "made") rfl)
  obtain ⟨d16, F16⟩ := D.def_ 16 (d := dfn ("need_small", 28)) rfl
  have f16 : L2.Fun K "need_small" "need_small" (top 28) (He.fAd K ("need_small", none)) d16 := fun_ofD F16
  have m16 : mg "need_small" = some (.ref (He.fAd K ("need_small", none))) := He.glo_ok KX G (D.fact 16 (f := .glo "need_small") rfl)
  obtain ⟨d17, F17⟩ := D.def_ 17 (d := dfn ("all_deeds", 29)) rfl
  have f17 : L2.Fun K "all_deeds" "all_deeds" (top 29) (He.fAd K ("all_deeds", none)) d17 := fun_ofD F17
  have m17 : mg "all_deeds" = some (.ref (He.fAd K ("all_deeds", none))) := He.glo_ok KX G (D.fact 17 (f := .glo "all_deeds") rfl)
  obtain ⟨d18, F18⟩ := D.def_ 18 (d := dfn ("need_some", 33)) rfl
  have f18 : L2.Fun K "need_some" "need_some" (top 33) (He.fAd K ("need_some", none)) d18 := fun_ofD F18
  have m18 : mg "need_some" = some (.ref (He.fAd K ("need_some", none))) := He.glo_ok KX G (D.fact 18 (f := .glo "need_some") rfl)
  obtain ⟨d19, F19⟩ := D.def_ 19 (d := dfn ("tells", 34)) rfl
  have f19 : L2.Fun K "tells" "tells" (top 34) (He.fAd K ("tells", none)) d19 := fun_ofD F19
  have m19 : mg "tells" = some (.ref (He.fAd K ("tells", none))) := He.glo_ok KX G (D.fact 19 (f := .glo "tells") rfl)
  obtain ⟨d20, F20⟩ := D.def_ 20 (d := dfn ("tells_all", 35)) rfl
  have f20 : L2.Fun K "tells_all" "tells_all" (top 35) (He.fAd K ("tells_all", none)) d20 := fun_ofD F20
  have m20 : mg "tells_all" = some (.ref (He.fAd K ("tells_all", none))) := He.glo_ok KX G (D.fact 20 (f := .glo "tells_all") rfl)
  obtain ⟨d21, F21⟩ := D.def_ 21 (d := dfn ("choices", 36)) rfl
  have f21 : L2.Fun K "choices" "choices" (top 36) (He.fAd K ("choices", none)) d21 := fun_ofD F21
  have m21 : mg "choices" = some (.ref (He.fAd K ("choices", none))) := He.glo_ok KX G (D.fact 21 (f := .glo "choices") rfl)
  obtain ⟨d22, F22⟩ := D.def_ 22 (d := dfn ("least_telling", 37)) rfl
  have f22 : L2.Fun K "least_telling" "least_telling" (top 37) (He.fAd K ("least_telling", none)) d22 := fun_ofD F22
  have m22 : mg "least_telling" = some (.ref (He.fAd K ("least_telling", none))) := He.glo_ok KX G (D.fact 22 (f := .glo "least_telling") rfl)
  obtain ⟨d23, F23⟩ := D.def_ 23 (d := dfn ("merged", 38)) rfl
  have f23 : L2.Fun K "merged" "merged" (top 38) (He.fAd K ("merged", none)) d23 := fun_ofD F23
  have m23 : mg "merged" = some (.ref (He.fAd K ("merged", none))) := He.glo_ok KX G (D.fact 23 (f := .glo "merged") rfl)
  obtain ⟨d24, F24⟩ := D.def_ 24 (d := dfn ("deed_sizes", 39)) rfl
  have f24 : L2.Fun K "deed_sizes" "deed_sizes" (top 39) (He.fAd K ("deed_sizes", none)) d24 := fun_ofD F24
  have m24 : mg "deed_sizes" = some (.ref (He.fAd K ("deed_sizes", none))) := He.glo_ok KX G (D.fact 24 (f := .glo "deed_sizes") rfl)
  obtain ⟨d25, F25⟩ := D.def_ 25 (d := dfn ("_law_taken", 41)) rfl
  have f25 : L2.Fun K "_law_taken" "_law_taken" (top 41) (He.fAd K ("_law_taken", none)) d25 := fun_ofD F25
  have m25 : mg "_law_taken" = some (.ref (He.fAd K ("_law_taken", none))) := He.glo_ok KX G (D.fact 25 (f := .glo "_law_taken") rfl)
  obtain ⟨d26, F26⟩ := D.def_ 26 (d := dfn ("_law_pick", 42)) rfl
  have f26 : L2.Fun K "_law_pick" "_law_pick" (top 42) (He.fAd K ("_law_pick", none)) d26 := fun_ofD F26
  have m26 : mg "_law_pick" = some (.ref (He.fAd K ("_law_pick", none))) := He.glo_ok KX G (D.fact 26 (f := .glo "_law_pick") rfl)
  obtain ⟨d27, F27⟩ := D.def_ 27 (d := dfn ("_law_alike", 43)) rfl
  have f27 : L2.Fun K "_law_alike" "_law_alike" (top 43) (He.fAd K ("_law_alike", none)) d27 := fun_ofD F27
  have m27 : mg "_law_alike" = some (.ref (He.fAd K ("_law_alike", none))) := He.glo_ok KX G (D.fact 27 (f := .glo "_law_alike") rfl)
  obtain ⟨d28, F28⟩ := D.def_ 28 (d := dfn ("_law_web", 44)) rfl
  have f28 : L2.Fun K "_law_web" "_law_web" (top 44) (He.fAd K ("_law_web", none)) d28 := fun_ofD F28
  have m28 : mg "_law_web" = some (.ref (He.fAd K ("_law_web", none))) := He.glo_ok KX G (D.fact 28 (f := .glo "_law_web") rfl)
  obtain ⟨d29, F29⟩ := D.def_ 29 (d := dfn ("_law_foes", 45)) rfl
  have f29 : L2.Fun K "_law_foes" "_law_foes" (top 45) (He.fAd K ("_law_foes", none)) d29 := fun_ofD F29
  have m29 : mg "_law_foes" = some (.ref (He.fAd K ("_law_foes", none))) := He.glo_ok KX G (D.fact 29 (f := .glo "_law_foes") rfl)
  obtain ⟨d30, F30⟩ := D.def_ 30 (d := dfn ("_law_come", 46)) rfl
  have f30 : L2.Fun K "_law_come" "_law_come" (top 46) (He.fAd K ("_law_come", none)) d30 := fun_ofD F30
  have m30 : mg "_law_come" = some (.ref (He.fAd K ("_law_come", none))) := He.glo_ok KX G (D.fact 30 (f := .glo "_law_come") rfl)
  obtain ⟨d31, F31⟩ := D.def_ 31 (d := dfn ("_law_done", 47)) rfl
  have f31 : L2.Fun K "_law_done" "_law_done" (top 47) (He.fAd K ("_law_done", none)) d31 := fun_ofD F31
  have m31 : mg "_law_done" = some (.ref (He.fAd K ("_law_done", none))) := He.glo_ok KX G (D.fact 31 (f := .glo "_law_done") rfl)
  obtain ⟨d32, F32⟩ := D.def_ 32 (d := dfn ("_law_lots", 48)) rfl
  have f32 : L2.Fun K "_law_lots" "_law_lots" (top 48) (He.fAd K ("_law_lots", none)) d32 := fun_ofD F32
  have m32 : mg "_law_lots" = some (.ref (He.fAd K ("_law_lots", none))) := He.glo_ok KX G (D.fact 32 (f := .glo "_law_lots") rfl)
  obtain ⟨d33, F33⟩ := D.def_ 33 (d := dfn ("_law_is_gathering", 49)) rfl
  have f33 : L2.Fun K "_law_is_gathering" "_law_is_gathering" (top 49) (He.fAd K ("_law_is_gathering", none)) d33 := fun_ofD F33
  have m33 : mg "_law_is_gathering" = some (.ref (He.fAd K ("_law_is_gathering", none))) := He.glo_ok KX G (D.fact 33 (f := .glo "_law_is_gathering") rfl)
  obtain ⟨d34, F34⟩ := D.def_ 34 (d := dfn ("_law_gatherings", 50)) rfl
  have f34 : L2.Fun K "_law_gatherings" "_law_gatherings" (top 50) (He.fAd K ("_law_gatherings", none)) d34 := fun_ofD F34
  have m34 : mg "_law_gatherings" = some (.ref (He.fAd K ("_law_gatherings", none))) := He.glo_ok KX G (D.fact 34 (f := .glo "_law_gatherings") rfl)
  obtain ⟨d35, F35⟩ := D.def_ 35 (d := dfn ("_law_row", 51)) rfl
  have f35 : L2.Fun K "_law_row" "_law_row" (top 51) (He.fAd K ("_law_row", none)) d35 := fun_ofD F35
  have m35 : mg "_law_row" = some (.ref (He.fAd K ("_law_row", none))) := He.glo_ok KX G (D.fact 35 (f := .glo "_law_row") rfl)
  obtain ⟨d36, F36⟩ := D.def_ 36 (d := dfn ("_law_deed", 52)) rfl
  have f36 : L2.Fun K "_law_deed" "_law_deed" (top 52) (He.fAd K ("_law_deed", none)) d36 := fun_ofD F36
  have m36 : mg "_law_deed" = some (.ref (He.fAd K ("_law_deed", none))) := He.glo_ok KX G (D.fact 36 (f := .glo "_law_deed") rfl)
  obtain ⟨d37, F37⟩ := D.def_ 37 (d := dfn ("_law_made", 53)) rfl
  have f37 : L2.Fun K "_law_made" "_law_made" (top 53) (He.fAd K ("_law_made", none)) d37 := fun_ofD F37
  have m37 : mg "_law_made" = some (.ref (He.fAd K ("_law_made", none))) := He.glo_ok KX G (D.fact 37 (f := .glo "_law_made") rfl)
  obtain ⟨d38, F38⟩ := D.def_ 38 (d := dfn ("_law_deeds", 54)) rfl
  have f38 : L2.Fun K "_law_deeds" "_law_deeds" (top 54) (He.fAd K ("_law_deeds", none)) d38 := fun_ofD F38
  have m38 : mg "_law_deeds" = some (.ref (He.fAd K ("_law_deeds", none))) := He.glo_ok KX G (D.fact 38 (f := .glo "_law_deeds") rfl)
  obtain ⟨d39, F39⟩ := D.def_ 39 (d := dfn ("_law_times", 55)) rfl
  have f39 : L2.Fun K "_law_times" "_law_times" (top 55) (He.fAd K ("_law_times", none)) d39 := fun_ofD F39
  have m39 : mg "_law_times" = some (.ref (He.fAd K ("_law_times", none))) := He.glo_ok KX G (D.fact 39 (f := .glo "_law_times") rfl)
  obtain ⟨d40, F40⟩ := D.def_ 40 (d := dfn ("law", 56)) rfl
  have f40 : L2.Fun K "law" "law" (top 56) (He.fAd K ("law", none)) d40 := fun_ofD F40
  have m40 : mg "law" = some (.ref (He.fAd K ("law", none))) := He.glo_ok KX G (D.fact 40 (f := .glo "law") rfl)
  have B : Bi mg := ⟨He.free_ok KX G (D.fact 41 (f := .free "isinstance") rfl), He.free_ok KX G (D.fact 42 (f := .free "int") rfl), He.free_ok KX G (D.fact 43 (f := .free "bool") rfl), He.free_ok KX G (D.fact 44 (f := .free "tuple") rfl), He.free_ok KX G (D.fact 45 (f := .free "list") rfl), He.free_ok KX G (D.fact 46 (f := .free "str") rfl), He.free_ok KX G (D.fact 47 (f := .free "len") rfl), He.free_ok KX G (D.fact 48 (f := .free "min") rfl), He.free_ok KX G (D.fact 49 (f := .free "max") rfl), He.free_ok KX G (D.fact 50 (f := .free "any") rfl), He.free_ok KX G (D.fact 51 (f := .free "all") rfl), He.free_ok KX G (D.fact 52 (f := .free "range") rfl), He.free_ok KX G (D.fact 53 (f := .free "sorted") rfl), He.free_ok KX G (D.fact 54 (f := .free "enumerate") rfl), He.free_ok KX G (D.fact 55 (f := .free "set") rfl)⟩
  have C : Cn mg := ⟨He.int_ok KX G (D.fact 56 (f := .int "MOST_PEOPLE" 7) rfl), He.int_ok KX G (D.fact 57 (f := .int "MOST_ROW" 30) rfl), He.int_ok KX G (D.fact 58 (f := .int "MOST_LISTED" 5) rfl), He.int_ok KX G (D.fact 59 (f := .int "MOST_GATHERINGS" 20) rfl), He.int_ok KX G (D.fact 60 (f := .int "MOST_LEAST" 4) rfl)⟩
  refine ⟨d40, fun s v => (F40.bindsA (ps := ["_law_script"]) fun _ _ _ _ _ _ us hl => match us, hl with | [_], _ => rfl) s [v] rfl, m40, fun base hT => ok_law f40 B fun R S ns => ?_⟩
  have t0 : GxR.TabB base mg (He.codeOf K ("need_web", none)) (He.tabOf K (He.codeOf K ("need_web", none))) := hT (He.cT K ("need_web", none)) (List.mem_of_getElem? (i := 0) rfl)
  have p0 : He.tabOf K (He.codeOf K ("need_web", none)) ∈ (TR K ((cs K).map (·.2)) R S ns).tabs := List.mem_of_getElem? (i := 0) rfl
  have t1 : GxR.TabB base mg (He.codeOf K ("is_lot", none)) (He.tabOf K (He.codeOf K ("is_lot", none))) := hT (He.cT K ("is_lot", none)) (List.mem_of_getElem? (i := 1) rfl)
  have p1 : He.tabOf K (He.codeOf K ("is_lot", none)) ∈ (TR K ((cs K).map (·.2)) R S ns).tabs := List.mem_of_getElem? (i := 1) rfl
  have t2 : GxR.TabB base mg (He.codeOf K ("is_gathering", none)) (He.tabOf K (He.codeOf K ("is_gathering", none))) := hT (He.cT K ("is_gathering", none)) (List.mem_of_getElem? (i := 2) rfl)
  have p2 : He.tabOf K (He.codeOf K ("is_gathering", none)) ∈ (TR K ((cs K).map (·.2)) R S ns).tabs := List.mem_of_getElem? (i := 2) rfl
  have t3 : GxR.TabB base mg (He.codeOf K ("is_row", none)) (He.tabOf K (He.codeOf K ("is_row", none))) := hT (He.cT K ("is_row", none)) (List.mem_of_getElem? (i := 3) rfl)
  have p3 : He.tabOf K (He.codeOf K ("is_row", none)) ∈ (TR K ((cs K).map (·.2)) R S ns).tabs := List.mem_of_getElem? (i := 3) rfl
  have t4 : GxR.TabB base mg (He.codeOf K ("calm_part", none)) (He.tabOf K (He.codeOf K ("calm_part", none))) := hT (He.cT K ("calm_part", none)) (List.mem_of_getElem? (i := 4) rfl)
  have p4 : He.tabOf K (He.codeOf K ("calm_part", none)) ∈ (TR K ((cs K).map (·.2)) R S ns).tabs := List.mem_of_getElem? (i := 4) rfl
  have t5 : GxR.TabB base mg (He.codeOf K ("comes", none)) (He.tabOf K (He.codeOf K ("comes", none))) := hT (He.cT K ("comes", none)) (List.mem_of_getElem? (i := 5) rfl)
  have p5 : He.tabOf K (He.codeOf K ("comes", none)) ∈ (TR K ((cs K).map (·.2)) R S ns).tabs := List.mem_of_getElem? (i := 5) rfl
  have t6 : GxR.TabB base mg (He.codeOf K ("least_telling", none)) (He.tabOf K (He.codeOf K ("least_telling", none))) := hT (He.cT K ("least_telling", none)) (List.mem_of_getElem? (i := 6) rfl)
  have p6 : He.tabOf K (He.codeOf K ("least_telling", none)) ∈ (TR K ((cs K).map (·.2)) R S ns).tabs := List.mem_of_getElem? (i := 6) rfl
  have h_is_in_ := h_is_in (P := P) (w := w) (base := base) (T := TR K ((cs K).map (·.2)) R S ns) f0 m0 B
  have h_need_web_ := h_nweb (P := P) (w := w) (base := base) (T := TR K ((cs K).map (·.2)) R S ns) (funC_of f1) t0 p0 m1 B C h_is_in_
  have h_are_foes_ := h_are (P := P) (w := w) (base := base) (T := TR K ((cs K).map (·.2)) R S ns) f2 m2 B
  have h_foes_ := h_foes (P := P) (w := w) (base := base) (T := TR K ((cs K).map (·.2)) R S ns) f3 m3 B h_are_foes_
  have h_is_lot_ := h_islot (P := P) (w := w) (base := base) (T := TR K ((cs K).map (·.2)) R S ns) (funC_of f4) t1 p1 m4 B h_is_in_
  have h_is_gathering_ := h_isg (P := P) (w := w) (base := base) (T := TR K ((cs K).map (·.2)) R S ns) (funC_of f5) t2 p2 m5 B h_is_lot_
  have h_all_lots_ := h_lots (P := P) (w := w) (base := base) (T := TR K ((cs K).map (·.2)) R S ns) f6 m6 B
  have h_all_gatherings_ := h_gath (P := P) (w := w) (base := base) (T := TR K ((cs K).map (·.2)) R S ns) f7 m7 B h_all_lots_ h_is_gathering_
  have h_came_ := h_came (P := P) (w := w) (base := base) (T := TR K ((cs K).map (·.2)) R S ns) f8 m8 B h_are_foes_
  have h_is_row_ := h_isrow (P := P) (w := w) (base := base) (T := TR K ((cs K).map (·.2)) R S ns) (funC_of f9) t3 p3 m9 B C h_is_in_
  have h_need_row_ := h_nrow (P := P) (w := w) (base := base) (T := TR K ((cs K).map (·.2)) R S ns) f10 m10 h_is_row_
  have h_trace_ := h_trace (P := P) (w := w) (base := base) (T := TR K ((cs K).map (·.2)) R S ns) f11 m11 h_came_
  have h_with_foes_ := h_with (P := P) (w := w) (base := base) (T := TR K ((cs K).map (·.2)) R S ns) f12 m12 B h_foes_
  have h_calm_part_ := h_calm (P := P) (w := w) (base := base) (T := TR K ((cs K).map (·.2)) R S ns) (funC_of f13) t4 p4 m13 B h_foes_
  have h_comes_ := h_comes (P := P) (w := w) (base := base) (T := TR K ((cs K).map (·.2)) R S ns) (funC_of f14) t5 p5 m14 B h_is_gathering_ h_is_lot_ h_calm_part_ h_with_foes_
  have h_made_ := h_made (P := P) (w := w) (base := base) (T := TR K ((cs K).map (·.2)) R S ns) f15 m15 B
  have h_need_small_ := h_nsmall (P := P) (w := w) (base := base) (T := TR K ((cs K).map (·.2)) R S ns) f16 m16 C
  have h_all_deeds_ := h_deeds (P := P) (w := w) (base := base) (T := TR K ((cs K).map (·.2)) R S ns) f17 m17 B h_all_lots_ h_all_gatherings_ h_comes_
  have h_need_some_ := h_nsome (P := P) (w := w) (base := base) (T := TR K ((cs K).map (·.2)) R S ns) f18 m18 B C h_need_web_ h_is_gathering_
  have h_tells_ := h_tells (P := P) (w := w) (base := base) (T := TR K ((cs K).map (·.2)) R S ns) f19 m19 B h_made_
  have h_tells_all_ := h_tellsA (P := P) (w := w) (base := base) (T := TR K ((cs K).map (·.2)) R S ns) f20 m20 h_need_some_ h_need_small_ h_tells_ h_all_deeds_
  have h_choices_ := h_choices (P := P) (w := w) (base := base) (T := TR K ((cs K).map (·.2)) R S ns) f21 m21 B
  have h_least_telling_ := h_least (P := P) (w := w) (base := base) (T := TR K ((cs K).map (·.2)) R S ns) (funC_of f22) t6 p6 m22 B C h_need_web_ h_all_deeds_ h_all_gatherings_ h_tells_ h_choices_
  have h_merged_ := h_merged (P := P) (w := w) (base := base) (T := TR K ((cs K).map (·.2)) R S ns) f23 m23 B h_need_web_ h_need_row_ h_trace_ h_all_gatherings_
  have h_deed_sizes_ := h_sizes (P := P) (w := w) (base := base) (T := TR K ((cs K).map (·.2)) R S ns) f24 m24 B h_need_web_ h_need_small_ h_all_deeds_
  have h__law_taken_ := h_taken (P := P) (w := w) (base := base) (tb := (cs K).map (·.2)) (R := R) (S := S) (ns := ns) f25 m25 B
  have h__law_pick_ := h_pick (P := P) (w := w) (base := base) (T := TR K ((cs K).map (·.2)) R S ns) (R := R) f26 m26 B h__law_taken_
  have h_alike0_ := h_alike0 (P := P) (w := w) (base := base) (T := TR K ((cs K).map (·.2)) R S ns) f27 m27 B
  have h_alikeT_ := h_alikeT (P := P) (w := w) (base := base) (T := TR K ((cs K).map (·.2)) R S ns) f27 m27 B
  have h__law_web_ := h_web (P := P) (w := w) (base := base) (T := TR K ((cs K).map (·.2)) R S ns) (R := R) f28 m28 B h__law_taken_
  have h__law_foes_ := h_lfoes (P := P) (w := w) (base := base) (T := TR K ((cs K).map (·.2)) R S ns) f29 m29 B
  have h__law_come_ := h_lcome (P := P) (w := w) (base := base) (T := TR K ((cs K).map (·.2)) R S ns) f30 m30 B h__law_foes_
  have h__law_done_ := h_ldone (P := P) (w := w) (base := base) (T := TR K ((cs K).map (·.2)) R S ns) f31 m31 h__law_come_
  have h__law_lots_ := h_llots (P := P) (w := w) (base := base) (T := TR K ((cs K).map (·.2)) R S ns) f32 m32 B
  have h__law_is_gathering_ := h_lisg (P := P) (w := w) (base := base) (T := TR K ((cs K).map (·.2)) R S ns) f33 m33 B
  have h__law_gatherings_ := h_lgath (P := P) (w := w) (base := base) (T := TR K ((cs K).map (·.2)) R S ns) f34 m34 B h__law_lots_ h__law_is_gathering_
  have h__law_row_ := h_lrow (P := P) (w := w) (base := base) (T := TR K ((cs K).map (·.2)) R S ns) (R := R) f35 m35 B h__law_taken_
  have h__law_deed_ := h_ldeed (P := P) (w := w) (base := base) (T := TR K ((cs K).map (·.2)) R S ns) f36 m36 B h__law_foes_
  have h__law_made_ := h_lmade (P := P) (w := w) (base := base) (T := TR K ((cs K).map (·.2)) R S ns) f37 m37 B
  have h__law_deeds_ := h_ldeeds (P := P) (w := w) (base := base) (T := TR K ((cs K).map (·.2)) R S ns) f38 m38 B h__law_deed_ h__law_made_
  have h__law_times_ := h_ltimes (P := P) (w := w) (base := base) (T := TR K ((cs K).map (·.2)) R S ns) f39 m39 B
  exact ⟨h__law_taken_, h__law_pick_, h_alike0_, h_alikeT_, h__law_web_, h__law_done_, h__law_gatherings_, h__law_row_, h__law_made_, h__law_deeds_, h__law_times_, h_tells_all_, h_deed_sizes_, h_merged_, h_least_telling_⟩
end K28

set_option Elab.async false
set_option linter.all false
set_option maxRecDepth 100000
set_option maxHeartbeats 0
open PySem PySem.W PySem.Calls PyProof.Rows
theorem PySem.Challenge.cw_foescome_k28_whole_telling_holds : PySem.Challenge.rw_foescome_k28_whole_telling.Holds := by
  w_on; o_law
  refine HandSHeadRun.head_any (r := OpenLaw.row PySem.Challenge.rw_foescome_k28_whole_telling) (q := view (OpenLaw.row PySem.Challenge.rw_foescome_k28_whole_telling).prog [56]) (H := K28.hk) (ob := K28.ob) (M := 6000) (loose := K28.others) (d := HandSHeadRun.topDef (OpenLaw.row PySem.Challenge.rw_foescome_k28_whole_telling).prog 56) (kwd := []) K28.ob_eq
    (by kernel_rfl) (fun s => by kernel_rfl) K28.run (by kernel_rfl) (by kernel_rfl) (by kernel_rfl) (by rfl) (by first | assumption | decide +kernel) (by decide +kernel) ⟨rfl, rfl, rfl, rfl, rfl, by decide +kernel⟩ ?hw ?hc
  case hw => w_witness2
  case hc =>
    refine LamX.walk_ofTsE (l := PySem.Challenge.rw_foescome_k28_whole_telling) (n := 63) (k := 8) (x := "_law_script") (CX := fun _ => L2.CX0) rfl (by decide) (by kernel_rfl) ⟨rfl, by decide, by decide⟩ ?F (fun _ _ _ _ _ z => z)
    intro w mg fa h Y G hmg0
    obtain ⟨K, KX, c⟩ := Y
    have hmg : mg ("law" : PySem.Str) = some (.ref fa) := by
      have e : (HandSHeadRun.topDef (OpenLaw.row PySem.Challenge.rw_foescome_k28_whole_telling).prog 56).name = ("law" : PySem.Str) := by kernel_rfl
      rw [← e]
      exact hmg0
    obtain ⟨fd, hb, hml, hF⟩ := K28.facts (P := (PySem.Challenge.rw_foescome_k28_whole_telling).prog) (w := w) KX G c
    have efa : fa = He.fAd K ("law", none) := by
      rw [hml] at hmg
      cases hmg
      rfl
    subst efa
    refine ⟨K, KX, fd, K28.cs K, K28.spLaw K ((K28.cs K).map (·.2)), fun p hp => ?_, fun p hp => ?_, fun p hp => ?_, hb, fun H a ns _ _ hT hS => ⟨a, ns, rfl, hS, fun P hP => ?_, fun _ => rfl⟩, fun base _ _ hTB => hF base fun p hp => ?_⟩
    · obtain ⟨q, hq, rfl⟩ := List.mem_map.mp hp
      exact c.empty q hq
    · obtain ⟨q, hq, rfl⟩ := List.mem_map.mp hp
      exact c.out q hq
    · obtain ⟨q, hq, rfl⟩ := List.mem_map.mp hp
      exact codeHd_of_K KX (c.hd q hq)
    · obtain ⟨p, hp, rfl⟩ := List.mem_map.mp hP
      exact ⟨#[], hT p hp, trivial⟩
    · have t := hTB p hp
      exact ⟨t.code, t.bm, t.gP⟩
