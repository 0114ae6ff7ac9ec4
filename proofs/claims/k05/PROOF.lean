import PyProof.Rows.All
import Wide.All
import OpenK.AllK
import Wide.FinOn
import HandS.ForMost
import HandS.Walk
import HandS.Conv
import HandS.Deep
import PyProof.ReprRoads
import PyProof.ReprReads
import HandS.TupAny
import HandS.Wide
import HandS.Style
import HandS.IsInst
import HandS.SortInts
import HandS.StrMore
import HandS.RaiseMore
import KE.GoesEnum
import HandS.Codes
import PySem.Challenge.RW_givesifgets_k05_tokens_and_their_places
set_option Elab.async false
set_option linter.all false
set_option maxRecDepth 100000
set_option maxHeartbeats 2000000
/-! Dl1: data (PyData) in place of heaps: what a reading means where every value is data, some locals are lists of one's own, and one argument is a source of draws -/
namespace DL
open PySem PySem.Spec PyProof.Rows L2

/-! ### heaps: F is the part that never changes -/
theorem same_new {H : Hp} {p : Addr} {o : HO} (h : H p = none) : Same H (upd H p o) := fun b u e => by
  rw [upd_ne (ne_of_none e h)]
  exact e
theorem seqT_mono {K : PySem.W.Frag} {H H' : Hp} {a : Addr} {xs : List V} (e : Same H H') (h : SqT K H a xs) : SqT K H' a xs := by
  rcases h with (h | ⟨o, h⟩) | h
  · exact .inl (.inl (e _ _ h))
  · exact .inl (.inr ⟨o, e _ _ h⟩)
  · exact .inr h
mutual
/-- v is the data d, all of it in F: a list is a tracked one, a tuple is any that may be read, a dict is the empty one -/
inductive Dv (K : PySem.W.Frag) (F : Hp) : V → PyData → Prop
  | non : Dv K F .non .none
  | bl (b : Bool) : Dv K F (.bl b) (.bool b)
  | int (i : Int) : Dv K F (.int i) (.int i)
  | str (x : Str) : Dv K F (.str x) (.str x)
  | lst {a : Addr} {xs : List V} {ds : List PyData} : F a = some (.lst xs) → DvAll K F xs ds → Dv K F (.ref a) (.list ds)
  | tup {a : Addr} {xs : List V} {ds : List PyData} : SqT K F a xs → DvAll K F xs ds → Dv K F (.ref a) (.tuple ds)
  | dic {a : Addr} : F a = some (.dK []) → Dv K F (.ref a) (.dict [])
inductive DvAll (K : PySem.W.Frag) (F : Hp) : List V → List PyData → Prop
  | nil : DvAll K F [] []
  | cons {v : V} {vs : List V} {d : PyData} {ds : List PyData} : Dv K F v d → DvAll K F vs ds → DvAll K F (v :: vs) (d :: ds)
end
mutual
theorem dv_mono {K : PySem.W.Frag} {F F' : Hp} (e : Same F F') : ∀ (d : PyData) (v : V), Dv K F v d → Dv K F' v d
  | .none, _, h => by cases h; exact .non
  | .bool b, _, h => by cases h; exact .bl b
  | .int i, _, h => by cases h; exact .int i
  | .str x, _, h => by cases h; exact .str x
  | .list ds, _, h => by
    cases h with
    | lst hs ha => exact .lst (e _ _ hs) (dvAll_mono e ds _ ha)
  | .tuple ds, _, h => by
    cases h with
    | tup hs ha => exact .tup (seqT_mono e hs) (dvAll_mono e ds _ ha)
  | .dict _, _, h => by
    cases h with
    | dic hs => exact .dic (e _ _ hs)
theorem dvAll_mono {K : PySem.W.Frag} {F F' : Hp} (e : Same F F') : ∀ (ds : List PyData) (vs : List V), DvAll K F vs ds → DvAll K F' vs ds
  | [], _, h => by cases h; exact .nil
  | d :: ds, _, h => by
    cases h with
    | cons h1 h2 => exact .cons (dv_mono e d _ h1) (dvAll_mono e ds _ h2)
end
mutual
/-- .. as the library's own data relation -/
theorem dv_dp {K : PySem.W.Frag} {F : Hp} : ∀ (d : PyData) (v : V), d.hasDict = false → Dv K F v d → Dp K F v d
  | .none, _, _, h => by cases h; exact .non
  | .bool b, _, _, h => by cases h; exact .bl b
  | .int i, _, _, h => by cases h; exact .int i
  | .str x, _, _, h => by cases h; exact .str x
  | .list ds, _, n, h => by
    cases h with
    | lst hs ha => exact .lst (SqL.of hs) (dvAll_dp ds _ (by simpa [PyData.hasDict] using n) ha)
  | .tuple ds, _, n, h => by
    cases h with
    | tup hs ha => exact .tup hs (dvAll_dp ds _ (by simpa [PyData.hasDict] using n) ha)
  | .dict _, _, n, h => by simp [PyData.hasDict] at n
theorem dvAll_dp {K : PySem.W.Frag} {F : Hp} : ∀ (ds : List PyData) (vs : List V), PyData.hasDictAll ds = false → DvAll K F vs ds → DpAll K F vs ds
  | [], _, _, h => by cases h; exact .nil
  | d :: ds, _, n, h => by
    cases h with
    | cons h1 h2 =>
      simp only [PyData.hasDictAll, Bool.or_eq_false_iff] at n
      exact .cons (dv_dp d _ n.1 h1) (dvAll_dp ds _ n.2 h2)
end
theorem DvAll.length {K : PySem.W.Frag} {F : Hp} : ∀ {vs : List V} {ds : List PyData}, DvAll K F vs ds → vs.length = ds.length
  | _, [], h => by cases h; rfl
  | _, d :: ds, h => by
    cases h with
    | cons _ h2 => simp [DvAll.length h2]
theorem DvAll.get {K : PySem.W.Frag} {F : Hp} : ∀ {vs : List V} {ds : List PyData} {i : Nat} {d : PyData}, DvAll K F vs ds → ds[i]? = some d → ∃ v, vs[i]? = some v ∧ Dv K F v d
  | _, [], _, _, h, e => by simp at e
  | _, d :: ds, 0, _, h, e => by
    cases h with
    | cons h1 h2 =>
      have e' : d = _ := Option.some.inj e
      subst e'
      exact ⟨_, rfl, h1⟩
  | _, d :: ds, i + 1, _, h, e => by
    cases h with
    | cons h1 h2 => exact DvAll.get (i := i) h2 e
theorem DvAll.getV {K : PySem.W.Frag} {F : Hp} : ∀ {vs : List V} {ds : List PyData} {i : Nat} {v : V}, DvAll K F vs ds → vs[i]? = some v → ∃ d, ds[i]? = some d ∧ Dv K F v d
  | _, [], _, _, h, e => by cases h; simp at e
  | _, d :: ds, 0, _, h, e => by
    cases h with
    | cons h1 h2 =>
      have e' := Option.some.inj e
      subst e'
      exact ⟨_, rfl, h1⟩
  | _, d :: ds, i + 1, _, h, e => by
    cases h with
    | cons h1 h2 => exact DvAll.getV (i := i) h2 e
theorem DvAll.append {K : PySem.W.Frag} {F : Hp} : ∀ {vs : List V} {ds : List PyData} {ws : List V} {es : List PyData}, DvAll K F vs ds → DvAll K F ws es → DvAll K F (vs ++ ws) (ds ++ es)
  | _, [], _, _, h, g => by cases h; exact g
  | _, d :: ds, _, _, h, g => by
    cases h with
    | cons h1 h2 => exact .cons h1 (DvAll.append h2 g)
theorem DvAll.take {K : PySem.W.Frag} {F : Hp} (n : Nat) : ∀ {vs : List V} {ds : List PyData}, DvAll K F vs ds → DvAll K F (vs.take n) (ds.take n) := by
  induction n with
  | zero => intro vs ds _; simp; exact .nil
  | succ n ih =>
    intro vs ds h
    cases h with
    | nil => exact .nil
    | cons h1 h2 => exact .cons h1 (ih h2)
theorem DvAll.drop {K : PySem.W.Frag} {F : Hp} (n : Nat) : ∀ {vs : List V} {ds : List PyData}, DvAll K F vs ds → DvAll K F (vs.drop n) (ds.drop n) := by
  induction n with
  | zero => intro vs ds h; simpa using h
  | succ n ih =>
    intro vs ds h
    cases h with
    | nil => exact .nil
    | cons h1 h2 => exact ih h2
theorem DvAll.set {K : PySem.W.Frag} {F : Hp} {v : V} {d : PyData} (h : Dv K F v d) : ∀ {vs : List V} {ds : List PyData} (i : Nat), DvAll K F vs ds → DvAll K F (vs.set i v) (ds.set i d)
  | _, _, _, .nil => .nil
  | _, _, 0, .cons _ t => .cons h t
  | _, _, i + 1, .cons q t => .cons q (DvAll.set h i t)
theorem DvAll.reverse {K : PySem.W.Frag} {F : Hp} : ∀ {vs : List V} {ds : List PyData}, DvAll K F vs ds → DvAll K F vs.reverse ds.reverse
  | _, [], h => by cases h; exact .nil
  | _, d :: ds, h => by
    cases h with
    | cons h1 h2 =>
      rw [List.reverse_cons, List.reverse_cons]
      exact DvAll.append (DvAll.reverse h2) (.cons h1 .nil)
theorem dvAll_ints {K : PySem.W.Frag} {F : Hp} : ∀ ns : List Int, DvAll K F (ns.map V.int) (ns.map PyData.int)
  | [] => .nil
  | n :: ns => .cons (.int n) (dvAll_ints ns)
theorem dvAll_ints_inv {K : PySem.W.Frag} {F : Hp} : ∀ {ns : List Int} {vs : List V}, DvAll K F vs (ns.map PyData.int) → vs = ns.map V.int
  | [], _, h => by cases h; rfl
  | n :: ns, _, h => by
    cases h with
    | cons h1 h2 =>
      cases h1
      rw [dvAll_ints_inv h2]
      rfl
theorem dvAll_strs_inv {K : PySem.W.Frag} {F : Hp} : ∀ {ns : List Str} {vs : List V}, DvAll K F vs (ns.map PyData.str) → vs = ns.map V.str
  | [], _, h => by cases h; rfl
  | n :: ns, _, h => by
    cases h with
    | cons h1 h2 =>
      cases h1
      rw [dvAll_strs_inv h2]
      rfl

/-- the source of draws: the addresses of its list and of the list of great cells within it -/
def InD (dl : Option (Addr × Addr)) (a : Addr) : Prop := match dl with
  | none => False
  | some (p, q) => a = p ∨ a = q
/-- F, H grow: F only gets more; what H has stays, but for the source of draws; what H had outside of F does not come into F -/
structure Gr (dl : Option (Addr × Addr)) (F H F' H' : Hp) : Prop where
  f : Same F F'
  ex : Same F' H'
  h : ∀ a o, H a = some o → ¬ InD dl a → H' a = some o
  dom : ∀ a o, H a = some o → ∃ o', H' a = some o'
  ap : ∀ a o, H a = some o → F a = none → F' a = none
section
variable {dl : Option (Addr × Addr)} {F H F' H' F1 H1 F2 H2 : Hp} {p : Addr} {o : HO}
theorem Gr.refl (e : Same F H) : Gr dl F H F H := ⟨Same.refl F, e, fun _ _ h _ => h, fun _ o h => ⟨o, h⟩, fun _ _ _ h => h⟩
theorem Gr.trans (a : Gr dl F H F1 H1) (b : Gr dl F1 H1 F2 H2) : Gr dl F H F2 H2 :=
  ⟨a.f.trans b.f, b.ex, fun x o h n => b.h x o (a.h x o h n) n, fun x o h => let ⟨o', h'⟩ := a.dom x o h; b.dom x o' h', fun x o h n => let ⟨o', h'⟩ := a.dom x o h; b.ap x o' h' (a.ap x o h n)⟩
theorem Gr.weak (a : Gr none F H F' H') : Gr dl F H F' H' := ⟨a.f, a.ex, fun x o h _ => a.h x o h (fun z => z), a.dom, a.ap⟩
theorem Gr.same (a : Gr none F H F' H') : Same H H' := fun x o h => a.h x o h fun z => z
/-- a new object that stays as it is -/
theorem Gr.new (e : Same F H) (hp : H p = none) : Gr dl F H (upd F p o) (upd H p o) := by
  have fp : F p = none := e.free hp
  refine ⟨DL.same_new fp, fun b u q => ?_, fun a u h _ => DL.same_new hp a u h, fun a u h => ⟨u, DL.same_new hp a u h⟩, fun a u h n => ?_⟩
  · by_cases hb : b = p
    · subst hb
      rw [upd_same] at q ⊢
      exact q
    · rw [upd_ne hb] at q ⊢
      exact e b u q
  · rw [upd_ne (ne_of_none h hp)]
    exact n
/-- a new object, not (yet) of F -/
theorem Gr.tmp (e : Same F H) (hp : H p = none) : Gr dl F H F (upd H p o) :=
  ⟨Same.refl F, e.trans (DL.same_new hp), fun a u h _ => DL.same_new hp a u h, fun a u h => ⟨u, DL.same_new hp a u h⟩, fun _ _ _ n => n⟩
/-- what is new is put into F -/
theorem Gr.frz (g : Gr dl F H F' H') (hp : H p = none) (hp' : H' p = some o) : Gr dl F H (upd F' p o) H' ∧ (F' p = none → Same F' (upd F' p o)) := by
  refine ⟨⟨fun b u q => ?_, fun b u q => ?_, g.h, g.dom, fun a u h n => ?_⟩, fun n => DL.same_new n⟩
  · by_cases hb : b = p
    · subst hb
      have e1 := g.ex _ _ (g.f _ _ q)
      rw [hp'] at e1
      rw [upd_same]
      exact e1
    · rw [upd_ne hb]
      exact g.f b u q
  · by_cases hb : b = p
    · subst hb
      rw [upd_same] at q
      exact hp'.trans q
    · rw [upd_ne hb] at q
      exact g.ex b u q
  · rw [upd_ne (ne_of_none h hp)]
    exact g.ap a u h n
end

/-! ### what stands in a slot -/
inductive Slot where
  /-- nothing is known -/
  | emp
  /-- data -/
  | dat (d : PyData)
  /-- a list of one's own, nobody else holds it -/
  | own (xs : List PyData)
  /-- the source of draws -/
  | deal
abbrev En := List Slot
abbrev DS := Option (List Int × Int)

structure Rel (K : PySem.W.Frag) (B : Addr → Prop) (F H : Hp) (dl : Option (Addr × Addr)) (σ : L2.St) (env : En) (ds : DS) : Prop where
  ex : Same F H
  bh : ∀ a, B a → H a ≠ none
  len : σ.length = env.length
  dat : ∀ (i : Nat) d, env[i]? = some (.dat d) → ∃ v, σ[i]? = some (some v) ∧ Dv K F v d
  mt : ∀ (i : Nat) xs, env[i]? = some (.own xs) → ∃ p vs, σ[i]? = some (some (.ref p)) ∧ H p = some (.lst vs) ∧ F p = none ∧ ¬ B p ∧ ¬ InD dl p ∧ DvAll K F vs xs
  dist : ∀ (i j : Nat) xs ys p, i ≠ j → env[i]? = some (.own xs) → env[j]? = some (.own ys) → σ[i]? = some (some (.ref p)) → σ[j]? ≠ some (some (.ref p))
  dea : (dl = none ∧ ds = none) ∨ ∃ p q cells blend, dl = some (p, q) ∧ ds = some (cells, blend) ∧ p ≠ q ∧ H p = some (.lst [.ref q, .int blend]) ∧ H q = some (.lst (cells.map V.int)) ∧ F p = none ∧ F q = none ∧ ¬ B p ∧ ¬ B q
  dsl : ∀ (i : Nat), env[i]? = some .deal → ∃ p q, dl = some (p, q) ∧ σ[i]? = some (some (.ref p))

section
variable {K : PySem.W.Frag} {B : Addr → Prop} {dl : Option (Addr × Addr)} {F H F' H' F1 H1 F2 H2 : Hp} {σ : L2.St} {env : En} {ds : DS} {p : Addr} {o : HO}
theorem Rel.grow (r : Rel K B F H dl σ env ds) (g : Gr none F H F' H') : Rel K B F' H' dl σ env ds := by
  refine ⟨g.ex, fun a b => ?_, r.len, fun i d e => ?_, fun i xs e => ?_, r.dist, ?_, r.dsl⟩
  · cases q : H a with
    | none => exact absurd q (r.bh a b)
    | some o =>
      obtain ⟨o', e⟩ := g.dom a o q
      rw [e]
      exact fun z => nomatch z
  · obtain ⟨v, h1, h2⟩ := r.dat i d e
    exact ⟨v, h1, dv_mono g.f d v h2⟩
  · obtain ⟨p, vs, h1, h2, h3, h4, h5, h6⟩ := r.mt i xs e
    exact ⟨p, vs, h1, g.same _ _ h2, g.ap _ _ h2 h3, h4, h5, dvAll_mono g.f xs vs h6⟩
  · rcases r.dea with h | ⟨p, q, cells, blend, h1, h2, h3, h4, h5, h6, h7, h8, h9⟩
    · exact .inl h
    · exact .inr ⟨p, q, cells, blend, h1, h2, h3, g.same _ _ h4, g.same _ _ h5, g.ap _ _ h4 h6, g.ap _ _ h5 h7, h8, h9⟩

/-- data, or a list that may still change, its items data -/
def Bp (K : PySem.W.Frag) (dl : Option (Addr × Addr)) (F H : Hp) (v : V) (d : PyData) : Prop :=
  Dv K F v d ∨ ∃ p vs xs, v = .ref p ∧ d = .list xs ∧ H p = some (.lst vs) ∧ ¬ InD dl p ∧ DvAll K F vs xs
theorem Bp.of {v : V} {d : PyData} (h : Dv K F v d) : Bp K dl F H v d := .inl h
theorem Bp.mono {v : V} {d : PyData} (g : Gr dl F H F' H') (h : Bp K dl F H v d) : Bp K dl F' H' v d := by
  rcases h with h | ⟨p, vs, xs, h1, h2, h3, h4, h5⟩
  · exact .inl (dv_mono g.f d v h)
  · exact .inr ⟨p, vs, xs, h1, h2, g.h _ _ h3 h4, h4, dvAll_mono g.f xs vs h5⟩
theorem Bp.dv {v : V} {d : PyData} (e : Same F H) (h : Bp K dl F H v d) : Dv K H v d := by
  rcases h with h | ⟨p, vs, xs, rfl, rfl, h3, h4, h5⟩
  · exact dv_mono e d v h
  · exact .lst h3 (dvAll_mono e xs vs h5)
theorem Bp.list {v : V} {xs : List PyData} (e : Same F H) (h : Bp K dl F H v (.list xs)) : ∃ p vs, v = .ref p ∧ H p = some (.lst vs) ∧ DvAll K F vs xs := by
  rcases h with h | ⟨p, vs, xs', rfl, h2, h3, h4, h5⟩
  · cases h with
    | lst hs ha => exact ⟨_, _, rfl, e _ _ hs, ha⟩
  · injection h2 with h2
    subst h2
    exact ⟨p, vs, rfl, h3, h5⟩
theorem Bp.tuple {v : V} {xs : List PyData} (e : Same F H) (h : Bp K dl F H v (.tuple xs)) : ∃ p vs, v = .ref p ∧ SqT K F p vs ∧ DvAll K F vs xs := by
  rcases h with h | ⟨p, vs, xs', rfl, h2, h3, h4, h5⟩
  · cases h with
    | tup hs ha => exact ⟨_, _, rfl, hs, ha⟩
  · cases h2
theorem Bp.int {v : V} {i : Int} (h : Bp K dl F H v (.int i)) : v = .int i := by
  rcases h with h | ⟨p, vs, xs', rfl, h2, h3, h4, h5⟩
  · cases h; rfl
  · cases h2
theorem Bp.bool {v : V} {b : Bool} (h : Bp K dl F H v (.bool b)) : v = .bl b := by
  rcases h with h | ⟨p, vs, xs', rfl, h2, h3, h4, h5⟩
  · cases h; rfl
  · cases h2
theorem Bp.str {v : V} {x : Str} (h : Bp K dl F H v (.str x)) : v = .str x := by
  rcases h with h | ⟨p, vs, xs', rfl, h2, h3, h4, h5⟩
  · cases h; rfl
  · cases h2
theorem Bp.none {v : V} (h : Bp K dl F H v .none) : v = .non := by
  rcases h with h | ⟨p, vs, xs', rfl, h2, h3, h4, h5⟩
  · cases h; rfl
  · cases h2
end

/-! ### what is reckoned: a function of the slots and the draws -/
abbrev M (α : Type) := En → DS → Option (α × DS)
def mr {α : Type} (x : α) : M α := fun _ ds => some (x, ds)
def mo {α : Type} (x : Option α) : M α := fun _ ds => x.map fun y => (y, ds)
def mb {α β : Type} (a : M α) (k : α → M β) : M β := fun env ds => match a env ds with
  | none => none
  | some (x, ds') => k x env ds'
theorem mb_some {α β : Type} {a : M α} {k : α → M β} {env : En} {ds ds2 : DS} {y : β} (h : mb a k env ds = some (y, ds2)) : ∃ x ds1, a env ds = some (x, ds1) ∧ k x env ds1 = some (y, ds2) := by
  unfold mb at h
  cases q : a env ds with
  | none => rw [q] at h; cases h
  | some z => obtain ⟨x, ds1⟩ := z; rw [q] at h; exact ⟨x, ds1, rfl, h⟩
theorem mo_some {α : Type} {x : Option α} {env : En} {ds ds2 : DS} {y : α} (h : mo x env ds = some (y, ds2)) : x = some y ∧ ds2 = ds := by
  unfold mo at h
  cases x with
  | none => cases h
  | some z =>
    have e := Option.some.inj h
    injection e with e1 e2
    exact ⟨by rw [e1], e2.symm⟩
theorem mr_some {α : Type} {x : α} {env : En} {ds ds2 : DS} {y : α} (h : mr x env ds = some (y, ds2)) : x = y ∧ ds2 = ds := by
  have e := Option.some.inj h
  injection e with e1 e2
  exact ⟨e1, e2.symm⟩

/-! ### readings -/
/-- an expression: data -/
def RE (K : PySem.W.Frag) (m : M PyData) : TE := fun σ H Q => ∃ B F dl env ds d ds', Rel K B F H dl σ env ds ∧ m env ds = some (d, ds') ∧ ∀ v F' H', Rel K B F' H' dl σ env ds' → Gr dl F H F' H' → Dv K F' v d → Q v H'
/-- an expression: data, or a list of one's own -/
def RB (K : PySem.W.Frag) (m : M PyData) : TE := fun σ H Q => ∃ B F dl env ds d ds', Rel K B F H dl σ env ds ∧ m env ds = some (d, ds') ∧ ∀ v F' H', Rel K B F' H' dl σ env ds' → Gr dl F H F' H' → Bp K dl F' H' v d → Q v H'
/-- an expression: a new list -/
def RN (K : PySem.W.Frag) (m : M (List PyData)) : TE := fun σ H Q => ∃ B F dl env ds xs ds', Rel K B F H dl σ env ds ∧ m env ds = some (xs, ds') ∧ ∀ p vs F' H', Rel K B F' H' dl σ env ds' → Gr dl F H F' H' → H p = none → F' p = none → H' p = some (.lst vs) → DvAll K F' vs xs → Q (.ref p) H'
/-- a test -/
def RT (K : PySem.W.Frag) (m : M Bool) : TT := fun σ H Q => ∃ B F dl env ds b ds', Rel K B F H dl σ env ds ∧ m env ds = some (b, ds') ∧ ∀ F' H', Rel K B F' H' dl σ env ds' → Gr dl F H F' H' → Q b H'
/-- arguments -/
def RA (K : PySem.W.Frag) (m : M (List PyData)) : TA := fun σ H Q => ∃ B F dl env ds xs ds', Rel K B F H dl σ env ds ∧ m env ds = some (xs, ds') ∧ ∀ vs F' H', Rel K B F' H' dl σ env ds' → Gr dl F H F' H' → DvAll K F' vs xs → Q vs H'

section
variable {X : Cx} {e : Expr} {es : List Expr}
theorem pe_imp {t t' : TE} (h : PE X e t) (k : ∀ σ H Q, t' σ H Q → t σ H Q) : PE X e t' := ⟨fun pins s σ H Q I q => h.run pins s σ H Q I (k σ H Q q)⟩
theorem pt_imp {t t' : TT} (h : PT X e t) (k : ∀ σ H Q, t' σ H Q → t σ H Q) : PT X e t' := ⟨fun pins s σ H Q I q => h.run pins s σ H Q I (k σ H Q q)⟩
theorem pw_imp {t t' : TT} (h : PW X e t) (k : ∀ σ H Q, t' σ H Q → t σ H Q) : PW X e t' := ⟨fun wh pins s σ H Q I q => h.run wh pins s σ H Q I (k σ H Q q)⟩
theorem pa_imp {t t' : TA} (h : PA X es t) (k : ∀ σ H Q, t' σ H Q → t σ H Q) : PA X es t' := ⟨fun pos pins s σ H Q I q => h.run pos pins s σ H Q I (k σ H Q q)⟩
theorem ps_imp {st : Stmt} {t t' : TS} (h : PS X st t) (k : ∀ D σ H, t' D σ H → t D σ H) : PS X st t' := ⟨fun pins s σ H D I q => h.run pins s σ H D I (k D σ H q)⟩
theorem pss_imp {st : List Stmt} {t t' : TS} (h : PSs X st t) (k : ∀ D σ H, t' D σ H → t D σ H) : PSs X st t' := ⟨fun pins s σ H D I q => h.run pins s σ H D I (k D σ H q)⟩
theorem pi_imp {tg : Expr} {t t' : TI} (h : PI X tg e t) (k : ∀ σ H R, t' σ H R → t σ H R) : PI X tg e t' := ⟨fun pins s σ H R I q => h.run pins s σ H R I (k σ H R q)⟩
theorem pi_or {tg : Expr} {t t' : TI} (h : PI X tg e t) (h' : PI X tg e t') : PI X tg e (fun σ H R => t σ H R ∨ t' σ H R) := ⟨fun pins s σ H R I q => q.elim (h.run pins s σ H R I) (h'.run pins s σ H R I)⟩
theorem pe_or2 {t t' : TE} (h : PE X e t) (h' : PE X e t') : PE X e (fun σ H Q => t σ H Q ∨ t' σ H Q) := ⟨fun pins s σ H Q I q => q.elim (h.run pins s σ H Q I) (h'.run pins s σ H Q I)⟩
/-- data are borrowed data -/
theorem rb {m : M PyData} (h : PE X e (RE X.K m)) : PE X e (RB X.K m) := pe_imp h fun σ H Q ⟨B, F, dl, env, ds, d, ds', r, hm, k⟩ => ⟨B, F, dl, env, ds, d, ds', r, hm, fun v F' H' r' g dp => k v F' H' r' g (.inl dp)⟩
def mlst (m : M (List PyData)) : M PyData := mb m fun xs => mr (.list xs)
def mtup (m : M (List PyData)) : M PyData := mb m fun xs => mr (.tuple xs)
theorem Rel.frz {K : PySem.W.Frag} {B : Addr → Prop} {dl : Option (Addr × Addr)} {F H F' H' : Hp} {σ : L2.St} {env : En} {ds ds' : DS} {p : Addr} {vs : List V} (r0 : Rel K B F H dl σ env ds) (r : Rel K B F' H' dl σ env ds') (hp : H p = none) (fp : F' p = none) (hp' : H' p = some (.lst vs)) : Rel K B (upd F' p (.lst vs)) H' dl σ env ds' := by
  have fs : Same F' (upd F' p (.lst vs)) := DL.same_new fp
  refine ⟨fun b u q => ?_, r.bh, r.len, fun i d e => ?_, fun i xs e => ?_, r.dist, ?_, r.dsl⟩
  · by_cases hb : b = p
    · subst hb
      rw [upd_same] at q
      exact hp'.trans q
    · rw [upd_ne hb] at q
      exact r.ex b u q
  · obtain ⟨v, h1, h2⟩ := r.dat i d e
    exact ⟨v, h1, dv_mono fs d v h2⟩
  · obtain ⟨a, ws, h1, h2, h3, h4, h5, h6⟩ := r.mt i xs e
    obtain ⟨a', ws', g1, g2, _⟩ := r0.mt i xs e
    have ea : a = a' := by
      have q := h1.symm.trans g1
      simpa using q
    have ne : a ≠ p := by
      intro z
      rw [ea] at z
      rw [z, hp] at g2
      cases g2
    exact ⟨a, ws, h1, h2, by rw [upd_ne ne]; exact h3, h4, h5, dvAll_mono fs xs ws h6⟩
  · rcases r.dea with h | ⟨a, q, cells, blend, h1, h2, h3, h4, h5, h6, h7, h8, h9⟩
    · exact .inl h
    · rcases r0.dea with h | ⟨a', q', cells', blend', g1, g2, g3, g4, g5, _⟩
      · rw [h.1] at h1; cases h1
      · rw [h1] at g1
        cases g1
        have n1 : a ≠ p := fun z => by rw [z, hp] at g4; cases g4
        have n2 : q ≠ p := fun z => by rw [z, hp] at g5; cases g5
        exact .inr ⟨a, q, cells, blend, h1, h2, h3, h4, h5, by rw [upd_ne n1]; exact h6, by rw [upd_ne n2]; exact h7, h8, h9⟩
/-- a new list is data from now on -/
theorem frz {m : M (List PyData)} (h : PE X e (RN X.K m)) : PE X e (RE X.K (mlst m)) := pe_imp h fun σ H Q ⟨B, F, dl, env, ds, d, ds', r, hm, k⟩ => by
  obtain ⟨xs, ds1, h1, h2⟩ := mb_some hm
  obtain ⟨rfl, rfl⟩ := mr_some h2
  refine ⟨B, F, dl, env, ds, xs, _, r, h1, fun p vs F' H' r' g hp fp hp' ha => ?_⟩
  refine k (.ref p) (upd F' p (.lst vs)) H' (Rel.frz r r' hp fp hp') (g.frz hp hp').1 ?_
  exact .lst upd_same (dvAll_mono (DL.same_new fp) xs vs ha)
end
end DL

set_option Elab.async false
set_option linter.all false
set_option maxRecDepth 100000
set_option maxHeartbeats 2000000
/-! Dl2: expressions over data -/
namespace DL
open PySem PySem.Spec PyProof.Rows L2

/-- z may be handed on -/
def Gives (K : PySem.W.Frag) (F H : Hp) (z : PyData) (Q : VK) : Prop := ∀ v F' H', Gr none F H F' H' → Dv K F' v z → Q v H'
section
variable {K : PySem.W.Frag} {F H : Hp} {z : PyData} {Q : VK} {v : V} {p : Addr} {vs : List V} {ds : List PyData}
theorem Gives.val (g : Gives K F H z Q) (e : Same F H) (h : Dv K F v z) : Q v H := g v F H (Gr.refl e) h
theorem Gives.newT (g : Gives K F H (.tuple ds) Q) (e : Same F H) (hp : H p = none) (h : DvAll K F vs ds) : Q (.ref p) (upd H p (.tup vs)) :=
  g _ _ _ (Gr.new e hp) (.tup (SqT.of upd_same) (dvAll_mono (DL.same_new (e.free hp)) ds vs h))
theorem Gives.newL (g : Gives K F H (.list ds) Q) (e : Same F H) (hp : H p = none) (h : DvAll K F vs ds) : Q (.ref p) (upd H p (.lst vs)) :=
  g _ _ _ (Gr.new e hp) (.lst upd_same (dvAll_mono (DL.same_new (e.free hp)) ds vs h))
end
/-- an operation on two values does on data what f says -/
def O2 (K : PySem.W.Frag) (r : R2) (f : PyData → PyData → Option PyData) : Prop := ∀ dl F H x y d e z, Same F H → Bp K dl F H x d → Bp K dl F H y e → f d e = some z → ∀ Q : VK, Gives K F H z Q → r x y H Q
def O2B (K : PySem.W.Frag) (r : R2) (f : PyData → PyData → Option Bool) : Prop := ∀ dl F H x y d e z, Same F H → Bp K dl F H x d → Bp K dl F H y e → f d e = some z → ∀ Q : VK, Q (.bl z) H → r x y H Q
def O1 (K : PySem.W.Frag) (r : V → Hp → VK → Prop) (f : PyData → Option PyData) : Prop := ∀ dl F H x d z, Same F H → Bp K dl F H x d → f d = some z → ∀ Q : VK, Gives K F H z Q → r x H Q
def BpAll (K : PySem.W.Frag) (dl : Option (Addr × Addr)) (F H : Hp) : List V → List PyData → Prop
  | [], [] => True
  | v :: vs, d :: ds => Bp K dl F H v d ∧ BpAll K dl F H vs ds
  | _, _ => False
theorem BpAll.mono {K : PySem.W.Frag} {dl : Option (Addr × Addr)} {F H F' H' : Hp} (g : Gr dl F H F' H') : ∀ {vs : List V} {ds : List PyData}, BpAll K dl F H vs ds → BpAll K dl F' H' vs ds
  | [], [], _ => True.intro
  | v :: vs, d :: ds, h => ⟨h.1.mono g, BpAll.mono g h.2⟩
  | [], _ :: _, h => h.elim
  | _ :: _, [], h => h.elim
/-- a call of values -/
def OB (K : PySem.W.Frag) (r : List V → Hp → VK → Prop) (f : List PyData → Option PyData) : Prop := ∀ dl F H vs ds z, Same F H → BpAll K dl F H vs ds → f ds = some z → ∀ Q : VK, Gives K F H z Q → r vs H Q
theorem bp1 {K : PySem.W.Frag} {dl : Option (Addr × Addr)} {F H : Hp} {vs : List V} {d : PyData} (h : BpAll K dl F H vs [d]) : ∃ v, vs = [v] ∧ Bp K dl F H v d := by
  cases vs with
  | nil => exact h.elim
  | cons v vs =>
    cases vs with
    | nil => exact ⟨v, rfl, h.1⟩
    | cons _ _ => exact h.2.elim
theorem bp2 {K : PySem.W.Frag} {dl : Option (Addr × Addr)} {F H : Hp} {vs : List V} {d e : PyData} (h : BpAll K dl F H vs [d, e]) : ∃ v u, vs = [v, u] ∧ Bp K dl F H v d ∧ Bp K dl F H u e := by
  cases vs with
  | nil => exact h.elim
  | cons v vs =>
    obtain ⟨u, rfl, h2⟩ := bp1 h.2
    exact ⟨v, u, rfl, h.1, h2⟩

/-! ### the words of the reckoning -/
def e1 (f : PyData → Option PyData) (a : M PyData) : M PyData := mb a fun d => mo (f d)
def e2 (f : PyData → PyData → Option PyData) (a b : M PyData) : M PyData := mb a fun d => mb b fun e => mo (f d e)
def t2 (f : PyData → PyData → Option Bool) (a b : M PyData) : M Bool := mb a fun d => mb b fun e => mo (f d e)
/-- a test's answer as a value -/
def bv (t : M Bool) : M PyData := mb t fun b => mr (.bool b)
def asBool : PyData → Option Bool
  | .bool b => some b
  | _ => none
/-- a bool as a test -/
def vt (a : M PyData) : M Bool := mb a fun d => mo (asBool d)
def tAnd (a b : M Bool) : M Bool := mb a fun c => if c = true then b else mr false
def tOr (a b : M Bool) : M Bool := mb a fun c => if c = true then mr true else b
def tNot (a : M Bool) : M Bool := mb a fun c => mr (!c)
def eIf (t : M Bool) (a b : M PyData) : M PyData := mb t fun c => if c = true then a else b
def mseq : List (M PyData) → M (List PyData)
  | [] => mr []
  | m :: ms => mb m fun x => mb (mseq ms) fun xs => mr (x :: xs)
theorem mseq_len : ∀ {ms : List (M PyData)} {env : En} {ds ds' : DS} {xs : List PyData}, mseq ms env ds = some (xs, ds') → xs.length = ms.length
  | [], _, _, _, _, h => by
    obtain ⟨e, _⟩ := mr_some h
    rw [← e]
    rfl
  | m :: ms, _, _, _, _, h => by
    obtain ⟨x, ds1, _, h2⟩ := mb_some h
    obtain ⟨ys, ds2, h3, h4⟩ := mb_some h2
    obtain ⟨e, _⟩ := mr_some h4
    rw [← e, List.length_cons, mseq_len h3]
    rfl
def eA (f : List PyData → Option PyData) (ms : List (M PyData)) : M PyData := mb (mseq ms) fun xs => mo (f xs)
def mVar (i : Nat) : M PyData := fun env ds => match env[i]? with
  | some (.dat d) => some (d, ds)
  | _ => none
def mMut (i : Nat) : M PyData := fun env ds => match env[i]? with
  | some (.own xs) => some (.list xs, ds)
  | _ => none
theorem mVar_some {i : Nat} {env : En} {ds ds' : DS} {d : PyData} (h : mVar i env ds = some (d, ds')) : env[i]? = some (.dat d) ∧ ds' = ds := by
  unfold mVar at h
  split at h
  · rename_i d' e
    have q := Option.some.inj h
    injection q with q1 q2
    rw [q1] at e
    exact ⟨e, q2.symm⟩
  · cases h
theorem mMut_some {i : Nat} {env : En} {ds ds' : DS} {d : PyData} (h : mMut i env ds = some (d, ds')) : ∃ xs, env[i]? = some (.own xs) ∧ d = .list xs ∧ ds' = ds := by
  unfold mMut at h
  split at h
  · rename_i xs e
    have q := Option.some.inj h
    injection q with q1 q2
    exact ⟨xs, e, q1.symm, q2.symm⟩
  · cases h

/-- arguments, data; arguments that are only looked at -/
def RAs (K : PySem.W.Frag) (ms : List (M PyData)) : TA := RA K (mseq ms)
def RAB (K : PySem.W.Frag) (ms : List (M PyData)) : TA := fun σ H Q => ∃ B F dl env ds xs ds', Rel K B F H dl σ env ds ∧ mseq ms env ds = some (xs, ds') ∧ ∀ vs F' H', Rel K B F' H' dl σ env ds' → Gr dl F H F' H' → BpAll K dl F' H' vs xs → Q vs H'

section
variable {X : Cx} {a b c e : Expr} {es : List Expr} {pos : Pos} {m m1 m2 m3 : M PyData} {ms : List (M PyData)} {t t1 t' : M Bool}
/-! ### names and constants -/
theorem dx_var {i : Nat} {x : Str} (hN : X.N[i]? = some x := by rfl) (hv : Vis X.env.scope x := by first | exact Or.inl rfl | exact Or.inr (Or.inl rfl) | exact Or.inr (Or.inr rfl)) (hd : (x == ("__debug__" : Str)) = false := by decide)
    (hcd : (x == ("__classdict__" : Str)) = false := by decide) : PE X (.Name x pos) (RE X.K (mVar i)) := pe_imp (pe_var hN hv hd hcd) fun σ H Q ⟨B, F, dl, env, ds, d, ds', r, hm, k⟩ => by
  obtain ⟨h1, rfl⟩ := mVar_some hm
  obtain ⟨v, h2, h3⟩ := r.dat i d h1
  exact ⟨v, h2, k v F H r (Gr.refl r.ex) h3⟩
theorem db_mut {i : Nat} {x : Str} (hN : X.N[i]? = some x := by rfl) (hv : Vis X.env.scope x := by first | exact Or.inl rfl | exact Or.inr (Or.inl rfl) | exact Or.inr (Or.inr rfl)) (hd : (x == ("__debug__" : Str)) = false := by decide)
    (hcd : (x == ("__classdict__" : Str)) = false := by decide) : PE X (.Name x pos) (RB X.K (mMut i)) := pe_imp (pe_var hN hv hd hcd) fun σ H Q ⟨B, F, dl, env, ds, d, ds', r, hm, k⟩ => by
  obtain ⟨xs, h1, rfl, rfl⟩ := mMut_some hm
  obtain ⟨p, vs, h2, h3, h4, h5, h6, h7⟩ := r.mt i xs h1
  exact ⟨_, h2, k _ F H r (Gr.refl r.ex) (.inr ⟨p, vs, xs, rfl, rfl, h3, h6, h7⟩)⟩
theorem dx_c {v : V} {d : PyData} (h : PE X e (tC v)) (hd : ∀ F, Dv X.K F v d) : PE X e (RE X.K (mr d)) := pe_imp h fun σ H Q ⟨B, F, dl, env, ds, d', ds', r, hm, k⟩ => by
  obtain ⟨rfl, rfl⟩ := mr_some hm
  exact k v F H r (Gr.refl r.ex) (hd F)
theorem dx_int {i : Int} {j : Nat} : PE X (.Constant (.int i) j pos) (RE X.K (mr (.int i))) := dx_c pe_int fun _ => .int i
theorem dx_bool {i : Bool} {j : Nat} : PE X (.Constant (.bool i) j pos) (RE X.K (mr (.bool i))) := dx_c pe_bl fun _ => .bl i
theorem dx_none {j : Nat} : PE X (.Constant .none j pos) (RE X.K (mr .none)) := dx_c pe_non fun _ => .non
theorem dx_str {x : Str} {j : Nat} : PE X (.Constant (.str x) j pos) (RE X.K (mr (.str x))) := dx_c pe_str fun _ => .str x
/-- a module's constant -/
theorem dx_glob {x : Str} {v : V} {u : Value} {d : PyData} (hg : Gl X x) (hm : X.mg x = some u) (r : RelV v u) (hd : ∀ F, Dv X.K F v d) (hdb : (x == ("__debug__" : Str)) = false := by decide) : PE X (.Name x pos) (RE X.K (mr d)) := dx_c (pe_glob hg hm r hdb) hd

/-! ### operators -/
theorem e2_some {f : PyData → PyData → Option PyData} {env : En} {ds ds' : DS} {z : PyData} (h : e2 f m1 m2 env ds = some (z, ds')) : ∃ d ds1 e, m1 env ds = some (d, ds1) ∧ m2 env ds1 = some (e, ds') ∧ f d e = some z := by
  obtain ⟨d, ds1, h1, h2⟩ := mb_some h
  obtain ⟨e, ds2, h3, h4⟩ := mb_some h2
  obtain ⟨h5, rfl⟩ := mo_some h4
  exact ⟨d, ds1, e, h1, h3, h5⟩
theorem t2_some {f : PyData → PyData → Option Bool} {env : En} {ds ds' : DS} {z : Bool} (h : t2 f m1 m2 env ds = some (z, ds')) : ∃ d ds1 e, m1 env ds = some (d, ds1) ∧ m2 env ds1 = some (e, ds') ∧ f d e = some z := by
  obtain ⟨d, ds1, h1, h2⟩ := mb_some h
  obtain ⟨e, ds2, h3, h4⟩ := mb_some h2
  obtain ⟨h5, rfl⟩ := mo_some h4
  exact ⟨d, ds1, e, h1, h3, h5⟩
/-- two operands, then an operation on values -/
theorem two {K : PySem.W.Frag} {r : R2} {f : PyData → PyData → Option PyData} (o : O2 K r f) (σ : L2.St) (H : Hp) (Q : VK) (h : RE K (e2 f m1 m2) σ H Q) : tOp r (RB K m1) (RB K m2) σ H Q := by
  obtain ⟨B, F, dl, env, ds, z, ds', rel, hm, k⟩ := h
  obtain ⟨d, ds1, e, h1, h2, h3⟩ := e2_some hm
  refine ⟨B, F, dl, env, ds, d, ds1, rel, h1, fun x F1 H1 rel1 g1 b1 => ⟨B, F1, dl, env, ds1, e, ds', rel1, h2, fun y F2 H2 rel2 g2 b2 => ?_⟩⟩
  exact o dl F2 H2 x y d e z rel2.ex (b1.mono g2) b2 h3 Q fun v F' H' g3 d3 => k v F' H' (rel2.grow g3) ((g1.trans g2).trans g3.weak) d3
theorem twoB {K : PySem.W.Frag} {r : R2} {f : PyData → PyData → Option Bool} (o : O2B K r f) (σ : L2.St) (H : Hp) (Q : Bool → Hp → Prop) (h : RT K (t2 f m1 m2) σ H Q) : tOp r (RB K m1) (RB K m2) σ H (fun x H' => ∃ b, x = .bl b ∧ Q b H') := by
  obtain ⟨B, F, dl, env, ds, z, ds', rel, hm, k⟩ := h
  obtain ⟨d, ds1, e, h1, h2, h3⟩ := t2_some hm
  refine ⟨B, F, dl, env, ds, d, ds1, rel, h1, fun x F1 H1 rel1 g1 b1 => ⟨B, F1, dl, env, ds1, e, ds', rel1, h2, fun y F2 H2 rel2 g2 b2 => ?_⟩⟩
  exact o dl F2 H2 x y d e z rel2.ex (b1.mono g2) b2 h3 _ ⟨z, rfl, k F2 H2 rel2 (g1.trans g2)⟩
theorem dx_bin {op : Operator} {r : R2} {f : PyData → PyData → Option PyData} (ho : OpR X (binaryOp op) r) (o : O2 X.K r f) (ha : PE X a (RB X.K m1)) (hb : PE X b (RB X.K m2)) : PE X (.BinOp a op b pos) (RE X.K (e2 f m1 m2)) :=
  pe_imp (pe_op ho ha hb) (two o)
theorem dt_cmp {op : CmpOp} {r : R2} {f : PyData → PyData → Option Bool} (ho : OpR X (compareOp op) r) (o : O2B X.K r f) (ha : PE X a (RB X.K m1)) (hb : PE X b (RB X.K m2)) (hm : behindInMarks op b = false := by first | rfl | exact nomark _) : PT X (.Compare a [op] [b] pos) (RT X.K (t2 f m1 m2)) :=
  pt_imp (pt_cmpR ho ha hb hm) (twoB o)
theorem bv_some {env : En} {ds ds' : DS} {z : PyData} (h : bv t env ds = some (z, ds')) : ∃ b, t env ds = some (b, ds') ∧ z = .bool b := by
  obtain ⟨b, ds1, h1, h2⟩ := mb_some h
  obtain ⟨rfl, rfl⟩ := mr_some h2
  exact ⟨b, h1, rfl⟩
theorem dx_cmp {op : CmpOp} {r : R2} {f : PyData → PyData → Option Bool} (ho : OpR X (compareOp op) r) (o : O2B X.K r f) (ha : PE X a (RB X.K m1)) (hb : PE X b (RB X.K m2)) (hm : behindInMarks op b = false := by first | rfl | exact nomark _) : PE X (.Compare a [op] [b] pos) (RE X.K (bv (t2 f m1 m2))) :=
  pe_imp (pe_cmpR ho ha hb hm) fun σ H Q ⟨B, F, dl, env, ds, z, ds', rel, hm', k⟩ => by
    obtain ⟨c, h1, rfl⟩ := bv_some hm'
    obtain ⟨d, ds1, e, h1, h2, h3⟩ := t2_some h1
    refine ⟨B, F, dl, env, ds, d, ds1, rel, h1, fun x F1 H1 rel1 g1 b1 => ⟨B, F1, dl, env, ds1, e, ds', rel1, h2, fun y F2 H2 rel2 g2 b2 => ?_⟩⟩
    exact o dl F2 H2 x y d e c rel2.ex (b1.mono g2) b2 h3 Q (k _ F2 H2 rel2 (g1.trans g2) (.bl c))
/-- a < b <= c -/
def t3 (f g : PyData → PyData → Option Bool) (a b c : M PyData) : M Bool := mb a fun d => mb b fun e => mb (mo (f d e)) fun w => if w = true then mb c fun u => mo (g e u) else mr false
theorem dt_chain {op op' : CmpOp} {r r' : R2} {f g : PyData → PyData → Option Bool} (ho : OpR X (compareOp op) r) (ho' : OpR X (compareOp op') r') (o : O2B X.K r f) (o' : O2B X.K r' g) (ha : PE X a (RB X.K m1)) (hb : PE X b (RB X.K m2)) (hc : PE X c (RB X.K m3))
    (hch : PT X (.Compare a [op, op'] [b, c] pos) (tTest (tChain r r' (RB X.K m1) (RB X.K m2) (RB X.K m3)))) : PT X (.Compare a [op, op'] [b, c] pos) (RT X.K (t3 f g m1 m2 m3)) :=
  pt_imp hch fun σ H Q ⟨B, F, dl, env, ds, z, ds', rel, hm, k⟩ => by
    obtain ⟨d, ds1, h1, h2⟩ := mb_some hm
    obtain ⟨e, ds2, h3, h4⟩ := mb_some h2
    obtain ⟨w, ds3, h5, h6⟩ := mb_some h4
    obtain ⟨h7, rfl⟩ := mo_some h5
    refine ⟨B, F, dl, env, ds, d, ds1, rel, h1, fun x F1 H1 rel1 g1 b1 => ⟨B, F1, dl, env, ds1, e, ds3, rel1, h3, fun y F2 H2 rel2 g2 b2 => ?_⟩⟩
    refine o dl F2 H2 x y d e w rel2.ex (b1.mono g2) b2 h7 _ ⟨w, rfl, ?_⟩
    cases w with
    | true =>
      rw [if_pos rfl] at h6
      obtain ⟨u, ds4, h8, h9⟩ := mb_some h6
      obtain ⟨h10, rfl⟩ := mo_some h9
      rw [if_pos rfl]
      refine ⟨B, F2, dl, env, ds3, u, _, rel2, h8, fun z' F3 H3 rel3 g3 b3 => ?_⟩
      exact o' dl F3 H3 y z' e u z rel3.ex (b2.mono g3) b3 h10 _ ⟨z, rfl, k F3 H3 rel3 ((g1.trans g2).trans g3)⟩
    | false =>
      rw [if_neg Bool.false_ne_true] at h6
      obtain ⟨rfl, rfl⟩ := mr_some h6
      rw [if_neg Bool.false_ne_true]
      exact ⟨false, rfl, k F2 H2 rel2 (g1.trans g2)⟩

/-! ### and, or, not, if -/
theorem dt_val (h : PE X e (RE X.K m)) (he : ∀ whole, isTrue e X.env whole = (do let v ← whole; standAt e.pos; holding [v] (truthy v)) := by intro _; rfl) : PT X e (RT X.K (vt m)) :=
  pt_imp (pt_val h he) fun σ H Q ⟨B, F, dl, env, ds, z, ds', rel, hm, k⟩ => by
    obtain ⟨d, ds1, h1, h2⟩ := mb_some hm
    obtain ⟨h3, rfl⟩ := mo_some h2
    refine ⟨B, F, dl, env, ds, d, _, rel, h1, fun v F' H' r' g dv => ?_⟩
    cases d with
    | bool b =>
      have e : b = z := Option.some.inj h3
      subst e
      cases dv
      exact ⟨b, rfl, k F' H' r' g⟩
    | _ => cases h3
theorem dt_not (h : PT X a (RT X.K t)) : PT X (.UnaryOp .Not a pos) (RT X.K (tNot t)) :=
  pt_imp (pt_not h) fun σ H Q ⟨B, F, dl, env, ds, z, ds', rel, hm, k⟩ => by
    obtain ⟨b, ds1, h1, h2⟩ := mb_some hm
    obtain ⟨rfl, rfl⟩ := mr_some h2
    exact ⟨B, F, dl, env, ds, b, _, rel, h1, fun F' H' r' g => k F' H' r' g⟩
theorem dw_and1 (h : PT X a (RT X.K t)) : PW X (.BoolOp .And [a] pos) (RT X.K t) := pw_and1 h
theorem dw_or1 (h : PT X a (RT X.K t)) : PW X (.BoolOp .Or [a] pos) (RT X.K t) := pw_or1 h
theorem dw_and {rest : List Expr} (h : PT X a (RT X.K t)) (h2 : PW X (.BoolOp .And (b :: rest) pos) (RT X.K t')) : PW X (.BoolOp .And (a :: b :: rest) pos) (RT X.K (DL.tAnd t t')) :=
  pw_imp (pw_and h h2) fun σ H Q ⟨B, F, dl, env, ds, z, ds', rel, hm, k⟩ => by
    obtain ⟨c, ds1, h1, h2⟩ := mb_some hm
    refine ⟨B, F, dl, env, ds, c, ds1, rel, h1, fun F' H' r' g => ?_⟩
    cases c with
    | true =>
      rw [if_pos rfl] at h2 ⊢
      exact ⟨B, F', dl, env, ds1, z, ds', r', h2, fun F2 H2 r2 g2 => k F2 H2 r2 (g.trans g2)⟩
    | false =>
      rw [if_neg Bool.false_ne_true] at h2 ⊢
      obtain ⟨rfl, rfl⟩ := mr_some h2
      exact k F' H' r' g
theorem dw_or {rest : List Expr} (h : PT X a (RT X.K t)) (h2 : PW X (.BoolOp .Or (b :: rest) pos) (RT X.K t')) : PW X (.BoolOp .Or (a :: b :: rest) pos) (RT X.K (DL.tOr t t')) :=
  pw_imp (pw_or h h2) fun σ H Q ⟨B, F, dl, env, ds, z, ds', rel, hm, k⟩ => by
    obtain ⟨c, ds1, h1, h2⟩ := mb_some hm
    refine ⟨B, F, dl, env, ds, c, ds1, rel, h1, fun F' H' r' g => ?_⟩
    cases c with
    | false =>
      rw [if_neg Bool.false_ne_true] at h2 ⊢
      exact ⟨B, F', dl, env, ds1, z, ds', r', h2, fun F2 H2 r2 g2 => k F2 H2 r2 (g.trans g2)⟩
    | true =>
      rw [if_pos rfl] at h2 ⊢
      obtain ⟨rfl, rfl⟩ := mr_some h2
      exact k F' H' r' g
/-- .. as values: bools alone -/
def vAnd (a b : M PyData) : M PyData := mb a fun d => match d with
  | .bool true => b
  | .bool false => mr (.bool false)
  | _ => fun _ _ => none
def vOr (a b : M PyData) : M PyData := mb a fun d => match d with
  | .bool false => b
  | .bool true => mr (.bool true)
  | _ => fun _ _ => none
def dNot : PyData → Option PyData
  | .bool b => some (.bool (!b))
  | _ => none
theorem dx_one {op} (h : PE X a (RE X.K m)) : PE X (.BoolOp op [a] pos) (RE X.K m) := pe_one h
theorem dx_and {rest : List Expr} (h : PE X a (RE X.K m1)) (h2 : PE X (.BoolOp .And (b :: rest) pos) (RE X.K m2)) : PE X (.BoolOp .And (a :: b :: rest) pos) (RE X.K (vAnd m1 m2)) :=
  pe_imp (pe_and h h2) fun σ H Q ⟨B, F, dl, env, ds, z, ds', rel, hm, k⟩ => by
    obtain ⟨d, ds1, h1, h2⟩ := mb_some hm
    refine ⟨B, F, dl, env, ds, d, ds1, rel, h1, fun v F' H' r' g dv => ?_⟩
    cases d with
    | bool c =>
      cases dv
      cases c with
      | true => exact ⟨true, rfl, by rw [if_pos rfl]; exact ⟨B, F', dl, env, ds1, z, ds', r', h2, fun v2 F2 H2 r2 g2 => k v2 F2 H2 r2 (g.trans g2)⟩⟩
      | false =>
        obtain ⟨rfl, rfl⟩ := mr_some h2
        exact ⟨false, rfl, by rw [if_neg Bool.false_ne_true]; exact k _ F' H' r' g (.bl false)⟩
    | _ => cases h2
theorem dx_or {rest : List Expr} (h : PE X a (RE X.K m1)) (h2 : PE X (.BoolOp .Or (b :: rest) pos) (RE X.K m2)) : PE X (.BoolOp .Or (a :: b :: rest) pos) (RE X.K (vOr m1 m2)) :=
  pe_imp (pe_or h h2) fun σ H Q ⟨B, F, dl, env, ds, z, ds', rel, hm, k⟩ => by
    obtain ⟨d, ds1, h1, h2⟩ := mb_some hm
    refine ⟨B, F, dl, env, ds, d, ds1, rel, h1, fun v F' H' r' g dv => ?_⟩
    cases d with
    | bool c =>
      cases dv
      cases c with
      | false => exact ⟨false, rfl, by rw [if_neg Bool.false_ne_true]; exact ⟨B, F', dl, env, ds1, z, ds', r', h2, fun v2 F2 H2 r2 g2 => k v2 F2 H2 r2 (g.trans g2)⟩⟩
      | true =>
        obtain ⟨rfl, rfl⟩ := mr_some h2
        exact ⟨true, rfl, by rw [if_pos rfl]; exact k _ F' H' r' g (.bl true)⟩
    | _ => cases h2
theorem dx_not (h : PE X a (RE X.K m)) : PE X (.UnaryOp .Not a pos) (RE X.K (e1 dNot m)) :=
  pe_imp (pe_not h) fun σ H Q ⟨B, F, dl, env, ds, z, ds', rel, hm, k⟩ => by
    obtain ⟨d, ds1, h1, h2⟩ := mb_some hm
    obtain ⟨h3, rfl⟩ := mo_some h2
    refine ⟨B, F, dl, env, ds, d, _, rel, h1, fun v F' H' r' g dv => ?_⟩
    cases d with
    | bool c =>
      cases dv
      have e := Option.some.inj h3
      subst e
      exact ⟨c, rfl, k _ F' H' r' g (.bl _)⟩
    | _ => cases h3
theorem dx_if (hc : PT X c (RT X.K t)) (ha : PE X a (RE X.K m1)) (hb : PE X b (RE X.K m2)) : PE X (.IfExp c a b pos) (RE X.K (eIf t m1 m2)) :=
  pe_imp (pe_ifExp hc ha hb) fun σ H Q ⟨B, F, dl, env, ds, z, ds', rel, hm, k⟩ => by
    obtain ⟨w, ds1, h1, h2⟩ := mb_some hm
    refine ⟨B, F, dl, env, ds, w, ds1, rel, h1, fun F' H' r' g => ?_⟩
    cases w with
    | true =>
      rw [if_pos rfl] at h2 ⊢
      exact ⟨B, F', dl, env, ds1, z, ds', r', h2, fun v2 F2 H2 r2 g2 => k v2 F2 H2 r2 (g.trans g2)⟩
    | false =>
      rw [if_neg Bool.false_ne_true] at h2 ⊢
      exact ⟨B, F', dl, env, ds1, z, ds', r', h2, fun v2 F2 H2 r2 g2 => k v2 F2 H2 r2 (g.trans g2)⟩

/-! ### argument lists, displays -/
theorem da_nil : PA X [] (RAs X.K []) := pa_imp pa_nil fun σ H Q ⟨B, F, dl, env, ds, xs, ds', rel, hm, k⟩ => by
  obtain ⟨rfl, rfl⟩ := mr_some hm
  exact k [] F H rel (Gr.refl rel.ex) .nil
theorem da_cons (h : PE X e (RE X.K m)) (hr : PA X es (RAs X.K ms)) (hs : starEach (e :: es) X.env = (false, eval e X.env) :: starEach es X.env := by rfl) : PA X (e :: es) (RAs X.K (m :: ms)) :=
  pa_imp (pa_cons h hr hs) fun σ H Q ⟨B, F, dl, env, ds, xs, ds', rel, hm, k⟩ => by
    obtain ⟨x, ds1, h1, h2⟩ := mb_some hm
    obtain ⟨ys, ds2, h3, h4⟩ := mb_some h2
    obtain ⟨rfl, rfl⟩ := mr_some h4
    exact ⟨B, F, dl, env, ds, x, ds1, rel, h1, fun v F1 H1 r1 g1 d1 => ⟨B, F1, dl, env, ds1, ys, _, r1, h3, fun vs F2 H2 r2 g2 d2 => k (v :: vs) F2 H2 r2 (g1.trans g2) (.cons (dv_mono g2.f x v d1) d2)⟩⟩
theorem dab_nil : PA X [] (RAB X.K []) := pa_imp pa_nil fun σ H Q ⟨B, F, dl, env, ds, xs, ds', rel, hm, k⟩ => by
  obtain ⟨rfl, rfl⟩ := mr_some hm
  exact k [] F H rel (Gr.refl rel.ex) True.intro
theorem dab_cons (h : PE X e (RB X.K m)) (hr : PA X es (RAB X.K ms)) (hs : starEach (e :: es) X.env = (false, eval e X.env) :: starEach es X.env := by rfl) : PA X (e :: es) (RAB X.K (m :: ms)) :=
  pa_imp (pa_cons h hr hs) fun σ H Q ⟨B, F, dl, env, ds, xs, ds', rel, hm, k⟩ => by
    obtain ⟨x, ds1, h1, h2⟩ := mb_some hm
    obtain ⟨ys, ds2, h3, h4⟩ := mb_some h2
    obtain ⟨rfl, rfl⟩ := mr_some h4
    exact ⟨B, F, dl, env, ds, x, ds1, rel, h1, fun v F1 H1 r1 g1 d1 => ⟨B, F1, dl, env, ds1, ys, _, r1, h3, fun vs F2 H2 r2 g2 d2 => k (v :: vs) F2 H2 r2 (g1.trans g2) ⟨d1.mono g2, d2⟩⟩⟩
theorem dx_tup {x1} (h : PA X es (RAs X.K ms)) (hl : ms.length ≤ 1000 := by decide) : PE X (.Tuple es x1 pos) (RE X.K (mtup (mseq ms))) :=
  pe_imp (pe_tup h) fun σ H Q ⟨B, F, dl, env, ds, z, ds', rel, hm, k⟩ => by
    obtain ⟨xs, ds1, h1, h2⟩ := mb_some hm
    obtain ⟨rfl, rfl⟩ := mr_some h2
    refine ⟨B, F, dl, env, ds, xs, _, rel, h1, fun vs F1 H1 r1 g1 d1 => ⟨?_, fun p hp => ?_⟩⟩
    · rw [DvAll.length d1, mseq_len h1]
      exact Nat.le_of_lt (small1000 hl)
    · have g2 : Gr none F1 H1 (upd F1 p (.tup vs)) (upd H1 p (.tup vs)) := Gr.new r1.ex hp
      exact k _ _ _ (r1.grow g2) (g1.trans g2.weak) (.tup (SqT.of upd_same) (dvAll_mono g2.f xs vs d1))
/-- Rel behind a new object outside of F -/
theorem Rel.tmp {K : PySem.W.Frag} {B : Addr → Prop} {dl : Option (Addr × Addr)} {F H : Hp} {σ : L2.St} {env : En} {ds : DS} {p : Addr} {o : HO} (r : Rel K B F H dl σ env ds) (hp : H p = none) : Rel K B F (upd H p o) dl σ env ds := r.grow (Gr.tmp r.ex hp)
theorem dn_lst (h : PA X es (RAs X.K ms)) (hl : ms.length ≤ 1000 := by decide) : PE X (.List es pos) (RN X.K (mseq ms)) :=
  pe_imp (pe_lst h) fun σ H Q ⟨B, F, dl, env, ds, z, ds', rel, hm, k⟩ => by
    refine ⟨B, F, dl, env, ds, z, ds', rel, hm, fun vs F1 H1 r1 g1 d1 => ⟨?_, fun p hp => ?_⟩⟩
    · rw [DvAll.length d1, mseq_len hm]
      exact Nat.le_of_lt (small1000 hl)
    · have hp0 : H p = none := by
        cases q : H p with
        | none => rfl
        | some o =>
          obtain ⟨o', e⟩ := g1.dom p o q
          rw [hp] at e
          cases e
      exact k p vs F1 _ (r1.tmp hp) (g1.trans (Gr.tmp r1.ex hp)) hp0 (r1.ex.free hp) upd_same d1
end
end DL

set_option Elab.async false
set_option linter.all false
set_option maxRecDepth 100000
set_option maxHeartbeats 2000000
/-! Dl3: what the operators, subscripts, slices and built-ins do on data -/
namespace DL
open PySem PySem.Spec PyProof.Rows L2

/-! ### functions on data -/
def intsOf : List PyData → Option (List Int)
  | [] => some []
  | .int i :: r => (intsOf r).map (i :: ·)
  | _ => none
def boolsOf : List PyData → Option (List Bool)
  | [] => some []
  | .bool i :: r => (boolsOf r).map (i :: ·)
  | _ => none
def strsOf : List PyData → Option (List Str)
  | [] => some []
  | .str i :: r => (strsOf r).map (i :: ·)
  | _ => none
theorem intsOf_some : ∀ {ds : List PyData} {ns : List Int}, intsOf ds = some ns → ds = ns.map .int
  | [], ns, h => by cases h; rfl
  | d :: ds, ns, h => by
    cases d with
    | int i =>
      simp only [intsOf] at h
      cases q : intsOf ds with
      | none => rw [q] at h; cases h
      | some r =>
        rw [q] at h
        cases h
        rw [intsOf_some q]
        rfl
    | _ => cases h
theorem boolsOf_some : ∀ {ds : List PyData} {ns : List Bool}, boolsOf ds = some ns → ds = ns.map .bool
  | [], ns, h => by cases h; rfl
  | d :: ds, ns, h => by
    cases d with
    | bool i =>
      simp only [boolsOf] at h
      cases q : boolsOf ds with
      | none => rw [q] at h; cases h
      | some r =>
        rw [q] at h
        cases h
        rw [boolsOf_some q]
        rfl
    | _ => cases h
theorem strsOf_some : ∀ {ds : List PyData} {ns : List Str}, strsOf ds = some ns → ds = ns.map .str
  | [], ns, h => by cases h; rfl
  | d :: ds, ns, h => by
    cases d with
    | str i =>
      simp only [strsOf] at h
      cases q : strsOf ds with
      | none => rw [q] at h; cases h
      | some r =>
        rw [q] at h
        cases h
        rw [strsOf_some q]
        rfl
    | _ => cases h
@[simp] theorem intsOf_map (ns : List Int) : intsOf (ns.map .int) = some ns := by
  induction ns with
  | nil => rfl
  | cons n ns ih => simp [intsOf, ih]
@[simp] theorem boolsOf_map (ns : List Bool) : boolsOf (ns.map .bool) = some ns := by
  induction ns with
  | nil => rfl
  | cons n ns ih => simp [boolsOf, ih]
@[simp] theorem strsOf_map (ns : List Str) : strsOf (ns.map .str) = some ns := by
  induction ns with
  | nil => rfl
  | cons n ns ih => simp [strsOf, ih]
theorem dvAll_bools_inv {K : PySem.W.Frag} {F : Hp} : ∀ {ns : List Bool} {vs : List V}, DvAll K F vs (ns.map PyData.bool) → vs = ns.map V.bl
  | [], _, h => by cases h; rfl
  | n :: ns, _, h => by
    cases h with
    | cons h1 h2 =>
      cases h1
      rw [dvAll_bools_inv h2]
      rfl

def fit {α : Type} (n : Nat) (x : α) : Option α := if n ≤ sizeLine then some x else none
theorem fit_some {α : Type} {n : Nat} {x y : α} (h : fit n x = some y) : n ≤ sizeLine ∧ y = x := by
  unfold fit at h
  split at h
  · exact ⟨by assumption, (Option.some.inj h).symm⟩
  · cases h
theorem fit_of {α : Type} {n : Nat} {x : α} (h : n ≤ sizeLine) : fit n x = some x := by
  unfold fit
  rw [if_pos h]
def dAdd : PyData → PyData → Option PyData
  | .int i, .int j => some (.int (i + j))
  | .str x, .str y => fit (x.length + y.length) (.str (x ++ y))
  | .list xs, .list ys => fit (xs.length + ys.length) (.list (xs ++ ys))
  | .tuple xs, .tuple ys => fit (xs.length + ys.length) (.tuple (xs ++ ys))
  | _, _ => none
def dSub : PyData → PyData → Option PyData
  | .int i, .int j => some (.int (i - j))
  | _, _ => none
def dMul : PyData → PyData → Option PyData
  | .int i, .int j => if i.natAbs.log2 + j.natAbs.log2 < 1000000 then some (.int (i * j)) else none
  | _, _ => none
def dMod : PyData → PyData → Option PyData
  | .int i, .int j => if 0 < j then some (.int (i % j)) else none
  | _, _ => none
def dFdiv : PyData → PyData → Option PyData
  | .int i, .int j => if 0 < j ∧ j.natAbs.log2 < 9000 then some (.int (i / j)) else none
  | _, _ => none
def dPow : PyData → PyData → Option PyData
  | .int i, .int j => if 0 ≤ j ∧ j ≤ 1000000 ∧ i.natAbs < 2 ^ 64 then some (.int (i ^ j.toNat)) else none
  | _, _ => none
def dNeg : PyData → Option PyData
  | .int i => some (.int (-i))
  | _ => none
/-- == of what may be laid -/
def lays (d e : PyData) : Bool := d.canLay0 && e.canLay0 && decide (min d.depth e.depth ≤ 64)
def dEqG (d e : PyData) : Option Bool := if lays d e = true then some (PyData.eqv d e) else none
def dEq : PyData → PyData → Option Bool
  | .int i, .int j => some (i == j)
  | .str x, .str y => some (x == y)
  | .bool x, .bool y => some (x == y)
  | .none, .none => some true
  | .list xs, .list ys => if xs.length ≠ ys.length ∨ xs.length = 0 then some (decide (xs.length = ys.length)) else dEqG (.list xs) (.list ys)
  | .tuple xs, .tuple ys => if xs.length = 0 ∨ ys.length = 0 then some (decide (xs.length = ys.length)) else dEqG (.tuple xs) (.tuple ys)
  | d, e => dEqG d e
def dNe (d e : PyData) : Option Bool := (dEq d e).map (!·)
def dLt : PyData → PyData → Option Bool
  | .int i, .int j => some (decide (i < j))
  | .str x, .str y => some (decide (x.cps.toList < y.cps.toList))
  | .tuple xs, .tuple ys => match intsOf xs, intsOf ys with
    | some ns, some ms => some (HT.lexLt ns ms)
    | _, _ => none
  | _, _ => none
def dLe : PyData → PyData → Option Bool
  | .int i, .int j => some (decide (i ≤ j))
  | .str x, .str y => some (!decide (y.cps.toList < x.cps.toList))
  | _, _ => none
def dGt : PyData → PyData → Option Bool
  | .int i, .int j => some (decide (j < i))
  | .str x, .str y => some (decide (y.cps.toList < x.cps.toList))
  | _, _ => none
def dGe : PyData → PyData → Option Bool
  | .int i, .int j => some (decide (j ≤ i))
  | .str x, .str y => some (!decide (x.cps.toList < y.cps.toList))
  | _, _ => none
def dIn (d : PyData) : PyData → Option Bool
  | .list xs => if d.canLay0 = true ∧ d.depth ≤ 64 ∧ PyData.canLayAll0 xs = true then some (xs.any fun y => PyData.eqv y d) else none
  | .tuple xs => if d.canLay0 = true ∧ d.depth ≤ 64 ∧ PyData.canLayAll0 xs = true then some (xs.any fun y => PyData.eqv y d) else none
  | .str z => match d with
    | .str x => match x.cps.toList with
      | [c] => some (decide (c ∈ z.cps.toList))
      | _ => none
    | _ => none
  | _ => none
def dNin (d e : PyData) : Option Bool := (dIn d e).map (!·)
def dIs : PyData → PyData → Option Bool
  | d, .none => some (match d with | .none => true | _ => false)
  | .bool a, .bool b => some (a == b)
  | _, _ => none
def dIsn (d e : PyData) : Option Bool := (dIs d e).map (!·)
def sign (c : Nat) : Str := ⟨#[c]⟩
def dIx : PyData → PyData → Option PyData
  | .list xs, .int i => atI xs i
  | .tuple xs, .int i => atI xs i
  | .str z, .int i => if z.length ≤ sizeLine then (atI z.cps.toList i).map fun c => .str (sign c) else none
  | _, _ => none
def cutL {α : Type} (xs : List α) (lo hi : Option Int) : List α := (xs.drop (HT.sIx xs.length 0 lo)).take (HT.sIx xs.length xs.length hi - HT.sIx xs.length 0 lo)
def dSl : PyData → Option Int → Option Int → Option PyData
  | .list xs, lo, hi => some (.list (cutL xs lo hi))
  | .tuple xs, lo, hi => some (.tuple (cutL xs lo hi))
  | .str z, lo, hi => if z.length ≤ sizeLine then some (.str (cutS z lo hi)) else none
  | _, _, _ => none

/-! ### data in other words -/
section
variable {K : PySem.W.Frag} {dl : Option (Addr × Addr)} {F H : Hp}
theorem bp_dp {v : V} {d : PyData} (e : Same F H) (h : Bp K dl F H v d) (n : d.canLay0 = true) : Dp K H v d := dv_dp d v (PyData.hasDict_of_canLay d n) (h.dv e)
theorem bp_ints {v : V} {xs : List PyData} {ns : List Int} (e : Same F H) (h : Bp K dl F H v (.list xs)) (hi : intsOf xs = some ns) : ∃ p, v = .ref p ∧ H p = some (.lst (ns.map V.int)) := by
  obtain ⟨p, vs, rfl, h1, h2⟩ := h.list e
  rw [intsOf_some hi] at h2
  rw [dvAll_ints_inv h2] at h1
  exact ⟨p, rfl, h1⟩
theorem bp_intsT {v : V} {xs : List PyData} {ns : List Int} (e : Same F H) (h : Bp K dl F H v (.tuple xs)) (hi : intsOf xs = some ns) : ∃ p, v = .ref p ∧ SqT K F p (ns.map V.int) := by
  obtain ⟨p, vs, rfl, h1, h2⟩ := h.tuple e
  rw [intsOf_some hi] at h2
  rw [dvAll_ints_inv h2] at h1
  exact ⟨p, rfl, h1⟩
end

/-! ### the operators on data -/
section
variable {X : Cx}
def rAddM (K : PySem.W.Frag) : R2 := fun x y H Q => (rI0 (fun i j => .int (i + j)) x y H Q ∨ (∃ i j, x = .str i ∧ y = .str j ∧ i.length + j.length ≤ sizeLine ∧ Q (.str (i ++ j)) H)) ∨ rCat x y H Q ∨ rCatA K x y H Q
theorem op_addM : OpR X (binaryOp .Add) (rAddM X.K) := (op_add.or op_add_str).or (op_cat.or op_catA)
theorem o_add {K : PySem.W.Frag} : O2 K (rAddM K) dAdd := by
  intro dl F H x y d e z se bx by' hf Q g
  cases d with
  | int i =>
    cases e with
    | int j =>
      have hz := Option.some.inj hf
      subst hz
      obtain rfl := bx.int
      obtain rfl := by'.int
      exact .inl (.inl ⟨i, j, rfl, rfl, g.val se (.int _)⟩)
    | _ => cases hf
  | str i =>
    cases e with
    | str j =>
      obtain ⟨h1, rfl⟩ := fit_some hf
      obtain rfl := bx.str
      obtain rfl := by'.str
      exact .inl (.inr ⟨i, j, rfl, rfl, h1, g.val se (.str _)⟩)
    | _ => cases hf
  | list xs =>
    cases e with
    | list ys =>
      obtain ⟨h1, rfl⟩ := fit_some hf
      obtain ⟨p, vs, rfl, a1, a2⟩ := bx.list se
      obtain ⟨q, ws, rfl, b1, b2⟩ := by'.list se
      refine .inr (.inl ⟨p, q, vs, ws, rfl, rfl, a1, b1, ?_, fun r hr => g.newL se hr (a2.append b2)⟩)
      rw [a2.length, b2.length]
      exact h1
    | _ => cases hf
  | tuple xs =>
    cases e with
    | tuple ys =>
      obtain ⟨h1, rfl⟩ := fit_some hf
      obtain ⟨p, vs, rfl, a1, a2⟩ := bx.tuple se
      obtain ⟨q, ws, rfl, b1, b2⟩ := by'.tuple se
      refine .inr (.inr ⟨p, q, vs, ws, rfl, rfl, seqT_mono se a1, seqT_mono se b1, ?_, fun e0 => ?_, fun _ e0 => ?_, fun _ _ r hr => g.newT se hr (a2.append b2)⟩)
      · rw [a2.length, b2.length]
        exact h1
      · subst e0
        have hl := a2.length
        have e1 : xs = [] := List.length_eq_zero_iff.mp hl.symm
        subst e1
        exact g.val se (.tup b1 b2)
      · subst e0
        have hl := b2.length
        have e1 : ys = [] := List.length_eq_zero_iff.mp hl.symm
        subst e1
        rw [List.append_nil] at g
        exact g.val se (.tup a1 a2)
    | _ => cases hf
  | _ => cases hf
/-- of two ints -/
theorem o_int {K : PySem.W.Frag} {C : Int → Int → Prop} {g : Int → Int → Int} {f : PyData → PyData → Option PyData} (h : ∀ d e z, f d e = some z → ∃ i j, d = .int i ∧ e = .int j ∧ C i j ∧ z = .int (g i j)) : O2 K (rI C fun i j => .int (g i j)) f := by
  intro dl F H x y d e z se bx by' hf Q gv
  obtain ⟨i, j, rfl, rfl, hc, rfl⟩ := h d e z hf
  obtain rfl := bx.int
  obtain rfl := by'.int
  exact ⟨i, j, rfl, rfl, hc, gv.val se (.int _)⟩
theorem two_ints {f : PyData → PyData → Option PyData} {P : Int → Int → PyData → Prop} (h : ∀ i j z, f (.int i) (.int j) = some z → P i j z) (hn : ∀ d e, (∀ i j, ¬ (d = .int i ∧ e = .int j)) → f d e = none) : ∀ d e z, f d e = some z → ∃ i j, d = .int i ∧ e = .int j ∧ P i j z := by
  intro d e z hf
  by_cases q : ∃ i j, d = .int i ∧ e = .int j
  · obtain ⟨i, j, rfl, rfl⟩ := q
    exact ⟨i, j, rfl, rfl, h i j z hf⟩
  · rw [hn d e fun i j w => q ⟨i, j, w.1, w.2⟩] at hf
    cases hf
theorem o_sub {K : PySem.W.Frag} : O2 K (rI0 fun i j => .int (i - j)) dSub := by
  intro dl F H x y d e z se bx by' hf Q gv
  obtain ⟨i, j, rfl, rfl, hz⟩ := two_ints (f := dSub) (P := fun i j z => z = .int (i - j)) (fun i j z q => (Option.some.inj q).symm) (fun d e n => by
    unfold dSub
    split
    · exact absurd ⟨rfl, rfl⟩ (n _ _)
    · rfl) d e z hf
  subst hz
  obtain rfl := bx.int
  obtain rfl := by'.int
  exact ⟨i, j, rfl, rfl, gv.val se (.int _)⟩
theorem o_mul {K : PySem.W.Frag} : O2 K (rI CMulW fun i j => .int (i * j)) dMul := o_int fun d e z hf => two_ints (P := fun i j z => CMulW i j ∧ z = .int (i * j)) (fun i j z q => by
  simp only [dMul] at q
  split at q
  · rename_i c
    exact ⟨c, (Option.some.inj q).symm⟩
  · cases q) (fun d e n => by
    unfold dMul
    split
    · exact absurd ⟨rfl, rfl⟩ (n _ _)
    · rfl) d e z hf
theorem o_mod {K : PySem.W.Frag} : O2 K (rI (fun _ j => 0 < j) fun i j => .int (i % j)) dMod := o_int fun d e z hf => two_ints (P := fun i j z => 0 < j ∧ z = .int (i % j)) (fun i j z q => by
  simp only [dMod] at q
  split at q
  · rename_i c
    exact ⟨c, (Option.some.inj q).symm⟩
  · cases q) (fun d e n => by
    unfold dMod
    split
    · exact absurd ⟨rfl, rfl⟩ (n _ _)
    · rfl) d e z hf
theorem o_fdiv {K : PySem.W.Frag} : O2 K (rI CDivW fun i j => .int (i / j)) dFdiv := o_int fun d e z hf => two_ints (P := fun i j z => CDivW i j ∧ z = .int (i / j)) (fun i j z q => by
  simp only [dFdiv] at q
  split at q
  · rename_i c
    exact ⟨c, (Option.some.inj q).symm⟩
  · cases q) (fun d e n => by
    unfold dFdiv
    split
    · exact absurd ⟨rfl, rfl⟩ (n _ _)
    · rfl) d e z hf
theorem o_pow {K : PySem.W.Frag} : O2 K (rI CPow fun i j => .int (i ^ j.toNat)) dPow := o_int fun d e z hf => two_ints (P := fun i j z => CPow i j ∧ z = .int (i ^ j.toNat)) (fun i j z q => by
  simp only [dPow] at q
  split at q
  · rename_i c
    exact ⟨c, (Option.some.inj q).symm⟩
  · cases q) (fun d e n => by
    unfold dPow
    split
    · exact absurd ⟨rfl, rfl⟩ (n _ _)
    · rfl) d e z hf

/-! ### comparisons -/
def rEqM (K : PySem.W.Frag) (n : Bool) : R2 := fun x y H Q => ∃ d e, Dp K H x d ∧ Dp K H y e ∧ lays d e = true ∧ Q (.bl (if n = true then !PyData.eqv d e else PyData.eqv d e)) H
theorem lays_parts {d e : PyData} (h : lays d e = true) : d.canLay0 = true ∧ e.canLay0 = true ∧ min d.depth e.depth ≤ 64 := by
  unfold lays at h
  rw [Bool.and_eq_true, Bool.and_eq_true] at h
  exact ⟨h.1.1, h.1.2, of_decide_eq_true h.2⟩
theorem op_eqM (hu : X.A.units + 64 < cLine) : OpR X (compareOp .Eq) (rEqM X.K false) := by
  intro pins s σ H x y v u Q I rx ry h
  obtain ⟨d, e, hd, he, hl, q⟩ := h
  obtain ⟨h1, h2, h3⟩ := lays_parts hl
  obtain ⟨as, r1⟩ := Dp.reads I d x v hd rx
  obtain ⟨bs, r2⟩ := Dp.reads I e y u he ry
  exact SeqAt.compareEq_reads r1 r2 h1 h2 (by omega) ⟨.bl _, H, I, rfl, q⟩
theorem op_neM (hu : X.A.units + 64 < cLine) : OpR X (compareOp .NotEq) (rEqM X.K true) := by
  intro pins s σ H x y v u Q I rx ry h
  obtain ⟨d, e, hd, he, hl, q⟩ := h
  obtain ⟨h1, h2, h3⟩ := lays_parts hl
  obtain ⟨as, r1⟩ := Dp.reads I d x v hd rx
  obtain ⟨bs, r2⟩ := Dp.reads I e y u he ry
  exact SeqAt.compareNe_reads r1 r2 h1 h2 (by omega) ⟨.bl _, H, I, rfl, q⟩
/-- lists and tuples that are told apart by their lengths -/
def rLens (K : PySem.W.Frag) (n : Bool) : R2 := fun x y H Q => ∃ p q xs ys, x = .ref p ∧ y = .ref q ∧ ((SqL K H p xs ∧ SqL K H q ys ∧ (xs.length ≠ ys.length ∨ xs.length = 0)) ∨ (SqT K H p xs ∧ SqT K H q ys ∧ (xs.length = 0 ∨ ys.length = 0))) ∧ Q (.bl (if n = true then !decide (xs.length = ys.length) else decide (xs.length = ys.length))) H
theorem all_none (n : Nat) (e : Nat → Bool) (h : n = 0) : (List.range n).all e = true := by
  subst h
  rfl
theorem op_eqLens (hu : X.A.units < cLine) : OpR X (compareOp .Eq) (rLens X.K false) := by
  intro pins s σ H x y v u Q I rx ry h
  obtain ⟨p, q, xs, ys, rfl, rfl, h, k⟩ := h
  cases rx
  cases ry
  rcases h with ⟨h1, h2, h3⟩ | ⟨h1, h2, h3⟩
  · obtain ⟨its, r1, l1, _⟩ := I.list h1
    obtain ⟨its2, r2, l2, _⟩ := I.list h2
    have e1 : its.toArray.size = xs.length := by rw [List.size_toArray]; exact r1.length.symm
    have e2 : its2.toArray.size = ys.length := by rw [List.size_toArray]; exact r2.length.symm
    by_cases hl : xs.length = ys.length
    · have h0 : xs.length = 0 := h3.resolve_left fun z => z hl
      refine SeqAt.eq_listAt (e := fun _ => true) l1.isList l2.isList (by omega) hu (fun j j1 _ => by omega) ⟨.bl _, H, I, rfl, ?_⟩
      rw [all_none _ _ (by omega)]
      rw [decide_eq_true hl] at k
      exact k
    · refine SeqAt.eq_list_lengthsAt l1.isList l2.isList (by rw [bne_iff_ne]; omega) hu ⟨.bl _, H, I, rfl, ?_⟩
      rw [decide_eq_false hl] at k
      exact k
  · obtain ⟨its, r1, l1, _⟩ := I.tuple h1
    obtain ⟨its2, r2, l2, _⟩ := I.tuple h2
    have e1 : its.toArray.size = xs.length := by rw [List.size_toArray]; exact r1.length.symm
    have e2 : its2.toArray.size = ys.length := by rw [List.size_toArray]; exact r2.length.symm
    refine SeqAt.eq_tupleAt (e := fun _ => true) l1 l2 hu (fun j j1 j2 => by omega) ⟨.bl _, H, I, rfl, ?_⟩
    rw [all_none _ _ (by omega), e1, e2, Bool.true_and]
    have e3 : (xs.length == ys.length) = decide (xs.length = ys.length) := Bool.beq_eq_decide_eq _ _
    rw [e3]
    exact k
theorem op_neLens (hu : X.A.units < cLine) : OpR X (compareOp .NotEq) (rLens X.K true) := by
  intro pins s σ H x y v u Q I rx ry h
  obtain ⟨p, q, xs, ys, rfl, rfl, h, k⟩ := h
  cases rx
  cases ry
  rcases h with ⟨h1, h2, h3⟩ | ⟨h1, h2, h3⟩
  · obtain ⟨its, r1, l1, _⟩ := I.list h1
    obtain ⟨its2, r2, l2, _⟩ := I.list h2
    have e1 : its.toArray.size = xs.length := by rw [List.size_toArray]; exact r1.length.symm
    have e2 : its2.toArray.size = ys.length := by rw [List.size_toArray]; exact r2.length.symm
    by_cases hl : xs.length = ys.length
    · have h0 : xs.length = 0 := h3.resolve_left fun z => z hl
      refine SeqAt.RcNeAt.lists (e := fun _ => true) l1.isList l2.isList (by omega) hu (fun j j1 _ => by omega) _ _ _ _ ⟨.bl _, H, I, rfl, ?_⟩
      rw [all_none _ _ (by omega)]
      rw [decide_eq_true hl] at k
      exact k
    · refine SeqAt.RcNeAt.lists_lengths l1.isList l2.isList (by rw [bne_iff_ne]; omega) hu _ _ _ _ ⟨.bl _, H, I, rfl, ?_⟩
      rw [decide_eq_false hl] at k
      exact k
  · obtain ⟨its, r1, l1, _⟩ := I.tuple h1
    obtain ⟨its2, r2, l2, _⟩ := I.tuple h2
    have e1 : its.toArray.size = xs.length := by rw [List.size_toArray]; exact r1.length.symm
    have e2 : its2.toArray.size = ys.length := by rw [List.size_toArray]; exact r2.length.symm
    refine SeqAt.RcNeAt.tuples (e := fun _ => true) l1 l2 hu (fun j j1 j2 => by omega) _ _ _ _ ⟨.bl _, H, I, rfl, ?_⟩
    rw [all_none _ _ (by omega), e1, e2, Bool.true_and]
    have e3 : (xs.length == ys.length) = decide (xs.length = ys.length) := Bool.beq_eq_decide_eq _ _
    rw [e3]
    exact k
def rEqA (K : PySem.W.Frag) : R2 := fun x y H Q => rEq x y H Q ∨ rEqM K false x y H Q ∨ rLens K false x y H Q
def rNeA (K : PySem.W.Frag) : R2 := fun x y H Q => rNe x y H Q ∨ rEqM K true x y H Q ∨ rLens K true x y H Q
theorem op_eqA (hu : X.A.units + 64 < cLine) : OpR X (compareOp .Eq) (rEqA X.K) := op_eq.or ((op_eqM hu).or (op_eqLens (by omega)))
theorem op_neA (hu : X.A.units + 64 < cLine) : OpR X (compareOp .NotEq) (rNeA X.K) := op_ne.or ((op_neM hu).or (op_neLens (by omega)))
/-- two scalars, lengths, or data that may be laid -/
inductive EqBy : PyData → PyData → Bool → Prop
  | int (i j : Int) : EqBy (.int i) (.int j) (i == j)
  | str (i j : Str) : EqBy (.str i) (.str j) (i == j)
  | bool (i j : Bool) : EqBy (.bool i) (.bool j) (i == j)
  | none : EqBy .none .none true
  | lst (xs ys : List PyData) (h : xs.length ≠ ys.length ∨ xs.length = 0) : EqBy (.list xs) (.list ys) (decide (xs.length = ys.length))
  | tup (xs ys : List PyData) (h : xs.length = 0 ∨ ys.length = 0) : EqBy (.tuple xs) (.tuple ys) (decide (xs.length = ys.length))
  | lay (d e : PyData) (h : lays d e = true) : EqBy d e (PyData.eqv d e)
theorem dEqG_by {d e : PyData} {b : Bool} (h : dEqG d e = some b) : EqBy d e b := by
  unfold dEqG at h
  split at h
  · cases h
    exact .lay d e (by assumption)
  · cases h
theorem dEq_by {d e : PyData} {b : Bool} (h : dEq d e = some b) : EqBy d e b := by
  unfold dEq at h
  split at h
  · cases h; exact .int _ _
  · cases h; exact .str _ _
  · cases h; exact .bool _ _
  · cases h; exact .none
  · split at h
    · cases h; exact .lst _ _ (by assumption)
    · exact dEqG_by h
  · split at h
    · cases h; exact .tup _ _ (by assumption)
    · exact dEqG_by h
  · exact dEqG_by h
theorem o_eq {K : PySem.W.Frag} : O2B K (rEqA K) dEq := by
  intro dl F H x y d e z se bx by' hf Q q
  cases dEq_by hf with
  | int i j =>
    obtain rfl := bx.int
    obtain rfl := by'.int
    exact .inl ⟨rfl, by rw [dec_int]; exact q⟩
  | str i j =>
    obtain rfl := bx.str
    obtain rfl := by'.str
    exact .inl ⟨rfl, by rw [dec_str]; exact q⟩
  | bool i j =>
    obtain rfl := bx.bool
    obtain rfl := by'.bool
    exact .inl ⟨rfl, by rw [dec_bl]; exact q⟩
  | none =>
    obtain rfl := bx.none
    obtain rfl := by'.none
    exact .inl ⟨rfl, q⟩
  | lst xs ys h =>
    obtain ⟨p, vs, rfl, a1, a2⟩ := bx.list se
    obtain ⟨p', ws, rfl, b1, b2⟩ := by'.list se
    refine .inr (.inr ⟨p, p', vs, ws, rfl, rfl, .inl ⟨SqL.of a1, SqL.of b1, by rw [a2.length, b2.length]; exact h⟩, ?_⟩)
    rw [a2.length, b2.length]
    exact q
  | tup xs ys h =>
    obtain ⟨p, vs, rfl, a1, a2⟩ := bx.tuple se
    obtain ⟨p', ws, rfl, b1, b2⟩ := by'.tuple se
    refine .inr (.inr ⟨p, p', vs, ws, rfl, rfl, .inr ⟨seqT_mono se a1, seqT_mono se b1, by rw [a2.length, b2.length]; exact h⟩, ?_⟩)
    rw [a2.length, b2.length]
    exact q
  | lay _ _ hl =>
    obtain ⟨h1, h2, h3⟩ := lays_parts hl
    exact .inr (.inl ⟨d, e, bp_dp se bx h1, bp_dp se by' h2, hl, q⟩)
theorem o_ne {K : PySem.W.Frag} : O2B K (rNeA K) dNe := by
  intro dl F H x y d e z se bx by' hf Q q
  unfold dNe at hf
  cases hb : dEq d e with
  | none => rw [hb] at hf; cases hf
  | some b =>
    rw [hb] at hf
    have hz : (!b) = z := Option.some.inj hf
    subst hz
    cases dEq_by hb with
    | int i j =>
      obtain rfl := bx.int
      obtain rfl := by'.int
      exact .inl ⟨rfl, by rw [dec_int]; exact q⟩
    | str i j =>
      obtain rfl := bx.str
      obtain rfl := by'.str
      exact .inl ⟨rfl, by rw [dec_str]; exact q⟩
    | bool i j =>
      obtain rfl := bx.bool
      obtain rfl := by'.bool
      exact .inl ⟨rfl, by rw [dec_bl]; exact q⟩
    | none =>
      obtain rfl := bx.none
      obtain rfl := by'.none
      exact .inl ⟨rfl, q⟩
    | lst xs ys h =>
      obtain ⟨p, vs, rfl, a1, a2⟩ := bx.list se
      obtain ⟨p', ws, rfl, b1, b2⟩ := by'.list se
      refine .inr (.inr ⟨p, p', vs, ws, rfl, rfl, .inl ⟨SqL.of a1, SqL.of b1, by rw [a2.length, b2.length]; exact h⟩, ?_⟩)
      rw [a2.length, b2.length]
      exact q
    | tup xs ys h =>
      obtain ⟨p, vs, rfl, a1, a2⟩ := bx.tuple se
      obtain ⟨p', ws, rfl, b1, b2⟩ := by'.tuple se
      refine .inr (.inr ⟨p, p', vs, ws, rfl, rfl, .inr ⟨seqT_mono se a1, seqT_mono se b1, by rw [a2.length, b2.length]; exact h⟩, ?_⟩)
      rw [a2.length, b2.length]
      exact q
    | lay _ _ hl =>
      obtain ⟨h1, h2, h3⟩ := lays_parts hl
      exact .inr (.inl ⟨d, e, bp_dp se bx h1, bp_dp se by' h2, hl, q⟩)
def rLtM (K : PySem.W.Frag) : R2 := fun x y H Q => (rI0 (fun i j => .bl (decide (i < j))) x y H Q ∨ ∃ i j, x = .str i ∧ y = .str j ∧ Q (.bl (decide (i.cps.toList < j.cps.toList))) H) ∨ rLtT K x y H Q
theorem op_ltM (hu : X.A.units < cLine) : OpR X (compareOp .Lt) (rLtM X.K) := (op_lt.or op_lt_str).or (op_ltT hu)
theorem o_lt {K : PySem.W.Frag} : O2B K (rLtM K) dLt := by
  intro dl F H x y d e z se bx by' hf Q q
  unfold dLt at hf
  split at hf
  · have hz := Option.some.inj hf
    subst hz
    obtain rfl := bx.int
    obtain rfl := by'.int
    exact .inl (.inl ⟨_, _, rfl, rfl, q⟩)
  · have hz := Option.some.inj hf
    subst hz
    obtain rfl := bx.str
    obtain rfl := by'.str
    exact .inl (.inr ⟨_, _, rfl, rfl, q⟩)
  · split at hf
    · rename_i h1 h2
      have hz := Option.some.inj hf
      subst hz
      obtain ⟨p, rfl, s1⟩ := bp_intsT se bx h1
      obtain ⟨p', rfl, s2⟩ := bp_intsT se by' h2
      exact .inr ⟨p, p', _, _, rfl, rfl, seqT_mono se s1, seqT_mono se s2, q⟩
    · cases hf
  · cases hf
def rCmpIS (f : Int → Int → Bool) (g : Str → Str → Bool) : R2 := fun x y H Q => rI0 (fun i j => .bl (f i j)) x y H Q ∨ ∃ i j, x = .str i ∧ y = .str j ∧ Q (.bl (g i j)) H
theorem op_leM : OpR X (compareOp .LtE) (rCmpIS (fun i j => decide (i ≤ j)) fun i j => !decide (j.cps.toList < i.cps.toList)) := op_le.or op_le_str
theorem op_gtM : OpR X (compareOp .Gt) (rCmpIS (fun i j => decide (j < i)) fun i j => decide (j.cps.toList < i.cps.toList)) := op_gt.or op_gt_str
theorem op_geM : OpR X (compareOp .GtE) (rCmpIS (fun i j => decide (j ≤ i)) fun i j => !decide (i.cps.toList < j.cps.toList)) := op_ge.or op_ge_str
theorem o_le {K : PySem.W.Frag} : O2B K (rCmpIS (fun i j => decide (i ≤ j)) fun i j => !decide (j.cps.toList < i.cps.toList)) dLe := by
  intro dl F H x y d e z se bx by' hf Q q
  unfold dLe at hf
  split at hf
  · have hz := Option.some.inj hf
    subst hz
    obtain rfl := bx.int
    obtain rfl := by'.int
    exact .inl ⟨_, _, rfl, rfl, q⟩
  · have hz := Option.some.inj hf
    subst hz
    obtain rfl := bx.str
    obtain rfl := by'.str
    exact .inr ⟨_, _, rfl, rfl, q⟩
  · cases hf
theorem o_gt {K : PySem.W.Frag} : O2B K (rCmpIS (fun i j => decide (j < i)) fun i j => decide (j.cps.toList < i.cps.toList)) dGt := by
  intro dl F H x y d e z se bx by' hf Q q
  unfold dGt at hf
  split at hf
  · have hz := Option.some.inj hf
    subst hz
    obtain rfl := bx.int
    obtain rfl := by'.int
    exact .inl ⟨_, _, rfl, rfl, q⟩
  · have hz := Option.some.inj hf
    subst hz
    obtain rfl := bx.str
    obtain rfl := by'.str
    exact .inr ⟨_, _, rfl, rfl, q⟩
  · cases hf
theorem o_ge {K : PySem.W.Frag} : O2B K (rCmpIS (fun i j => decide (j ≤ i)) fun i j => !decide (i.cps.toList < j.cps.toList)) dGe := by
  intro dl F H x y d e z se bx by' hf Q q
  unfold dGe at hf
  split at hf
  · have hz := Option.some.inj hf
    subst hz
    obtain rfl := bx.int
    obtain rfl := by'.int
    exact .inl ⟨_, _, rfl, rfl, q⟩
  · have hz := Option.some.inj hf
    subst hz
    obtain rfl := bx.str
    obtain rfl := by'.str
    exact .inr ⟨_, _, rfl, rfl, q⟩
  · cases hf
/-- in -/
def rInM (K : PySem.W.Frag) (n : Bool) : R2 := fun x y H Q => ∃ d, Dp K H x d ∧ d.canLay0 = true ∧ d.depth ≤ 64 ∧ ∃ xs, (Dp K H y (.list xs) ∨ Dp K H y (.tuple xs)) ∧ PyData.canLayAll0 xs = true ∧ Q (.bl (if n = true then !xs.any fun z => PyData.eqv z d else xs.any fun z => PyData.eqv z d)) H
theorem op_inM (hu : X.A.units + 66 < cLine) : OpR X (compareOp .In) (rInM X.K false) := by
  intro pins s σ H x y v u Q I rx ry h
  obtain ⟨d, hd, h1, h2, xs, he, h3, q⟩ := h
  obtain ⟨as, r1⟩ := Dp.reads I d x v hd rx
  rcases he with he | he
  · obtain ⟨bs, r2⟩ := Dp.reads I _ y u he ry
    exact SeqAt.in_list_reads r2 r1 h3 h1 (by omega) ⟨.bl _, H, I, rfl, q⟩
  · obtain ⟨bs, r2⟩ := Dp.reads I _ y u he ry
    exact SeqAt.in_tuple_reads r2 r1 h3 h1 (by omega) ⟨.bl _, H, I, rfl, q⟩
theorem op_ninM (hu : X.A.units + 66 < cLine) : OpR X (compareOp .NotIn) (rInM X.K true) := by
  intro pins s σ H x y v u Q I rx ry h
  obtain ⟨d, hd, h1, h2, xs, he, h3, q⟩ := h
  obtain ⟨as, r1⟩ := Dp.reads I d x v hd rx
  rcases he with he | he
  · obtain ⟨bs, r2⟩ := Dp.reads I _ y u he ry
    exact SeqAt.notIn_list_reads r2 r1 h3 h1 (by omega) ⟨.bl _, H, I, rfl, q⟩
  · obtain ⟨bs, r2⟩ := Dp.reads I _ y u he ry
    exact SeqAt.notIn_tuple_reads r2 r1 h3 h1 (by omega) ⟨.bl _, H, I, rfl, q⟩
def rInA (K : PySem.W.Frag) : R2 := fun x y H Q => rInM K false x y H Q ∨ ∃ (c : Nat) (z : Str), x = .str ⟨#[c]⟩ ∧ y = .str z ∧ Q (.bl (decide (c ∈ z.cps.toList))) H
def rNinA (K : PySem.W.Frag) : R2 := fun x y H Q => rInM K true x y H Q ∨ ∃ (c : Nat) (z : Str), x = .str ⟨#[c]⟩ ∧ y = .str z ∧ Q (.bl (!decide (c ∈ z.cps.toList))) H
theorem op_inA (hu : X.A.units + 66 < cLine) : OpR X (compareOp .In) (rInA X.K) := (op_inM hu).or op_in_sign
theorem op_ninA (hu : X.A.units + 66 < cLine) : OpR X (compareOp .NotIn) (rNinA X.K) := (op_ninM hu).or op_notIn_sign
theorem str_one {x : Str} {c : Nat} (h : x.cps.toList = [c]) : x = ⟨#[c]⟩ := by
  obtain ⟨cps⟩ := x
  have hx' : cps = #[c] := by
    apply Array.ext'
    simpa using h
  rw [hx']
theorem dIn_cases {d e : PyData} {b : Bool} (h : dIn d e = some b) : (∃ xs, (e = .list xs ∨ e = .tuple xs) ∧ d.canLay0 = true ∧ d.depth ≤ 64 ∧ PyData.canLayAll0 xs = true ∧ b = xs.any fun y => PyData.eqv y d) ∨ ∃ c z, d = .str ⟨#[c]⟩ ∧ e = .str z ∧ b = decide (c ∈ z.cps.toList) := by
  unfold dIn at h
  split at h
  · split at h
    · rename_i xs c
      exact .inl ⟨xs, .inl rfl, c.1, c.2.1, c.2.2, (Option.some.inj h).symm⟩
    · cases h
  · split at h
    · rename_i xs c
      exact .inl ⟨xs, .inr rfl, c.1, c.2.1, c.2.2, (Option.some.inj h).symm⟩
    · cases h
  · split at h
    · split at h
      · rename_i hx
        refine .inr ⟨_, _, ?_, rfl, (Option.some.inj h).symm⟩
        exact congrArg PyData.str (str_one hx)
      · cases h
    · cases h
  · cases h
theorem canLayL {xs : List PyData} (h : PyData.canLayAll0 xs = true) : (PyData.list xs).canLay0 = true := by simpa [PyData.canLay0] using h
theorem canLayT {xs : List PyData} (h : PyData.canLayAll0 xs = true) : (PyData.tuple xs).canLay0 = true := by simpa [PyData.canLay0] using h
theorem o_in {K : PySem.W.Frag} : O2B K (rInA K) dIn := by
  intro dl F H x y d e z se bx by' hf Q q
  rcases dIn_cases hf with ⟨xs, he, h1, h2, h3, rfl⟩ | ⟨c, w, rfl, rfl, rfl⟩
  · refine .inl ⟨d, bp_dp se bx h1, h1, h2, xs, ?_, h3, q⟩
    rcases he with rfl | rfl
    · exact .inl (bp_dp se by' (canLayL h3))
    · exact .inr (bp_dp se by' (canLayT h3))
  · obtain rfl := bx.str
    obtain rfl := by'.str
    exact .inr ⟨c, w, rfl, rfl, q⟩
theorem o_nin {K : PySem.W.Frag} : O2B K (rNinA K) dNin := by
  intro dl F H x y d e z se bx by' hf Q q
  unfold dNin at hf
  cases hb : dIn d e with
  | none => rw [hb] at hf; cases hf
  | some b =>
    rw [hb] at hf
    have hz : (!b) = z := Option.some.inj hf
    subst hz
    rcases dIn_cases hb with ⟨xs, he, h1, h2, h3, rfl⟩ | ⟨c, w, rfl, rfl, rfl⟩
    · refine .inl ⟨d, bp_dp se bx h1, h1, h2, xs, ?_, h3, q⟩
      rcases he with rfl | rfl
      · exact .inl (bp_dp se by' (canLayL h3))
      · exact .inr (bp_dp se by' (canLayT h3))
    · obtain rfl := bx.str
      obtain rfl := by'.str
      exact .inr ⟨c, w, rfl, rfl, q⟩
/-- is -/
def rIsM : R2 := fun x y H Q => (y = .non ∧ Q (.bl (decide (x = .non))) H) ∨ rIsB x y H Q
def rIsnM : R2 := fun x y H Q => (y = .non ∧ Q (.bl (!decide (x = .non))) H) ∨ rNotB x y H Q
theorem op_isM : OpR X (compareOp .Is) rIsM := op_isN.or op_isBl
theorem op_isnM : OpR X (compareOp .IsNot) rIsnM := op_notN.or op_notBl
def isNone : PyData → Bool
  | .none => true
  | _ => false
theorem bp_isNone {K : PySem.W.Frag} {dl : Option (Addr × Addr)} {F H : Hp} {x : V} {d : PyData} (h : Bp K dl F H x d) : decide (x = .non) = isNone d := by
  rcases h with h | ⟨p, vs, xs, rfl, rfl, _⟩
  · cases h <;> rfl
  · rfl
theorem dIs_cases {d e : PyData} {b : Bool} (h : dIs d e = some b) : (e = .none ∧ b = isNone d) ∨ ∃ i j, d = .bool i ∧ e = .bool j ∧ b = (i == j) := by
  unfold dIs at h
  split at h
  · refine .inl ⟨rfl, (Option.some.inj h).symm.trans ?_⟩
    rename_i d'
    cases d' <;> rfl
  · exact .inr ⟨_, _, rfl, rfl, (Option.some.inj h).symm⟩
  · cases h
theorem o_is {K : PySem.W.Frag} : O2B K rIsM dIs := by
  intro dl F H x y d e z se bx by' hf Q q
  rcases dIs_cases hf with ⟨rfl, rfl⟩ | ⟨i, j, rfl, rfl, rfl⟩
  · obtain rfl := by'.none
    exact .inl ⟨rfl, by rw [bp_isNone bx]; exact q⟩
  · obtain rfl := bx.bool
    obtain rfl := by'.bool
    exact .inr ⟨i, j, rfl, rfl, by rw [← Bool.beq_eq_decide_eq]; exact q⟩
theorem o_isn {K : PySem.W.Frag} : O2B K rIsnM dIsn := by
  intro dl F H x y d e z se bx by' hf Q q
  unfold dIsn at hf
  cases hb : dIs d e with
  | none => rw [hb] at hf; cases hf
  | some b =>
    rw [hb] at hf
    have hz : (!b) = z := Option.some.inj hf
    subst hz
    rcases dIs_cases hb with ⟨rfl, rfl⟩ | ⟨i, j, rfl, rfl, rfl⟩
    · obtain rfl := by'.none
      exact .inl ⟨rfl, by rw [bp_isNone bx]; exact q⟩
    · obtain rfl := bx.bool
      obtain rfl := by'.bool
      exact .inr ⟨i, j, rfl, rfl, by rw [← Bool.beq_eq_decide_eq]; exact q⟩

/-! ### subscripts, slices -/
theorem dvAll_atI {K : PySem.W.Frag} {F : Hp} {vs : List V} {ds : List PyData} {i : Int} {d : PyData} (h : DvAll K F vs ds) (e : atI ds i = some d) : ∃ v, atI vs i = some v ∧ Dv K F v d := by
  unfold atI at e ⊢
  rw [h.length]
  cases q : ixN ds.length i with
  | none => rw [q] at e; cases e
  | some j =>
    rw [q] at e
    exact h.get e
theorem o_ix {K : PySem.W.Frag} : O2 K (rIx K) dIx := by
  intro dl F H x y d e z se bx by' hf Q g
  unfold dIx at hf
  split at hf
  · obtain ⟨p, vs, rfl, a1, a2⟩ := bx.list se
    obtain rfl := by'.int
    obtain ⟨v, h1, h2⟩ := dvAll_atI a2 hf
    exact .inl ⟨p, vs, _, v, rfl, rfl, SqL.of a1, h1, g.val se h2⟩
  · obtain ⟨p, vs, rfl, a1, a2⟩ := bx.tuple se
    obtain rfl := by'.int
    obtain ⟨v, h1, h2⟩ := dvAll_atI a2 hf
    exact .inr (.inl ⟨p, vs, _, v, rfl, rfl, seqT_mono se a1, h1, g.val se h2⟩)
  · split at hf
    · rename_i z' i hz
      obtain rfl := bx.str
      obtain rfl := by'.int
      cases hc : atI z'.cps.toList i with
      | none => rw [hc] at hf; cases hf
      | some c =>
        rw [hc] at hf
        cases hf
        exact .inr (.inr ⟨z', i, c, rfl, rfl, hz, hc, g.val se (.str _)⟩)
    · cases hf
  · cases hf
variable {a b e : Expr} {pos p2 : Pos} {m m1 m2 : M PyData} {lo hi : Option Expr} {ml mh : M (Option Int)}
theorem dx_ix (ha : PE X a (RB X.K m1)) (hb : PE X b (RB X.K m2)) (hs : PlainIx b := by exact fun _ _ => rfl) : PE X (.Subscript a b pos) (RE X.K (e2 dIx m1 m2)) := pe_imp (pe_ix ix_seq ha hb hs) (two o_ix)
def RO (K : PySem.W.Frag) (m : M (Option Int)) : TO := fun σ H Q => ∃ B F dl env ds o ds', Rel K B F H dl σ env ds ∧ m env ds = some (o, ds') ∧ ∀ F' H', Rel K B F' H' dl σ env ds' → Gr dl F H F' H' → Q o H'
def asInt : PyData → Option Int
  | .int i => some i
  | _ => none
def oPart (m : M PyData) : M (Option Int) := mb m fun d => mo ((asInt d).map some)
theorem po_imp {o : Option Expr} {t t' : TO} (h : PO X o t) (k : ∀ σ H Q, t' σ H Q → t σ H Q) : PO X o t' := ⟨fun pins s σ H Q I q => h.run pins s σ H Q I (k σ H Q q)⟩
theorem do_none : PO X none (RO X.K (mr none)) := po_imp po_none fun σ H Q ⟨B, F, dl, env, ds, o, ds', rel, hm, k⟩ => by
  obtain ⟨rfl, rfl⟩ := mr_some hm
  exact k F H rel (Gr.refl rel.ex)
theorem do_some (h : PE X e (RE X.K m)) : PO X (some e) (RO X.K (oPart m)) := po_imp (po_some h) fun σ H Q ⟨B, F, dl, env, ds, o, ds', rel, hm, k⟩ => by
  obtain ⟨d, ds1, h1, h2⟩ := mb_some hm
  obtain ⟨h3, rfl⟩ := mo_some h2
  refine ⟨B, F, dl, env, ds, d, _, rel, h1, fun v F' H' r g dv => ?_⟩
  cases d with
  | int i =>
    cases dv
    cases h3
    exact ⟨i, rfl, k F' H' r g⟩
  | _ => cases h3
def eSl (a : M PyData) (lo hi : M (Option Int)) : M PyData := mb a fun d => mb lo fun l => mb hi fun h => mo (dSl d l h)
theorem DvAll.cut {K : PySem.W.Frag} {F : Hp} {vs : List V} {ds : List PyData} (h : DvAll K F vs ds) (lo hi : Option Int) : DvAll K F (cutV vs lo hi) (cutL ds lo hi) := by
  unfold cutV cutL
  rw [h.length]
  exact (h.drop _).take _
theorem cutL_whole {α : Type} {xs : List α} {lo hi : Option Int} (h1 : HT.sIx xs.length 0 lo = 0) (h2 : HT.sIx xs.length xs.length hi = xs.length) : cutL xs lo hi = xs := by
  unfold cutL
  rw [h1, h2]
  simp
def rSlM (K : PySem.W.Frag) : V → Option Int → Option Int → Hp → VK → Prop := fun x lo hi H Q => rSlL K x lo hi H Q ∨ rSlA K x lo hi H Q ∨ rSlS x lo hi H Q
theorem sl_M : SlR X (rSlM X.K) := sl_list.or (sl_tupA.or sl_str)
theorem dx_sl (ha : PE X a (RB X.K m)) (hl : PO X lo (RO X.K ml)) (hh : PO X hi (RO X.K mh)) : PE X (.Subscript a (.Slice lo hi none p2) pos) (RE X.K (eSl m ml mh)) :=
  pe_imp (pe_slice sl_M ha hl hh) fun σ H Q ⟨B, F, dl, env, ds, z, ds', rel, hm, k⟩ => by
    obtain ⟨d, ds1, h1, h2⟩ := mb_some hm
    obtain ⟨l, ds2, h3, h4⟩ := mb_some h2
    obtain ⟨u, ds3, h5, h6⟩ := mb_some h4
    obtain ⟨h7, rfl⟩ := mo_some h6
    refine ⟨B, F, dl, env, ds, d, ds1, rel, h1, fun x F1 H1 r1 g1 b1 => ⟨B, F1, dl, env, ds1, l, ds2, r1, h3, fun F2 H2 r2 g2 => ⟨B, F2, dl, env, ds2, u, _, r2, h5, fun F3 H3 r3 g3 => ?_⟩⟩⟩
    have bx : Bp X.K dl F3 H3 x d := (b1.mono g2).mono g3
    have g : Gives X.K F3 H3 z Q := fun v F' H' g4 d4 => k v F' H' (r3.grow g4) (((g1.trans g2).trans g3).trans g4.weak) d4
    cases d with
    | list xs =>
      cases h7
      obtain ⟨p, vs, rfl, a1, a2⟩ := bx.list r3.ex
      exact .inl ⟨p, vs, rfl, SqL.of a1, fun q hq => g.newL r3.ex hq (a2.cut l u)⟩
    | tuple xs =>
      cases h7
      obtain ⟨p, vs, rfl, a1, a2⟩ := bx.tuple r3.ex
      have hlen := a2.length
      refine .inr (.inl ⟨p, vs, rfl, seqT_mono r3.ex a1, fun w => ?_, fun _ q hq => g.newT r3.ex hq (a2.cut l u)⟩)
      rw [hlen] at w
      rw [cutL_whole w.1 w.2] at g
      exact g.val r3.ex (.tup a1 a2)
    | str x' =>
      simp only [dSl] at h7
      split at h7
      · rename_i hz
        cases h7
        obtain rfl := bx.str
        exact .inr (.inr ⟨x', rfl, hz, g.val r3.ex (.str _)⟩)
      · cases h7
    | _ => cases h7
/-- a slice of a list, a new list -/
def eSlN (a : M PyData) (lo hi : M (Option Int)) : M (List PyData) := mb a fun d => mb lo fun l => mb hi fun h => mo (match d with | .list xs => some (cutL xs l h) | _ => none)
end
end DL

set_option Elab.async false
set_option linter.all false
set_option maxRecDepth 100000
set_option maxHeartbeats 2000000
/-! Dl4: what is walked, comprehensions -/
namespace DL
open PySem PySem.Spec PyProof.Rows L2

/-! ### sizes are known of whatever stands in the heap -/
def FitsK (K : PySem.W.Frag) (H : Hp) : Prop := (∀ a xs, SqL K H a xs → xs.length ≤ sizeLine) ∧ ∀ a xs, SqT K H a xs → xs.length ≤ sizeLine
theorem fits_of {X : Cx} {pins : List (Addr × Obj)} {σ : L2.St} {H : Hp} {s : Shared} (I : Inv X pins σ H s) : FitsK X.K H :=
  ⟨fun a xs h => let ⟨_, _, _, z⟩ := I.list h; z, fun a xs h => let ⟨_, _, _, z⟩ := I.tuple h; z⟩
theorem pi_fits {X : Cx} {tg e : Expr} {wi : TI} (h : PI X tg e wi) : PI X tg e (fun σ H R => wi σ H fun J H1 => FitsK X.K H1 → R J H1) := ⟨fun pins s σ H R I q => by
  refine thn (h.run pins s σ H _ I q) fun v s1 h1 => thn h1 fun itv s2 ⟨it, fp, tn, J, H', e, I2, T, t0, f, r⟩ => ?_
  exact ⟨it, fp, tn, J, H', e, I2, T, t0, f, r (fits_of I2)⟩⟩
theorem pe_fits {X : Cx} {e : Expr} {t : TE} (h : PE X e t) : PE X e (fun σ H Q => t σ H fun v H1 => FitsK X.K H1 → Q v H1) := ⟨fun pins s σ H Q I q =>
  thn (h.run pins s σ H _ I q) fun v s1 ⟨x, H1, I1, r, q1⟩ => ⟨x, H1, I1, r, q1 (fits_of I1)⟩⟩

theorem mseq1 {m : M PyData} {env : En} {ds ds' : DS} {d : PyData} (h : m env ds = some (d, ds')) : mseq [m] env ds = some ([d], ds') := by
  show mb m _ env ds = _
  unfold mb
  rw [h]
  rfl
theorem mseq2 {m m2 : M PyData} {env : En} {ds ds1 ds2 : DS} {d e : PyData} (h : m env ds = some (d, ds1)) (h2 : m2 env ds1 = some (e, ds2)) : mseq [m, m2] env ds = some ([d, e], ds2) := by
  show mb m _ env ds = _
  unfold mb
  rw [h]
  show mb (mb m2 _) _ env ds1 = _
  unfold mb
  rw [h2]
  rfl
/-! ### what is walked -/
def WalkD (K : PySem.W.Frag) (F : Hp) (J : It) (xs : List PyData) : Prop := ∃ (G : Hp → Prop) (Y : Nat → Hp → V → Hp → Prop), Walk J xs.length G Y ∧ (∀ H, Same F H → G H) ∧
  ∀ i H x H' F1, i < xs.length → Same F F1 → Same F1 H → Y i H x H' → ∃ d F2, xs[i]? = some d ∧ Gr none F1 H F2 H' ∧ Dv K F2 x d
def IR (K : PySem.W.Frag) (m : M (List PyData)) : TI := fun σ H R => ∃ B F dl env ds xs ds', Rel K B F H dl σ env ds ∧ m env ds = some (xs, ds') ∧ ∀ J F' H', Rel K B F' H' dl σ env ds' → Gr dl F H F' H' → WalkD K F' J xs → xs.length ≤ sizeLine → R J H'
def signsOf (z : Str) : List PyData := z.cps.toList.map fun c => .str (sign c)
def itemsD : PyData → Option (List PyData)
  | .list xs => some xs
  | .tuple xs => some xs
  | .str z => fit z.length (signsOf z)
  | _ => none
def mIt (m : M PyData) : M (List PyData) := mb m fun d => mo (itemsD d)
theorem walkD_list {K : PySem.W.Frag} {F : Hp} {a : Addr} {vs : List V} {xs : List PyData} (h : SqL K F a vs) (hd : DvAll K F vs xs) : WalkD K F (Itl K a) xs := by
  refine ⟨fun H => SqL K H a vs, YAt vs, ?_, fun H e => e.seq h, fun i H x H' F1 hi e1 e2 y => ?_⟩
  · rw [← hd.length]
    exact walk_list
  · obtain ⟨rfl, y⟩ := y
    obtain ⟨d, h1, h2⟩ := hd.getV y
    exact ⟨d, F1, h1, Gr.refl e2, dv_mono e1 d x h2⟩
theorem walkD_tup {K : PySem.W.Frag} {F : Hp} {a : Addr} {vs : List V} {xs : List PyData} (h : SqT K F a vs) (hd : DvAll K F vs xs) : WalkD K F (Itt K a) xs := by
  refine ⟨fun H => SqT K H a vs, YAt vs, ?_, fun H e => seqT_mono e h, fun i H x H' F1 hi e1 e2 y => ?_⟩
  · rw [← hd.length]
    exact walk_tup
  · obtain ⟨rfl, y⟩ := y
    obtain ⟨d, h1, h2⟩ := hd.getV y
    exact ⟨d, F1, h1, Gr.refl e2, dv_mono e1 d x h2⟩
theorem walkD_str {K : PySem.W.Frag} {F : Hp} {z : Str} : WalkD K F (Its z) (signsOf z) := by
  have hl : (signsOf z).length = z.cps.size := by simp [signsOf]
  refine ⟨fun _ => True, fun i H v H' => H' = H ∧ ∃ c, z.cps[i]? = some c ∧ v = .str ⟨#[c]⟩, ?_, fun _ _ => True.intro, fun i H x H' F1 hi e1 e2 y => ?_⟩
  · rw [hl]
    exact walk_str
  · obtain ⟨rfl, c, h1, rfl⟩ := y
    refine ⟨.str (sign c), F1, ?_, Gr.refl e2, .str _⟩
    have : z.cps.toList[i]? = some c := by simpa using h1
    simp [signsOf, this]
theorem walkD_range {K : PySem.W.Frag} {F : Hp} {lo : Int} {n : Nat} : WalkD K F (Itr lo n) ((List.range n).map fun i => .int (lo + (i : Nat))) := by
  refine ⟨fun _ => True, YFn fun i => .int (lo + i), ?_, fun _ _ => True.intro, fun i H x H' F1 hi e1 e2 y => ?_⟩
  · rw [List.length_map, List.length_range]
    exact walk_range
  · obtain ⟨rfl, rfl⟩ := y
    rw [List.length_map, List.length_range] at hi
    exact ⟨.int (lo + (i : Nat)), F1, by simp [hi], Gr.refl e2, .int _⟩
section
variable {X : Cx} {e a b tg : Expr} {m m1 m2 : M PyData} {p pos : Pos}
theorem di_seq (h : PE X e (RE X.K m)) : PI X tg e (IR X.K (mIt m)) :=
  pi_imp (pi_fits (pi_or (pi_list h) (pi_or (pi_tup h) (pi_str h)))) fun σ H R ⟨B, F, dl, env, ds, xs, ds', rel, hm, k⟩ => by
    obtain ⟨d, ds1, h1, h2⟩ := mb_some hm
    obtain ⟨h3, rfl⟩ := mo_some h2
    cases d with
    | list ys =>
      cases h3
      refine .inl ⟨B, F, dl, env, ds, _, _, rel, h1, fun v F' H' r g dv => ?_⟩
      cases dv with
      | lst q1 q2 =>
        refine ⟨_, rfl, ⟨_, SqL.of (r.ex _ _ q1)⟩, fun ft => ?_⟩
        refine k _ F' H' r g (walkD_list (SqL.of q1) q2) ?_
        rw [← q2.length]
        exact ft.1 _ _ (SqL.of (r.ex _ _ q1))
    | tuple ys =>
      cases h3
      refine .inr (.inl ⟨B, F, dl, env, ds, _, _, rel, h1, fun v F' H' r g dv => ?_⟩)
      cases dv with
      | tup q1 q2 =>
        refine ⟨_, rfl, ⟨_, seqT_mono r.ex q1⟩, fun ft => ?_⟩
        refine k _ F' H' r g (walkD_tup q1 q2) ?_
        rw [← q2.length]
        exact ft.2 _ _ (seqT_mono r.ex q1)
    | str z =>
      obtain ⟨hz, rfl⟩ := fit_some h3
      refine .inr (.inr ⟨B, F, dl, env, ds, .str z, _, rel, h1, fun v F' H' r g dv => ?_⟩)
      cases dv
      refine ⟨z, rfl, fun ft => k _ F' H' r g walkD_str ?_⟩
      have hl : (signsOf z).length = z.length := by simp [signsOf, Str.length]
      rw [hl]
      exact hz
    | _ => cases h3
def rangeL (lo : Int) (n : Nat) : List PyData := (List.range n).map fun i => .int (lo + (i : Nat))
theorem rangeL_len (lo : Int) (n : Nat) : (rangeL lo n).length = n := by simp [rangeL]
def mRange1 (m : M PyData) : M (List PyData) := mb m fun d => mo (match d with
  | .int j => if j ≤ 16777216 ∧ -4611686018427387904 ≤ j then some (rangeL 0 j.toNat) else none
  | _ => none)
def mRange2 (m1 m2 : M PyData) : M (List PyData) := mb m1 fun d => mb m2 fun e => mo (match d, e with
  | .int i, .int j => if -16777216 ≤ i ∧ i ≤ 16777216 ∧ j ≤ 16777216 ∧ -16777216 ≤ j ∧ j - i ≤ 16777216 then some (rangeL i (j - i).toNat) else none
  | _, _ => none)
theorem di_range1 (hg : Gl X "range") (hm : X.mg "range" = none) (h : PE X a (RE X.K m)) (hs : starEach [a] X.env = [(false, eval a X.env)] := by rfl) : PI X tg (.Call (.Name "range" p) [a] [] pos) (IR X.K (mRange1 m)) :=
  pi_imp (pi_range1 hg hm (da_cons h da_nil hs) hs) fun σ H R ⟨B, F, dl, env, ds, xs, ds', rel, hm, k⟩ => by
    obtain ⟨d, ds1, h1, h2⟩ := mb_some hm
    obtain ⟨h3, rfl⟩ := mo_some h2
    cases d with
    | int j =>
      simp only at h3
      split at h3
      · rename_i hj
        cases h3
        refine ⟨B, F, dl, env, ds, [.int j], _, rel, mseq1 h1, fun vs F' H' r g dv => ?_⟩
        · cases dv with
          | cons d1 d2 =>
            cases d1
            cases d2
            refine ⟨j, rfl, by omega, by omega, ?_⟩
            refine k _ F' H' r g walkD_range ?_
            show (rangeL 0 j.toNat).length ≤ sizeLine
            rw [rangeL_len, sizeLine_eq]
            omega
      · cases h3
    | _ => cases h3
theorem di_range2 (hg : Gl X "range") (hm : X.mg "range" = none) (h : PE X a (RE X.K m1)) (h' : PE X b (RE X.K m2)) (hs : starEach [a, b] X.env = [(false, eval a X.env), (false, eval b X.env)] := by rfl) (hs2 : starEach [b] X.env = [(false, eval b X.env)] := by rfl) : PI X tg (.Call (.Name "range" p) [a, b] [] pos) (IR X.K (mRange2 m1 m2)) :=
  pi_imp (pi_range2 hg hm (da_cons h (da_cons h' da_nil hs2) (by rw [hs, hs2])) hs hs2) fun σ H R ⟨B, F, dl, env, ds, xs, ds', rel, hm, k⟩ => by
    obtain ⟨d, ds1, h1, h2⟩ := mb_some hm
    obtain ⟨e, ds2, h3, h4⟩ := mb_some h2
    obtain ⟨h5, rfl⟩ := mo_some h4
    cases d with
    | int i =>
      cases e with
      | int j =>
        simp only at h5
        split at h5
        · rename_i hj
          cases h5
          refine ⟨B, F, dl, env, ds, [.int i, .int j], _, rel, mseq2 h1 h3, fun vs F' H' r g dv => ?_⟩
          · cases dv with
            | cons d1 d2 =>
              cases d1
              cases d2 with
              | cons d3 d4 =>
                cases d3
                cases d4
                refine ⟨i, j, rfl, ⟨by omega, by omega, by omega, by omega⟩, ?_⟩
                refine k _ F' H' r g walkD_range ?_
                show (rangeL i (j - i).toNat).length ≤ sizeLine
                rw [rangeL_len, sizeLine_eq]
                omega
        · cases h5
      | _ => cases h5
    | _ => cases h5
def pairsFrom (n : Nat) : List PyData → List PyData
  | [] => []
  | d :: ds => .tuple [.int (n : Nat), d] :: pairsFrom (n + 1) ds
theorem pairsFrom_len : ∀ (n : Nat) (ds : List PyData), (pairsFrom n ds).length = ds.length
  | _, [] => rfl
  | n, d :: ds => by simp [pairsFrom, pairsFrom_len (n + 1) ds]
theorem pairsFrom_get : ∀ (n : Nat) (ds : List PyData) (i : Nat) (d : PyData), ds[i]? = some d → (pairsFrom n ds)[i]? = some (.tuple [.int ((n + i : Nat) : Int), d])
  | _, [], _, _, h => by simp at h
  | n, x :: ds, 0, d, h => by
    have e := Option.some.inj h
    rw [← e]
    rfl
  | n, x :: ds, i + 1, d, h => by
    have := pairsFrom_get (n + 1) ds i d h
    rw [show n + (i + 1) = n + 1 + i by omega]
    exact this
theorem new_pair {K : PySem.W.Frag} {F1 H : Hp} {T : Addr} {x y : V} {d1 d2 : PyData} (e : Same F1 H) (hT : H T = none) (h1 : Dv K F1 x d1) (h2 : Dv K F1 y d2) : Gr none F1 H (upd F1 T (.tup [x, y])) (upd H T (.tup [x, y])) ∧ Dv K (upd F1 T (.tup [x, y])) (.ref T) (.tuple [d1, d2]) := by
  have s := DL.same_new (o := .tup [x, y]) (e.free hT)
  exact ⟨Gr.new e hT, .tup (SqT.of upd_same) (.cons (dv_mono s _ _ h1) (.cons (dv_mono s _ _ h2) .nil))⟩
/-- enumerate(a list) -/
def mEnum (m : M PyData) : M (List PyData) := mb m fun d => mo (match d with | .list xs => some (pairsFrom 0 xs) | _ => none)
theorem walkD_enum {K : PySem.W.Frag} {F : Hp} {a : Addr} {vs : List V} {xs : List PyData} (h : SqL K F a vs) (hd : DvAll K F vs xs) : WalkD K F (Ite K a) (pairsFrom 0 xs) := by
  refine ⟨fun H => SqL K H a vs, YPair (fun i => some (.int (i : Nat))) fun i => vs[i]?, ?_, fun H e => e.seq h, fun i H x H' F1 hi e1 e2 y => ?_⟩
  · rw [pairsFrom_len, ← hd.length]
    exact walk_enum
  · obtain ⟨T, x1, x2, rfl, hT, rfl, q1, q2⟩ := y
    cases q1
    obtain ⟨d, h1, h2⟩ := hd.getV q2
    obtain ⟨g, dv⟩ := new_pair e2 hT (.int (i : Nat)) (dv_mono e1 d _ h2)
    refine ⟨_, _, ?_, g, dv⟩
    have := pairsFrom_get 0 xs i d h1
    rw [Nat.zero_add] at this
    exact this
theorem di_enum {elts : List Expr} {kk : Nat} {tpos : Pos} (hg : Gl X "enumerate") (hm : X.mg "enumerate" = none) (h : PE X e (RE X.K m)) (hs : starEach [e] X.env = [(false, eval e X.env)] := by rfl) :
    PI X (.Tuple elts kk tpos) (.Call (.Name "enumerate" p) [e] [] pos) (IR X.K (mEnum m)) :=
  pi_imp (pi_fits (pi_enum hg hm (da_cons h da_nil hs) hs)) fun σ H R ⟨B, F, dl, env, ds, xs, ds', rel, hm, k⟩ => by
    obtain ⟨d, ds1, h1, h2⟩ := mb_some hm
    obtain ⟨h3, rfl⟩ := mo_some h2
    cases d with
    | list ys =>
      cases h3
      refine ⟨B, F, dl, env, ds, [.list ys], _, rel, mseq1 h1, fun vs F' H' r g dv => ?_⟩
      · cases dv with
        | cons d1 d2 =>
          cases d2
          cases d1 with
          | lst q1 q2 =>
            refine ⟨_, _, rfl, SqL.of (r.ex _ _ q1), fun ft => ?_⟩
            refine k _ F' H' r g (walkD_enum (SqL.of q1) q2) ?_
            rw [pairsFrom_len, ← q2.length]
            exact ft.1 _ _ (SqL.of (r.ex _ _ q1))
    | _ => cases h3
/-- zip(a list, a list) -/
def zipL (xs ys : List PyData) : List PyData := (xs.zip ys).map fun p => .tuple [p.1, p.2]
theorem zipL_len (xs ys : List PyData) : (zipL xs ys).length = min xs.length ys.length := by simp [zipL]
def mZip (m1 m2 : M PyData) : M (List PyData) := mb m1 fun d => mb m2 fun e => mo (match d, e with | .list xs, .list ys => some (zipL xs ys) | _, _ => none)
theorem walkD_zip {K : PySem.W.Frag} {F : Hp} {a b : Addr} {vs ws : List V} {xs ys : List PyData} (h : SqL K F a vs) (hd : DvAll K F vs xs) (h' : SqL K F b ws) (hd' : DvAll K F ws ys) : WalkD K F (Itz K a b) (zipL xs ys) := by
  refine ⟨fun H => SqL K H a vs ∧ SqL K H b ws, YPair (fun i => vs[i]?) fun i => ws[i]?, ?_, fun H e => ⟨e.seq h, e.seq h'⟩, fun i H x H' F1 hi e1 e2 y => ?_⟩
  · exact walk_zip (by rw [zipL_len, hd.length, hd'.length])
  · obtain ⟨T, x1, x2, rfl, hT, rfl, q1, q2⟩ := y
    obtain ⟨d, h1, h2⟩ := hd.getV q1
    obtain ⟨d', h3, h4⟩ := hd'.getV q2
    obtain ⟨g, dv⟩ := new_pair e2 hT (dv_mono e1 d _ h2) (dv_mono e1 d' _ h4)
    refine ⟨_, _, ?_, g, dv⟩
    have hz : (xs.zip ys)[i]? = some (d, d') := by
      rw [List.getElem?_zip_eq_some]
      exact ⟨h1, h3⟩
    simp [zipL, hz]
theorem di_zip {elts : List Expr} {kk : Nat} {tpos : Pos} (h : PI X (.Tuple elts kk tpos) (.Call (.Name "zip" p) [a, b] [] pos) (fun σ H R => RAs X.K [m1, m2] σ H fun vs H1 => ∃ a b xs ys, vs = [.ref a, .ref b] ∧ SqL X.K H1 a xs ∧ SqL X.K H1 b ys ∧ R (Itz X.K a b) H1)) :
    PI X (.Tuple elts kk tpos) (.Call (.Name "zip" p) [a, b] [] pos) (IR X.K (mZip m1 m2)) :=
  pi_imp (pi_fits h) fun σ H R ⟨B, F, dl, env, ds, xs, ds', rel, hm, k⟩ => by
    obtain ⟨d, ds1, h1, h2⟩ := mb_some hm
    obtain ⟨e, ds2, h3, h4⟩ := mb_some h2
    obtain ⟨h5, rfl⟩ := mo_some h4
    cases d with
    | list us =>
      cases e with
      | list ws =>
        cases h5
        refine ⟨B, F, dl, env, ds, [.list us, .list ws], _, rel, mseq2 h1 h3, fun vs F' H' r g dv => ?_⟩
        · cases dv with
          | cons d1 d2 =>
            cases d2 with
            | cons d3 d4 =>
              cases d4
              cases d1 with
              | lst q1 q2 =>
                cases d3 with
                | lst q3 q4 =>
                  refine ⟨_, _, _, _, rfl, SqL.of (r.ex _ _ q1), SqL.of (r.ex _ _ q3), fun ft => ?_⟩
                  refine k _ F' H' r g (walkD_zip (SqL.of q1) q2 (SqL.of q3) q4) ?_
                  rw [zipL_len, ← q2.length]
                  exact Nat.le_trans (Nat.min_le_left _ _) (ft.1 _ _ (SqL.of (r.ex _ _ q1)))
      | _ => cases h5
    | _ => cases h5
end

/-! ### targets -/
/-- the target takes d: slots in js alone turn -/
def TgOk (K : PySem.W.Frag) (tg : TG) (f : PyData → En → Option En) (js : List Nat) : Prop := ∀ B F H dl σ env ds v d env', Rel K B F H dl σ env ds → Dv K F v d → f d env = some env' → ∀ Q : L2.St → Hp → Prop, (∀ σ', Rel K B F H dl σ' env' ds → σ'.length = σ.length → (∀ i, i ∉ js → σ'[i]? = σ[i]?) → Q σ' H) → tg v σ H Q
def tgN (i : Nat) : PyData → En → Option En := fun d env => some (env.set i (.dat d))
theorem Rel.setD {K : PySem.W.Frag} {B : Addr → Prop} {dl : Option (Addr × Addr)} {F H : Hp} {σ : L2.St} {env : En} {ds : DS} {v : V} {d : PyData} (r : Rel K B F H dl σ env ds) (i : Nat) (h : Dv K F v d) : Rel K B F H dl (σ.set i (some v)) (env.set i (.dat d)) ds := by
  refine ⟨r.ex, r.bh, by simp [r.len], fun j d' e => ?_, fun j xs e => ?_, fun j l xs ys p ne e1 e2 e3 => ?_, r.dea, fun j e => ?_⟩
  · by_cases hj : i = j
    · subst hj
      by_cases hl : i < env.length
      · rw [List.getElem?_set_self hl] at e
        cases e
        exact ⟨v, by rw [List.getElem?_set_self (by rw [r.len]; exact hl)], h⟩
      · rw [List.getElem?_eq_none (by simpa using hl)] at e
        cases e
    · rw [List.getElem?_set_ne hj] at e
      obtain ⟨u, h1, h2⟩ := r.dat j d' e
      exact ⟨u, by rw [List.getElem?_set_ne hj]; exact h1, h2⟩
  · by_cases hj : i = j
    · subst hj
      by_cases hl : i < env.length
      · rw [List.getElem?_set_self hl] at e
        cases e
      · rw [List.getElem?_eq_none (by simpa using hl)] at e
        cases e
    · rw [List.getElem?_set_ne hj] at e
      obtain ⟨p, vs, h1, h2⟩ := r.mt j xs e
      exact ⟨p, vs, by rw [List.getElem?_set_ne hj]; exact h1, h2⟩
  · have nj : i ≠ j := by
      rintro rfl
      by_cases hl : i < env.length
      · rw [List.getElem?_set_self hl] at e1
        cases e1
      · rw [List.getElem?_eq_none (by simpa using hl)] at e1
        cases e1
    have nl : i ≠ l := by
      rintro rfl
      by_cases hl : i < env.length
      · rw [List.getElem?_set_self hl] at e2
        cases e2
      · rw [List.getElem?_eq_none (by simpa using hl)] at e2
        cases e2
    rw [List.getElem?_set_ne nj] at e1 e3
    rw [List.getElem?_set_ne nl] at e2 ⊢
    exact r.dist j l xs ys p ne e1 e2 e3
  · have nj : i ≠ j := by
      rintro rfl
      by_cases hl : i < env.length
      · rw [List.getElem?_set_self hl] at e
        cases e
      · rw [List.getElem?_eq_none (by simpa using hl)] at e
        cases e
    rw [List.getElem?_set_ne nj] at e ⊢
    exact r.dsl j e
theorem tg_name {K : PySem.W.Frag} {i : Nat} : TgOk K (gName i) (tgN i) [i] := by
  intro B F H dl σ env ds v d env' r h e Q q
  cases e
  exact q _ (r.setD i h) (by simp) fun j hj => List.getElem?_set_ne (fun z => hj (by simp [z]))
def tgs : List (PyData → En → Option En) → List PyData → En → Option En
  | [], [], env => some env
  | f :: fs, d :: ds, env => match f d env with
    | none => none
    | some env1 => tgs fs ds env1
  | _, _, _ => none
def tgT (fs : List (PyData → En → Option En)) : PyData → En → Option En := fun d env => match d with
  | .tuple ds => tgs fs ds env
  | _ => none
def TgsOk (K : PySem.W.Frag) (tg : TGs) (fs : List (PyData → En → Option En)) (js : List Nat) : Prop := ∀ B F H dl σ env ds vs xs env', Rel K B F H dl σ env ds → DvAll K F vs xs → tgs fs xs env = some env' → ∀ Q : L2.St → Hp → Prop, (∀ σ', Rel K B F H dl σ' env' ds → σ'.length = σ.length → (∀ i, i ∉ js → σ'[i]? = σ[i]?) → Q σ' H) → tg vs σ H Q
theorem tgs_nil {K : PySem.W.Frag} : TgsOk K gNil [] [] := by
  intro B F H dl σ env ds vs xs env' r h e Q q
  cases xs with
  | nil =>
    cases e
    cases h
    exact ⟨rfl, q σ r rfl fun _ _ => rfl⟩
  | cons _ _ => cases e
theorem tgs_cons {K : PySem.W.Frag} {t : TG} {u : TGs} {f : PyData → En → Option En} {fs : List (PyData → En → Option En)} {js ks : List Nat} (h1 : TgOk K t f js) (h2 : TgsOk K u fs ks) : TgsOk K (gCons t u) (f :: fs) (js ++ ks) := by
  intro B F H dl σ env ds vs xs env' r h e Q q
  cases xs with
  | nil => cases e
  | cons d xs =>
    cases h with
    | cons d1 d2 =>
      unfold tgs at e
      cases he : f d env with
      | none => rw [he] at e; cases e
      | some env1 =>
        rw [he] at e
        refine ⟨_, _, rfl, h1 B F H dl σ env ds _ d env1 r d1 he _ fun σ1 r1 l1 n1 => ?_⟩
        refine h2 B F H dl σ1 env1 ds _ xs env' r1 d2 e _ fun σ2 r2 l2 n2 => ?_
        refine q σ2 r2 (l2.trans l1) fun i hi => ?_
        rw [List.mem_append, not_or] at hi
        exact (n2 i hi.2).trans (n1 i hi.1)
theorem tgs_len : ∀ {fs : List (PyData → En → Option En)} {xs : List PyData} {env env' : En}, tgs fs xs env = some env' → xs.length = fs.length
  | [], [], _, _, _ => rfl
  | f :: fs, d :: ds, env, env', h => by
    unfold tgs at h
    cases he : f d env with
    | none => rw [he] at h; cases h
    | some env1 =>
      rw [he] at h
      simp [tgs_len h]
  | [], _ :: _, _, _, h => by cases h
  | _ :: _, [], _, _, h => by cases h
theorem tg_tup {K : PySem.W.Frag} {n : Nat} {u : TGs} {fs : List (PyData → En → Option En)} {js : List Nat} (h : TgsOk K u fs js) (hn : fs.length = n) : TgOk K (gTup K n u) (tgT fs) js := by
  intro B F H dl σ env ds v d env' r hd e Q q
  cases d with
  | tuple xs =>
    cases hd with
    | tup q1 q2 =>
      have hl := tgs_len e
      exact ⟨_, _, rfl, seqT_mono r.ex q1, by rw [q2.length, hl, hn], h B F H dl σ env ds _ xs env' r q2 e Q q⟩
  | _ => cases e

/-! ### list comprehensions -/
def wipeE (env : En) : List Nat → En
  | [] => env
  | v :: vs => (wipeE env vs).set v .emp
theorem wipeE_len (env : En) : ∀ vs : List Nat, (wipeE env vs).length = env.length
  | [] => rfl
  | v :: vs => by unfold wipeE; rw [List.length_set, wipeE_len env vs]
theorem wipe_get (σ : L2.St) : ∀ (vs : List Nat) (i : Nat), i ∉ vs → (wipe σ vs)[i]? = σ[i]?
  | [], _, _ => rfl
  | v :: vs, i, h => by
    unfold wipe
    rw [List.mem_cons, not_or] at h
    rw [List.getElem?_set_ne (Ne.symm h.1)]
    exact wipe_get σ vs i h.2
theorem wipeE_get (env : En) : ∀ (vs : List Nat) (i : Nat), i ∉ vs → (wipeE env vs)[i]? = env[i]?
  | [], _, _ => rfl
  | v :: vs, i, h => by
    unfold wipeE
    rw [List.mem_cons, not_or] at h
    rw [List.getElem?_set_ne (Ne.symm h.1)]
    exact wipeE_get env vs i h.2
theorem wipe_in (σ : L2.St) : ∀ (vs : List Nat) (i : Nat), i ∈ vs → i < σ.length → (wipe σ vs)[i]? = some none
  | v :: vs, i, h, hl => by
    unfold wipe
    by_cases e : v = i
    · subst e
      rw [List.getElem?_set_self (by rw [wipe_length]; exact hl)]
    · rw [List.getElem?_set_ne e]
      exact wipe_in σ vs i (by simpa [Ne.symm e] using h) hl
theorem wipeE_in (env : En) : ∀ (vs : List Nat) (i : Nat), i ∈ vs → i < env.length → (wipeE env vs)[i]? = some .emp
  | v :: vs, i, h, hl => by
    unfold wipeE
    by_cases e : v = i
    · subst e
      rw [List.getElem?_set_self (by rw [wipeE_len]; exact hl)]
    · rw [List.getElem?_set_ne e]
      exact wipeE_in env vs i (by simpa [Ne.symm e] using h) hl
theorem wipe_ext {σ σ' : L2.St} {vs : List Nat} (hl : σ'.length = σ.length) (h : ∀ i, i ∉ vs → σ'[i]? = σ[i]?) : wipe σ' vs = wipe σ vs := by
  apply List.ext_getElem?
  intro i
  by_cases hi : i ∈ vs
  · by_cases hz : i < σ.length
    · rw [wipe_in σ vs i hi hz, wipe_in σ' vs i hi (by rw [hl]; exact hz)]
    · rw [List.getElem?_eq_none (by rw [wipe_length]; omega), List.getElem?_eq_none (by rw [wipe_length]; omega)]
  · rw [wipe_get σ vs i hi, wipe_get σ' vs i hi, h i hi]
theorem wipe_idem (σ : L2.St) (vs : List Nat) : wipe (wipe σ vs) vs = wipe σ vs := wipe_ext (wipe_length σ vs) fun i hi => wipe_get σ vs i hi
theorem wipeE_some {env : En} {vs : List Nat} {i : Nat} {s : Slot} (h : (wipeE env vs)[i]? = some s) (hs : s ≠ .emp) : env[i]? = some s ∧ i ∉ vs := by
  by_cases hi : i ∈ vs
  · by_cases hz : i < env.length
    · rw [wipeE_in env vs i hi hz] at h
      exact absurd (Option.some.inj h).symm hs
    · rw [List.getElem?_eq_none (by rw [wipeE_len]; omega)] at h
      cases h
  · rw [wipeE_get env vs i hi] at h
    exact ⟨h, hi⟩
theorem Rel.wipe {K : PySem.W.Frag} {B : Addr → Prop} {dl : Option (Addr × Addr)} {F H : Hp} {σ : L2.St} {env : En} {ds : DS} (r : Rel K B F H dl σ env ds) (vs : List Nat) : Rel K B F H dl (L2.wipe σ vs) (wipeE env vs) ds := by
  refine ⟨r.ex, r.bh, by rw [wipe_length, wipeE_len, r.len], fun i d e => ?_, fun i xs e => ?_, fun i j xs ys p ne e1 e2 e3 => ?_, r.dea, fun i e => ?_⟩
  · obtain ⟨e', hi⟩ := wipeE_some e (fun z => nomatch z)
    rw [wipe_get σ vs i hi]
    exact r.dat i d e'
  · obtain ⟨e', hi⟩ := wipeE_some e (fun z => nomatch z)
    rw [wipe_get σ vs i hi]
    exact r.mt i xs e'
  · obtain ⟨e1', hi⟩ := wipeE_some e1 (fun z => nomatch z)
    obtain ⟨e2', hj⟩ := wipeE_some e2 (fun z => nomatch z)
    rw [wipe_get σ vs i hi] at e3
    rw [wipe_get σ vs j hj]
    exact r.dist i j xs ys p ne e1' e2' e3
  · obtain ⟨e', hi⟩ := wipeE_some e (fun z => nomatch z)
    rw [wipe_get σ vs i hi]
    exact r.dsl i e'
/-- the slots as at first, the heap and the draws as at last -/
theorem Rel.join {K : PySem.W.Frag} {B : Addr → Prop} {dl : Option (Addr × Addr)} {F H F' H' : Hp} {σ σ2 : L2.St} {env env2 : En} {ds ds' : DS} (r : Rel K B F H dl σ env ds) (g : Gr dl F H F' H') (r2 : Rel K B F' H' dl σ2 env2 ds') : Rel K B F' H' dl σ env ds' := by
  refine ⟨r2.ex, r2.bh, r.len, fun i d e => ?_, fun i xs e => ?_, r.dist, r2.dea, r.dsl⟩
  · obtain ⟨v, h1, h2⟩ := r.dat i d e
    exact ⟨v, h1, dv_mono g.f d v h2⟩
  · obtain ⟨p, vs, h1, h2, h3, h4, h5, h6⟩ := r.mt i xs e
    exact ⟨p, vs, h1, g.h _ _ h2 h5, g.ap _ _ h2 h3, h4, h5, dvAll_mono g.f xs vs h6⟩
/-- an object outside of everything is written -/
theorem Rel.side {K : PySem.W.Frag} {B : Addr → Prop} {dl : Option (Addr × Addr)} {F H : Hp} {σ : L2.St} {env : En} {ds : DS} {D : Addr} {o : HO} (r : Rel K B F H dl σ env ds) (hF : F D = none) (hm : ∀ (i : Nat) xs, env[i]? = some (.own xs) → σ[i]? ≠ some (some (.ref D))) (hD : ¬ InD dl D) : Rel K B F (upd H D o) dl σ env ds := by
  refine ⟨fun b u q => ?_, fun b hb => ?_, r.len, r.dat, fun i xs e => ?_, r.dist, ?_, r.dsl⟩
  · rw [upd_ne (ne_of_none q hF)]
    exact r.ex b u q
  · by_cases e : b = D
    · subst e
      rw [upd_same]
      exact fun z => nomatch z
    · rw [upd_ne e]
      exact r.bh b hb
  · obtain ⟨p, vs, h1, h2, h3⟩ := r.mt i xs e
    have ne : p ≠ D := by
      rintro rfl
      exact hm i xs e h1
    exact ⟨p, vs, h1, by rw [upd_ne ne]; exact h2, h3⟩
  · rcases r.dea with h | ⟨p, q, cells, blend, h1, h2, h3, h4, h5, h6⟩
    · exact .inl h
    · have n1 : p ≠ D := fun z => hD (by rw [h1]; exact .inl z.symm)
      have n2 : q ≠ D := fun z => hD (by rw [h1]; exact .inr z.symm)
      exact .inr ⟨p, q, cells, blend, h1, h2, h3, by rw [upd_ne n1]; exact h4, by rw [upd_ne n2]; exact h5, h6⟩
def compL (tg : PyData → En → Option En) (t : M Bool) (el : M PyData) (env : En) : List PyData → DS → Option (List PyData × DS)
  | [], ds => some ([], ds)
  | x :: xs, ds => match tg x env with
    | none => none
    | some env1 => match t env1 ds with
      | none => none
      | some (false, ds1) => compL tg t el env xs ds1
      | some (true, ds1) => match el env1 ds1 with
        | none => none
        | some (y, ds2) => match compL tg t el env xs ds2 with
          | none => none
          | some (ys, ds3) => some (y :: ys, ds3)
def mComp (im : M (List PyData)) (vs : List Nat) (tg : PyData → En → Option En) (t : M Bool) (el : M PyData) : M (List PyData) := mb im fun xs env ds => compL tg t el (wipeE env vs) xs ds
theorem compL_len (tg : PyData → En → Option En) (t : M Bool) (el : M PyData) (env : En) : ∀ (xs : List PyData) (ds ds' : DS) (ys : List PyData), compL tg t el env xs ds = some (ys, ds') → ys.length ≤ xs.length
  | [], ds, ds', ys, h => by cases h; exact Nat.le_refl _
  | x :: xs, ds, ds', ys, h => by
    unfold compL at h
    split at h
    · cases h
    · split at h
      · cases h
      · exact Nat.le_succ_of_le (compL_len tg t el env xs _ _ _ h)
      · split at h
        · cases h
        · split at h
          · cases h
          · rename_i hq
            cases h
            exact Nat.succ_le_succ (compL_len tg t el env xs _ _ _ hq)
section
variable {X : Cx}
theorem dts_nil : PTs X [] (RT X.K (mr true)) := ⟨fun pins s σ H Q I ⟨B, F, dl, env, ds, b, ds', rel, hm, k⟩ => by
  obtain ⟨rfl, rfl⟩ := mr_some hm
  exact pts_nil.run pins s σ H Q I (k F H rel (Gr.refl rel.ex))⟩
theorem dts_one {c : Expr} {t : M Bool} (h : PT X c (RT X.K t)) : PTs X [c] (RT X.K t) := pts_one h
theorem comp_read {K : PySem.W.Frag} {im : M (List PyData)} {vs js : List Nat} {tg : TG} {f : PyData → En → Option En} {t : M Bool} {el : M PyData} (ht : TgOk K tg f js) (hj : ∀ j ∈ js, j ∈ vs) (σ : L2.St) (H : Hp) (Q : VK) (h : RN K (mComp im vs f t el) σ H Q) :
    tLc (IR K im) tg (RT K t) (RE K el) vs σ H Q := by
  obtain ⟨B, F, dl, env, ds, out, ds', rel, hm, k⟩ := h
  obtain ⟨xs, ds1, h1, h2⟩ := mb_some hm
  refine ⟨B, F, dl, env, ds, xs, ds1, rel, h1, fun J F1 H1 r1 g1 wk hz D hD => ?_⟩
  obtain ⟨G, Y, W, hG, hY⟩ := wk
  have hFD : F1 D = none := r1.ex.free hD
  have hnD : ¬ InD dl D := by
    rcases r1.dea with e | ⟨p, q, cells, blend, e, _, _, e4, e5, _⟩
    · rw [e.1]
      exact fun z => z
    · rw [e]
      rintro (rfl | rfl)
      · rw [hD] at e4; cases e4
      · rw [hD] at e5; cases e5
  have rw1 := r1.wipe vs
  have hmD : ∀ (i : Nat) ys, (wipeE env vs)[i]? = some (.own ys) → (wipe σ vs)[i]? ≠ some (some (.ref D)) := fun i ys e z => by
    obtain ⟨p, ws, q1, q2, _⟩ := rw1.mt i ys e
    rw [q1] at z
    cases z
    rw [hD] at q2
    cases q2
  refine lc_it W (Qd := fun H' => Q (.ref D) H') (fun i H' => ∃ Fi dsi acc vacc rest, Rel K B Fi H' dl (wipe σ vs) (wipeE env vs) dsi ∧ Gr dl F1 (upd H1 D (.lst [])) Fi (upd H' D (.lst [])) ∧ H' D = some (.lst vacc) ∧ Fi D = none ∧ DvAll K Fi vacc acc ∧ acc.length ≤ i ∧ compL f t el (wipeE env vs) (xs.drop i) dsi = some (rest, ds') ∧ out = acc ++ rest) ?_ ?_ ?_ ?_
  · refine ⟨F1, ds1, [], [], out, (rw1.tmp hD), ?_, upd_same, hFD, .nil, Nat.zero_le _, by simpa using h2, rfl⟩
    rw [upd_upd]
    exact Gr.refl (r1.ex.trans (DL.same_new hD))
  · rintro i H' hi ⟨Fi, dsi, acc, vacc, rest, ri, gi, _⟩
    exact hG H' (gi.f.trans ri.ex)
  · rintro i x H2 H3 hi ⟨Fi, dsi, acc, vacc, rest, ri, gi, hDi, hFi, hacc, hl, hc, ho⟩ y
    obtain ⟨d, F3, hx, g3, hd⟩ := hY i H2 x H3 Fi hi gi.f ri.ex y
    have r3 := ri.grow g3
    have hD3 : H3 D = some (.lst vacc) := g3.same _ _ hDi
    have hF3 : F3 D = none := g3.ap _ _ hDi hFi
    rw [List.drop_eq_getElem_cons hi] at hc
    have hxe : xs[i] = d := by
      rw [List.getElem?_eq_getElem hi] at hx
      exact Option.some.inj hx
    rw [hxe] at hc
    unfold compL at hc
    -- the walk of D through a growth
    have up : ∀ {Fa Ha Fb Hb : Hp} {oa ob : HO}, Gr dl Fa Ha Fb Hb → Fa D = none → Ha D = some oa → Hb D = some ob → Gr dl Fa (upd Ha D (.lst [])) Fb (upd Hb D (.lst [])) := fun {Fa Ha Fb Hb oa ob} g e0 e1 e2 => by
      have e3 : Fb D = none := g.ap _ _ e1 e0
      refine ⟨g.f, fun b u q => ?_, fun b u q n => ?_, fun b u q => ?_, fun b u q n => ?_⟩
      · rw [upd_ne (ne_of_none q e3)]
        exact g.ex b u q
      · by_cases e : b = D
        · subst e
          rw [upd_same] at q ⊢
          exact q
        · rw [upd_ne e] at q ⊢
          exact g.h b u q n
      · by_cases e : b = D
        · subst e
          exact ⟨_, upd_same⟩
        · rw [upd_ne e] at q ⊢
          exact g.dom b u q
      · by_cases e : b = D
        · subst e
          exact e3
        · rw [upd_ne e] at q
          exact g.ap b u q n
    cases he : f d (wipeE env vs) with
    | none => rw [he] at hc; cases hc
    | some env1 =>
      rw [he] at hc
      simp only at hc
      refine ht B F3 H3 dl _ _ dsi x d env1 r3 hd he _ fun σ2 r2 l2 n2 => ⟨?_, ?_⟩
      · rw [wipe_ext l2 fun i hi => n2 i fun z => hi (hj i z), wipe_idem]
      · cases hq : t env1 dsi with
        | none => rw [hq] at hc; cases hc
        | some z =>
          obtain ⟨b, dsb⟩ := z
          rw [hq] at hc
          refine ⟨B, F3, dl, env1, dsi, b, dsb, r2, hq, fun F4 H4 r4 g4 => ?_⟩
          have hD4 : H4 D = some (.lst vacc) := g4.h _ _ hD3 hnD
          have hF4 : F4 D = none := g4.ap _ _ hD3 hF3
          have r4' : Rel K B F4 H4 dl (wipe σ vs) (wipeE env vs) dsb := r3.join g4 r4
          cases b with
          | false =>
            refine iteF ?_
            exact ⟨F4, dsb, acc, vacc, rest, r4', (gi.trans (up g3.weak hFi hDi hD3)).trans (up g4 hF3 hD3 hD4), hD4, hF4, dvAll_mono (g3.f.trans g4.f) acc vacc hacc, by omega, hc, ho⟩
          | true =>
            refine iteT ?_
            simp only at hc
            cases hel : el env1 dsb with
            | none => rw [hel] at hc; cases hc
            | some z =>
              obtain ⟨w, dsw⟩ := z
              rw [hel] at hc
              simp only at hc
              cases hr : compL f t el (wipeE env vs) (xs.drop (i + 1)) dsw with
              | none => rw [hr] at hc; cases hc
              | some z =>
                obtain ⟨ys, dsz⟩ := z
                rw [hr] at hc
                cases hc
                refine ⟨B, F4, dl, env1, dsb, w, dsw, r4, hel, fun v F5 H5 r5 g5 d5 => ?_⟩
                have hD5 : H5 D = some (.lst vacc) := g5.h _ _ hD4 hnD
                have hF5 : F5 D = none := g5.ap _ _ hD4 hF4
                have r5' : Rel K B F5 H5 dl (wipe σ vs) (wipeE env vs) dsw := r4'.join g5 r5
                have hlen : vacc.length = acc.length := hacc.length
                refine ⟨vacc, hD5, by omega, ?_⟩
                refine ⟨F5, dsw, acc ++ [w], vacc ++ [v], ys, r5'.side hF5 hmD hnD, ?_, upd_same, hF5, ?_, ?_, hr, ?_⟩
                · rw [upd_upd]
                  exact ((gi.trans (up g3.weak hFi hDi hD3)).trans (up g4 hF3 hD3 hD4)).trans (up g5 hF4 hD4 hD5)
                · exact (dvAll_mono ((g3.f.trans g4.f).trans g5.f) acc vacc hacc).append (.cons d5 .nil)
                · simp
                  omega
                · rw [ho]
                  simp
  · rintro H' ⟨Fi, dsi, acc, vacc, rest, ri, gi, hDi, hFi, hacc, hl, hc, ho⟩
    rw [List.drop_length] at hc
    cases hc
    rw [List.append_nil] at ho
    subst ho
    -- back to the heap without D
    have g : Gr dl F1 H1 Fi H' := by
      refine ⟨gi.f, ri.ex, fun b u q n => ?_, fun b u q => ?_, fun b u q n => ?_⟩
      · have ne : b ≠ D := ne_of_none q hD
        have := gi.h b u (by rw [upd_ne ne]; exact q) n
        rw [upd_ne ne] at this
        exact this
      · have ne : b ≠ D := ne_of_none q hD
        obtain ⟨o', e⟩ := gi.dom b u (by rw [upd_ne ne]; exact q)
        rw [upd_ne ne] at e
        exact ⟨o', e⟩
      · have ne : b ≠ D := ne_of_none q hD
        exact gi.ap b u (by rw [upd_ne ne]; exact q) n
    have hD0 : H D = none := by
      cases q : H D with
      | none => rfl
      | some o =>
        obtain ⟨o', e⟩ := g1.dom D o q
        rw [hD] at e
        cases e
    exact k D vacc Fi H' (r1.join g ri) (g1.trans g) hD0 hFi hDi hacc
/-- [elt for tg in iter if t] -/
theorem dn_comp {elt tg iter : Expr} {ifs : List Expr} {scope : Scope} {own : List (Str × Nat)} {pos : Pos} {im : M (List PyData)} {g : TG} {f : PyData → En → Option En} {js : List Nat} {t : M Bool} {el : M PyData} (hc : X.calm = true) (hN : X.N.Nodup) (hi : PI X tg iter (IR X.K im)) (ok : BlkOk X.N X.env.scope scope own)
    (hg : ∀ (s : Shared) (H : Hp) (C : Addr) (cl : List (Str × Addr)) (fp : List Addr), PG (X.blk s H scope (compEnvC scope cl C X.env) fp) tg g) (ht : ∀ (s : Shared) (H : Hp) (C : Addr) (cl : List (Str × Addr)) (fp : List Addr), PTs (X.blk s H scope (compEnvC scope cl C X.env) fp) ifs (RT X.K t))
    (he : ∀ (s : Shared) (H : Hp) (C : Addr) (cl : List (Str × Addr)) (fp : List Addr), PE (X.blk s H scope (compEnvC scope cl C X.env) fp) elt (RE X.K el)) (tk : TgOk X.K g f js) (hj : ∀ j ∈ js, j ∈ own.map (·.2) := by decide) (hs : ∀ x, foldedSetIterable iter X.env x = pure x := by intro _; rfl) :
    PE X (.ListComp elt [⟨tg, iter, ifs, 0⟩] scope pos) (RN X.K (mComp im (own.map (·.2)) f t el)) :=
  pe_imp (pe_lc hc hN hi ok hg ht he hs) (comp_read tk hj)
end
end DL

set_option Elab.async false
set_option linter.all false
set_option maxRecDepth 100000
set_option maxHeartbeats 2000000
/-! Dl5: statements -/
namespace DL
open PySem PySem.Spec PyProof.Rows L2

inductive Out where
  | nx | rt (d : PyData) | bk | ct
abbrev SM := En → DS → Option (Out × En × DS)
/-- B: what stays (the caller's), F only grows -/
structure GrS (B : Addr → Prop) (F H F' H' : Hp) : Prop where
  f : Same F F'
  h : ∀ a o, B a → H a = some o → H' a = some o
  ap : ∀ a, B a → F a = none → F' a = none
section
variable {B : Addr → Prop} {F H F1 H1 F2 H2 : Hp}
theorem GrS.refl : GrS B F H F H := ⟨Same.refl F, fun _ _ _ h => h, fun _ _ h => h⟩
theorem GrS.trans (a : GrS B F H F1 H1) (b : GrS B F1 H1 F2 H2) : GrS B F H F2 H2 := ⟨a.f.trans b.f, fun x o n h => b.h x o n (a.h x o n h), fun x n h => b.ap x n (a.ap x n h)⟩
theorem Rel.notIn {K : PySem.W.Frag} {dl : Option (Addr × Addr)} {σ : L2.St} {env : En} {ds : DS} (r : Rel K B F H dl σ env ds) {a : Addr} (h : B a) : ¬ InD dl a := by
  rcases r.dea with e | ⟨p, q, cells, blend, e, _, _, _, _, _, _, e8, e9⟩
  · rw [e.1]
    exact fun z => z
  · rw [e]
    rintro (rfl | rfl)
    · exact e8 h
    · exact e9 h
theorem Rel.grs {K : PySem.W.Frag} {dl : Option (Addr × Addr)} {σ : L2.St} {env : En} {ds : DS} (r : Rel K B F H dl σ env ds) (g : Gr dl F H F1 H1) : GrS B F H F1 H1 :=
  ⟨g.f, fun a o n h => g.h a o h (r.notIn n), fun a n h => by
    cases q : H a with
    | none => exact absurd q (r.bh a n)
    | some o => exact g.ap a o q h⟩
end
def FinO (K : PySem.W.Frag) (D : Ends) : Out → L2.St → Hp → Hp → Prop
  | .nx, σ, _, H => D.nx σ H
  | .bk, σ, _, H => D.bk σ H
  | .ct, σ, _, H => D.ct σ H
  | .rt d, _, F, H => ∀ v, Dv K F v d → D.rt v H
def RS (K : PySem.W.Frag) (m : SM) : TS := fun D σ H => ∃ B F dl env ds o env' ds', Rel K B F H dl σ env ds ∧ m env ds = some (o, env', ds') ∧ ∀ σ' F' H', Rel K B F' H' dl σ' env' ds' → GrS B F H F' H' → FinO K D o σ' F' H'

/-! ### the words -/
def sNx : SM := fun env ds => some (.nx, env, ds)
def sBk : SM := fun env ds => some (.bk, env, ds)
def sCt : SM := fun env ds => some (.ct, env, ds)
def sSeq (a b : SM) : SM := fun env ds => match a env ds with
  | some (.nx, env1, ds1) => b env1 ds1
  | r => r
def sBlk : List SM → SM
  | [] => sNx
  | [a] => a
  | a :: r => sSeq a (sBlk r)
def sDrop (m : M PyData) : SM := fun env ds => match m env ds with
  | none => none
  | some (_, ds1) => some (.nx, env, ds1)
def sRet (m : M PyData) : SM := fun env ds => match m env ds with
  | none => none
  | some (d, ds1) => some (.rt d, env, ds1)
def sRetN : SM := fun env ds => some (.rt .none, env, ds)
def sIf (t : M Bool) (a b : SM) : SM := fun env ds => match t env ds with
  | none => none
  | some (true, ds1) => a env ds1
  | some (false, ds1) => b env ds1
def sAsg (f : PyData → En → Option En) (m : M PyData) : SM := fun env ds => match m env ds with
  | none => none
  | some (d, ds1) => match f d env with
    | none => none
    | some env1 => some (.nx, env1, ds1)
/-- a new list into slot i, to be changed -/
def sNew (i : Nat) (m : M (List PyData)) : SM := fun env ds => match m env ds with
  | none => none
  | some (xs, ds1) => some (.nx, env.set i (.own xs), ds1)
def sApp (i : Nat) (m : M PyData) : SM := fun env ds => match m env ds with
  | none => none
  | some (d, ds1) => match env[i]? with
    | some (.own xs) => if xs.length < sizeLine then some (.nx, env.set i (.own (xs ++ [d])), ds1) else none
    | _ => none
def sExt (i : Nat) (m : M PyData) : SM := fun env ds => match m env ds with
  | some (.list ys, ds1) => match env[i]? with
    | some (.own xs) => if xs.length + ys.length ≤ sizeLine then some (.nx, env.set i (.own (xs ++ ys)), ds1) else none
    | _ => none
  | _ => none
/-- x[k] = e -/
def sSetIx (i : Nat) (k e : M PyData) : SM := fun env ds => match e env ds with
  | none => none
  | some (d, ds1) => match k env ds1 with
    | some (.int z, ds2) => match env[i]? with
      | some (.own xs) => match ixN xs.length z with
        | some j => some (.nx, env.set i (.own (xs.set j d)), ds2)
        | none => none
      | _ => none
    | _ => none
/-- the list in slot i is not changed any more -/
def sFrz (i : Nat) : SM := fun env ds => match env[i]? with
  | some (.own xs) => some (.nx, env.set i (.dat (.list xs)), ds)
  | _ => some (.nx, env, ds)
def sForL (f : PyData → En → Option En) (b : SM) : List PyData → SM
  | [] => sNx
  | x :: xs => fun env ds => match f x env with
    | none => none
    | some env1 => match b env1 ds with
      | some (.nx, env2, ds2) => sForL f b xs env2 ds2
      | some (.ct, env2, ds2) => sForL f b xs env2 ds2
      | some (.bk, env2, ds2) => some (.nx, env2, ds2)
      | some (.rt d, env2, ds2) => some (.rt d, env2, ds2)
      | none => none
def sFor (im : M (List PyData)) (f : PyData → En → Option En) (b : SM) : SM := fun env ds => match im env ds with
  | none => none
  | some (xs, ds1) => sForL f b xs env ds1
def sWhileF (c : M Bool) (b : SM) : Nat → SM
  | 0 => fun _ _ => none
  | n + 1 => fun env ds => match c env ds with
    | none => none
    | some (false, ds1) => some (.nx, env, ds1)
    | some (true, ds1) => match b env ds1 with
      | some (.nx, env2, ds2) => sWhileF c b n env2 ds2
      | some (.ct, env2, ds2) => sWhileF c b n env2 ds2
      | some (.bk, env2, ds2) => some (.nx, env2, ds2)
      | some (.rt d, env2, ds2) => some (.rt d, env2, ds2)
      | none => none
theorem sWhileF_mono (c : M Bool) (b : SM) : ∀ (n : Nat) (env : En) (ds : DS) (r : Out × En × DS), sWhileF c b n env ds = some r → sWhileF c b (n + 1) env ds = some r
  | 0, _, _, _, h => by cases h
  | n + 1, env, ds, r, h => by
    unfold sWhileF at h ⊢
    cases q : c env ds with
    | none => rw [q] at h; cases h
    | some z =>
      obtain ⟨x, ds1⟩ := z
      rw [q] at h
      cases x with
      | false => exact h
      | true =>
        simp only at h ⊢
        cases q2 : b env ds1 with
        | none => rw [q2] at h; cases h
        | some z =>
          obtain ⟨o, env2, ds2⟩ := z
          rw [q2] at h
          cases o with
          | nx => exact sWhileF_mono c b n env2 ds2 r h
          | ct => exact sWhileF_mono c b n env2 ds2 r h
          | bk => exact h
          | rt d => exact h
theorem sWhileF_le (c : M Bool) (b : SM) {n m : Nat} (hm : n ≤ m) {env : En} {ds : DS} {r : Out × En × DS} (h : sWhileF c b n env ds = some r) : sWhileF c b m env ds = some r := by
  induction hm with
  | refl => exact h
  | step _ ih => exact sWhileF_mono c b _ env ds r ih
open Classical in
/-- the while, where some number of turns ends it -/
noncomputable def sWhile (c : M Bool) (b : SM) : SM := fun env ds => if h : ∃ n r, sWhileF c b n env ds = some r then some (Classical.choose (Classical.choose_spec h)) else none
theorem sWhile_of {c : M Bool} {b : SM} {n : Nat} {env : En} {ds : DS} {r : Out × En × DS} (h : sWhileF c b n env ds = some r) : sWhile c b env ds = some r := by
  have ex : ∃ n r, sWhileF c b n env ds = some r := ⟨n, r, h⟩
  have e : sWhile c b env ds = some (Classical.choose (Classical.choose_spec ex)) := by
    unfold sWhile
    rw [dif_pos ex]
  rw [e]
  have h2 := Classical.choose_spec (Classical.choose_spec ex)
  have h3 := sWhileF_le c b (Nat.le_max_left n (Classical.choose ex)) h
  have h4 := sWhileF_le c b (Nat.le_max_right n (Classical.choose ex)) h2
  rw [h3] at h4
  exact h4.symm
theorem sWhile_some {c : M Bool} {b : SM} {env : En} {ds : DS} {r : Out × En × DS} (h : sWhile c b env ds = some r) : ∃ n, sWhileF c b n env ds = some r := by
  unfold sWhile at h
  split at h
  · rename_i ex
    cases h
    exact ⟨_, Classical.choose_spec (Classical.choose_spec ex)⟩
  · cases h
/-- one turn -/
theorem sWhile_eq (c : M Bool) (b : SM) (env : En) (ds : DS) : sWhile c b env ds = match c env ds with
    | none => none
    | some (false, ds1) => some (.nx, env, ds1)
    | some (true, ds1) => match b env ds1 with
      | some (.nx, env2, ds2) => sWhile c b env2 ds2
      | some (.ct, env2, ds2) => sWhile c b env2 ds2
      | some (.bk, env2, ds2) => some (.nx, env2, ds2)
      | some (.rt d, env2, ds2) => some (.rt d, env2, ds2)
      | none => none := by
  have none_of : ∀ {env : En} {ds : DS}, (∀ n r, sWhileF c b n env ds ≠ some r) → sWhile c b env ds = none := fun {env ds} h => by
    unfold sWhile
    rw [dif_neg fun ⟨n, r, e⟩ => h n r e]
  cases q : c env ds with
  | none =>
    refine none_of fun n r e => ?_
    cases n with
    | zero => cases e
    | succ n => unfold sWhileF at e; rw [q] at e; cases e
  | some z =>
    obtain ⟨x, ds1⟩ := z
    cases x with
    | false =>
      refine sWhile_of (n := 1) ?_
      unfold sWhileF
      rw [q]
    | true =>
      simp only
      cases q2 : b env ds1 with
      | none =>
        refine none_of fun n r e => ?_
        cases n with
        | zero => cases e
        | succ n => unfold sWhileF at e; rw [q] at e; simp only at e; rw [q2] at e; cases e
      | some z =>
        obtain ⟨o, env2, ds2⟩ := z
        have again : ∀ (hh : ∀ n, sWhileF c b (n + 1) env ds = sWhileF c b n env2 ds2), sWhile c b env ds = sWhile c b env2 ds2 := fun hh => by
          cases w : sWhile c b env2 ds2 with
          | some r =>
            obtain ⟨n, e⟩ := sWhile_some w
            exact sWhile_of (n := n + 1) ((hh n).trans e)
          | none =>
            refine none_of fun n r e => ?_
            cases n with
            | zero => cases e
            | succ n =>
              rw [hh n] at e
              rw [sWhile_of e] at w
              cases w
        cases o with
        | nx => exact again fun n => by rw [sWhileF]; simp only [q, q2]
        | ct => exact again fun n => by rw [sWhileF]; simp only [q, q2]
        | bk =>
          refine sWhile_of (n := 1) ?_
          unfold sWhileF
          rw [q]
          simp only
          rw [q2]
        | rt d =>
          refine sWhile_of (n := 1) ?_
          unfold sWhileF
          rw [q]
          simp only
          rw [q2]

section
variable {X : Cx} {st : Stmt} {rest : List Stmt} {e : Expr} {pos : Pos} {m : M PyData} {a b : SM} {t : M Bool}
theorem dss_nil : PSs X [] (RS X.K sNx) := pss_imp pss_nil fun D σ H ⟨B, F, dl, env, ds, o, env', ds', rel, hm, k⟩ => by
  cases hm
  exact k σ F H rel GrS.refl
theorem ds_pass : PS X (.Pass pos) (RS X.K sNx) := ps_imp ps_pass fun D σ H ⟨B, F, dl, env, ds, o, env', ds', rel, hm, k⟩ => by
  cases hm
  exact k σ F H rel GrS.refl
theorem ds_break : PS X (.Break pos) (RS X.K sBk) := ps_imp ps_break fun D σ H ⟨B, F, dl, env, ds, o, env', ds', rel, hm, k⟩ => by
  cases hm
  exact k σ F H rel GrS.refl
theorem ds_cont : PS X (.Continue pos) (RS X.K sCt) := ps_imp ps_continue fun D σ H ⟨B, F, dl, env, ds, o, env', ds', rel, hm, k⟩ => by
  cases hm
  exact k σ F H rel GrS.refl
theorem dss_one (h : PS X st (RS X.K a)) : PSs X [st] (RS X.K a) := pss_one h
theorem seq_read {K : PySem.W.Frag} {t1 t2 : TS} (h1 : ∀ D σ H, RS K a D σ H → t1 D σ H) (h2 : ∀ D σ H, RS K b D σ H → t2 D σ H) : ∀ D σ H, RS K (sSeq a b) D σ H → t1 { D with nx := t2 D } σ H := fun D σ H ⟨B, F, dl, env, ds, o, env', ds', rel, hm, k⟩ => by
  unfold sSeq at hm
  cases q : a env ds with
  | none => rw [q] at hm; cases hm
  | some z =>
    obtain ⟨o1, env1, ds1⟩ := z
    rw [q] at hm
    refine h1 _ σ H ⟨B, F, dl, env, ds, o1, env1, ds1, rel, q, fun σ1 F1 H1 r1 g1 => ?_⟩
    cases o1 with
    | nx =>
      show t2 D σ1 H1
      exact h2 D σ1 H1 ⟨B, F1, dl, env1, ds1, o, env', ds', r1, hm, fun σ2 F2 H2 r2 g2 => k σ2 F2 H2 r2 (g1.trans g2)⟩
    | bk => cases hm; exact k σ1 F1 H1 r1 g1
    | ct => cases hm; exact k σ1 F1 H1 r1 g1
    | rt d => cases hm; exact k σ1 F1 H1 r1 g1
theorem dss_cons (h : PS X st (RS X.K a)) (hr : PSs X rest (RS X.K b)) : PSs X (st :: rest) (RS X.K (sSeq a b)) :=
  pss_imp (pss_cons h hr) (seq_read (t1 := RS X.K a) (t2 := RS X.K b) (fun _ _ _ h => h) fun _ _ _ h => h)
/-- one more word, no statement -/
theorem dss_ghost (h : ∀ D σ H, RS X.K a D σ H → D.nx σ H) (hr : PSs X rest (RS X.K b)) : PSs X rest (RS X.K (sSeq a b)) :=
  pss_imp hr fun D σ H q => by
    have := seq_read (K := X.K) (t1 := fun D σ H => D.nx σ H) (t2 := RS X.K b) h (fun _ _ _ h => h) D σ H q
    exact this
theorem ds_expr (h : PE X e (RE X.K m)) (hs : swapsWith e none pos.line X.env = pure false := by rfl) : PS X (.Expr e pos) (RS X.K (sDrop m)) :=
  ps_imp (ps_expr h hs) fun D σ H ⟨B, F, dl, env, ds, o, env', ds', rel, hm, k⟩ => by
    unfold sDrop at hm
    cases q : m env ds with
    | none => rw [q] at hm; cases hm
    | some z =>
      obtain ⟨d, ds1⟩ := z
      rw [q] at hm
      cases hm
      exact ⟨B, F, dl, env, ds, d, _, rel, q, fun v F' H' r g dv => k σ F' H' r (rel.grs g)⟩
theorem ds_ret (h : PE X e (RE X.K m)) : PS X (.Return (some e) pos) (RS X.K (sRet m)) :=
  ps_imp (ps_ret h) fun D σ H ⟨B, F, dl, env, ds, o, env', ds', rel, hm, k⟩ => by
    unfold sRet at hm
    cases q : m env ds with
    | none => rw [q] at hm; cases hm
    | some z =>
      obtain ⟨d, ds1⟩ := z
      rw [q] at hm
      cases hm
      exact ⟨B, F, dl, env, ds, d, _, rel, q, fun v F' H' r g dv => k σ F' H' r (rel.grs g) v dv⟩
theorem ds_retN : PS X (.Return none pos) (RS X.K sRetN) := ps_imp ps_retN fun D σ H ⟨B, F, dl, env, ds, o, env', ds', rel, hm, k⟩ => by
  cases hm
  exact k σ F H rel GrS.refl _ .non
theorem ds_if {c : Expr} {u v : List Stmt} (hc : PT X c (RT X.K t)) (ha : PSs X u (RS X.K a)) (hb : PSs X v (RS X.K b)) : PS X (.If c u v pos) (RS X.K (sIf t a b)) :=
  ps_imp (ps_if hc ha hb) fun D σ H ⟨B, F, dl, env, ds, o, env', ds', rel, hm, k⟩ => by
    unfold sIf at hm
    cases q : t env ds with
    | none => rw [q] at hm; cases hm
    | some z =>
      obtain ⟨x, ds1⟩ := z
      rw [q] at hm
      refine ⟨B, F, dl, env, ds, x, ds1, rel, q, fun F' H' r g => ?_⟩
      cases x with
      | true => exact iteT ⟨B, F', dl, env, ds1, o, env', ds', r, hm, fun σ2 F2 H2 r2 g2 => k σ2 F2 H2 r2 ((rel.grs g).trans g2)⟩
      | false => exact iteF ⟨B, F', dl, env, ds1, o, env', ds', r, hm, fun σ2 F2 H2 r2 g2 => k σ2 F2 H2 r2 ((rel.grs g).trans g2)⟩
theorem asg_read {K : PySem.W.Frag} {g : TG} {f : PyData → En → Option En} {js : List Nat} (tk : TgOk K g f js) : ∀ D σ H, RS K (sAsg f m) D σ H → tAsg (RE K m) g D σ H := fun D σ H ⟨B, F, dl, env, ds, o, env', ds', rel, hm, k⟩ => by
  unfold sAsg at hm
  cases q : m env ds with
  | none => rw [q] at hm; cases hm
  | some z =>
    obtain ⟨d, ds1⟩ := z
    rw [q] at hm
    simp only at hm
    cases q2 : f d env with
    | none => rw [q2] at hm; cases hm
    | some env1 =>
      rw [q2] at hm
      cases hm
      exact ⟨B, F, dl, env, ds, d, _, rel, q, fun v F' H' r gr dv => tk B F' H' dl σ env _ v d _ r dv q2 _ fun σ' r' _ _ => k σ' F' H' r' (rel.grs gr)⟩
/-- target = e, by the statement's own rule -/
theorem ds_asg {g : TG} {f : PyData → En → Option En} {js : List Nat} (h : PS X st (tAsg (RE X.K m) g)) (tk : TgOk X.K g f js) : PS X st (RS X.K (sAsg f m)) := ps_imp h (asg_read tk)
theorem ds_set {i : Nat} {x : Str} {pos' : Pos} (hN : X.N.Nodup) (h : PE X e (RE X.K m)) (hi : X.N[i]? = some x := by rfl) (hx : Loc X.env.scope x := by first | exact Or.inl rfl | exact Or.inr rfl) (hs : swapsWith e (some (.Name x pos')) pos.line X.env = pure false := by rfl)
    (hf : X.fn x = true ∨ X.env.scope.names.lookup x = some .local := by first | exact .inl rfl | exact .inr rfl | assumption) : PS X (.Assign [.Name x pos'] e pos) (RS X.K (sAsg (tgN i) m)) :=
  ds_asg (ps_set hN hi hx h hs hf) tg_name
/-- slot i gets a new list of one's own -/
theorem Rel.setM {K : PySem.W.Frag} {B : Addr → Prop} {dl : Option (Addr × Addr)} {F H F' H' : Hp} {σ : L2.St} {env : En} {ds ds0 : DS} {p : Addr} {vs : List V} {xs : List PyData} (r0 : Rel K B F H dl σ env ds0) (r : Rel K B F' H' dl σ env ds) (i : Nat) (hp : H p = none) (hp' : H' p = some (.lst vs)) (fp : F' p = none) (h : DvAll K F' vs xs) :
    Rel K B F' H' dl (σ.set i (some (.ref p))) (env.set i (.own xs)) ds := by
  have nB : ¬ B p := fun z => r0.bh p z hp
  have nD : ¬ InD dl p := by
    rcases r0.dea with e | ⟨p', q, cells, blend, e, _, _, e4, e5, _⟩
    · rw [e.1]
      exact fun z => z
    · rw [e]
      rintro (rfl | rfl)
      · rw [hp] at e4; cases e4
      · rw [hp] at e5; cases e5
  have nM : ∀ (j : Nat) ys, env[j]? = some (.own ys) → σ[j]? ≠ some (some (.ref p)) := fun j ys e z => by
    obtain ⟨q, ws, q1, q2, _⟩ := r0.mt j ys e
    rw [q1] at z
    cases z
    rw [hp] at q2
    cases q2
  have eqI : ∀ {j : Nat} {s : Slot}, (env.set i (.own xs))[j]? = some s → i = j → s = .own xs ∧ i < env.length := fun {j s} e z => by
    subst z
    by_cases hl : i < env.length
    · rw [List.getElem?_set_self hl] at e
      exact ⟨(Option.some.inj e).symm, hl⟩
    · rw [List.getElem?_eq_none (by simpa using hl)] at e
      cases e
  refine ⟨r.ex, r.bh, by simp [r.len], fun j d e => ?_, fun j ys e => ?_, fun j l ys zs q ne e1 e2 e3 => ?_, r.dea, fun j e => ?_⟩
  · by_cases hj : i = j
    · cases (eqI e hj).1
    · rw [List.getElem?_set_ne hj] at e ⊢
      exact r.dat j d e
  · by_cases hj : i = j
    · obtain ⟨e', hl⟩ := eqI e hj
      cases e'
      subst hj
      exact ⟨p, vs, by rw [List.getElem?_set_self (by rw [r.len]; exact hl)], hp', fp, nB, nD, h⟩
    · rw [List.getElem?_set_ne hj] at e ⊢
      exact r.mt j ys e
  · by_cases hj : i = j
    · obtain ⟨_, hl⟩ := eqI e1 hj
      subst hj
      rw [List.getElem?_set_self (by rw [r.len]; exact hl)] at e3
      cases e3
      rw [List.getElem?_set_ne ne] at e2 ⊢
      exact nM l zs e2
    · rw [List.getElem?_set_ne hj] at e1 e3
      by_cases hl : i = l
      · obtain ⟨_, hl'⟩ := eqI e2 hl
        subst hl
        rw [List.getElem?_set_self (by rw [r.len]; exact hl')]
        intro z
        cases z
        exact nM j ys e1 e3
      · rw [List.getElem?_set_ne hl] at e2 ⊢
        exact r.dist j l ys zs q ne e1 e2 e3
  · by_cases hj : i = j
    · cases (eqI e hj).1
    · rw [List.getElem?_set_ne hj] at e ⊢
      exact r.dsl j e
theorem new_read {K : PySem.W.Frag} {i : Nat} {m : M (List PyData)} : ∀ D σ H, RS K (sNew i m) D σ H → tAsg (RN K m) (gName i) D σ H := fun D σ H ⟨B, F, dl, env, ds, o, env', ds', rel, hm, k⟩ => by
  unfold sNew at hm
  cases q : m env ds with
  | none => rw [q] at hm; cases hm
  | some z =>
    obtain ⟨xs, ds1⟩ := z
    rw [q] at hm
    cases hm
    refine ⟨B, F, dl, env, ds, xs, _, rel, q, fun p vs F' H' r gr hp fp hp' dv => ?_⟩
    exact k _ F' H' (Rel.setM rel r i hp hp' fp dv) (rel.grs gr)
theorem ds_asgN {i : Nat} {m : M (List PyData)} (h : PS X st (tAsg (RN X.K m) (gName i))) : PS X st (RS X.K (sNew i m)) := ps_imp h new_read
theorem ds_new {i : Nat} {x : Str} {pos' : Pos} {m : M (List PyData)} (hN : X.N.Nodup) (h : PE X e (RN X.K m)) (hi : X.N[i]? = some x := by rfl) (hx : Loc X.env.scope x := by first | exact Or.inl rfl | exact Or.inr rfl) (hs : swapsWith e (some (.Name x pos')) pos.line X.env = pure false := by rfl)
    (hf : X.fn x = true ∨ X.env.scope.names.lookup x = some .local := by first | exact .inl rfl | exact .inr rfl | assumption) : PS X (.Assign [.Name x pos'] e pos) (RS X.K (sNew i m)) :=
  ds_asgN (ps_set hN hi hx h hs hf)

/-! ### a list of one's own turns -/
theorem Rel.updM {K : PySem.W.Frag} {B : Addr → Prop} {dl : Option (Addr × Addr)} {F H : Hp} {σ : L2.St} {env : En} {ds : DS} {i : Nat} {p : Addr} {vs : List V} {xs ys : List PyData} (r : Rel K B F H dl σ env ds) (he : env[i]? = some (.own xs)) (hs : σ[i]? = some (some (.ref p))) (h : DvAll K F vs ys) :
    Rel K B F (upd H p (.lst vs)) dl σ (env.set i (.own ys)) ds ∧ GrS B F H F (upd H p (.lst vs)) := by
  obtain ⟨p', ws, h1, h2, h3, h4, h5, h6⟩ := r.mt i xs he
  have ep : p' = p := by
    rw [hs] at h1
    cases h1
    rfl
  subst ep
  have hl : i < env.length := (List.getElem?_eq_some_iff.mp he).1
  refine ⟨⟨fun b u q => ?_, fun b hb => ?_, by simp [r.len], fun j d e => ?_, fun j zs e => ?_, fun j l zs us q ne e1 e2 e3 => ?_, ?_, fun j e => ?_⟩, ⟨Same.refl F, fun b u hb q => ?_, fun _ _ h => h⟩⟩
  · rw [upd_ne (ne_of_none q h3)]
    exact r.ex b u q
  · by_cases e : b = p'
    · subst e
      rw [upd_same]
      exact fun z => nomatch z
    · rw [upd_ne e]
      exact r.bh b hb
  · by_cases hj : i = j
    · subst hj
      rw [List.getElem?_set_self hl] at e
      cases e
    · rw [List.getElem?_set_ne hj] at e
      exact r.dat j d e
  · by_cases hj : i = j
    · subst hj
      rw [List.getElem?_set_self hl] at e
      cases e
      exact ⟨p', vs, hs, upd_same, h3, h4, h5, h⟩
    · rw [List.getElem?_set_ne hj] at e
      obtain ⟨q, us, q1, q2, q3⟩ := r.mt j zs e
      have ne : q ≠ p' := by
        rintro rfl
        exact r.dist i j xs zs q hj he e hs q1
      exact ⟨q, us, q1, by rw [upd_ne ne]; exact q2, q3⟩
  · have mut_of : ∀ {j : Nat} {zs : List PyData}, (env.set i (.own ys))[j]? = some (.own zs) → ∃ zs', env[j]? = some (.own zs') := fun {j zs} e => by
      by_cases hj : i = j
      · subst hj
        exact ⟨xs, he⟩
      · rw [List.getElem?_set_ne hj] at e
        exact ⟨zs, e⟩
    obtain ⟨_, f1⟩ := mut_of e1
    obtain ⟨_, f2⟩ := mut_of e2
    exact r.dist j l _ _ q ne f1 f2 e3
  · rcases r.dea with z | ⟨a, q, cells, blend, q1, q2, q3, q4, q5, q6⟩
    · exact .inl z
    · have n1 : a ≠ p' := fun z => h5 (by rw [q1]; exact .inl z.symm)
      have n2 : q ≠ p' := fun z => h5 (by rw [q1]; exact .inr z.symm)
      exact .inr ⟨a, q, cells, blend, q1, q2, q3, by rw [upd_ne n1]; exact q4, by rw [upd_ne n2]; exact q5, q6⟩
  · by_cases hj : i = j
    · subst hj
      rw [List.getElem?_set_self hl] at e
      cases e
    · rw [List.getElem?_set_ne hj] at e
      exact r.dsl j e
  · by_cases e : b = p'
    · subst e
      exact absurd hb h4
    · rw [upd_ne e]
      exact q
/-- the list of slot i, from the heap behind e -/
theorem mut_at {K : PySem.W.Frag} {B : Addr → Prop} {dl : Option (Addr × Addr)} {F H F' H' : Hp} {σ : L2.St} {env : En} {ds ds' : DS} {i : Nat} {xs : List PyData} (r : Rel K B F H dl σ env ds) (he : env[i]? = some (.own xs)) : ∃ p vs, σ[i]? = some (some (.ref p)) ∧ H p = some (.lst vs) ∧ DvAll K F vs xs :=
  let ⟨p, vs, h1, h2, _, _, _, h6⟩ := r.mt i xs he
  ⟨p, vs, h1, h2, h6⟩
theorem app_read {K : PySem.W.Frag} {i : Nat} : ∀ D σ H, RS K (sApp i m) D σ H → tDrop (tBM K "list" rAppend (tVar i) (tCons (RE K m) tNil)) D σ H := fun D σ H ⟨B, F, dl, env, ds, o, env', ds', rel, hm, k⟩ => by
  unfold sApp at hm
  cases q : m env ds with
  | none => rw [q] at hm; cases hm
  | some z =>
    obtain ⟨d, ds1⟩ := z
    rw [q] at hm
    simp only at hm
    cases he : env[i]? with
    | none => rw [he] at hm; cases hm
    | some s =>
      rw [he] at hm
      cases s with
      | own xs =>
        simp only at hm
        split at hm
        · rename_i hz
          cases hm
          obtain ⟨p, vs, h1, h2, h3⟩ := rel.mt i xs he
          refine ⟨.ref p, h1, .inl ⟨rfl, vs, SqL.of h2⟩, ⟨B, F, dl, env, ds, d, _, rel, q, fun v F' H' r gr dv => ?_⟩⟩
          obtain ⟨p', vs', g1, g2, g3, g4, g5, g6⟩ := r.mt i xs he
          rw [h1] at g1
          cases g1
          refine ⟨p, vs', v, rfl, rfl, g2, by rw [g6.length]; exact hz, ?_⟩
          obtain ⟨r2, s2⟩ := Rel.updM (ys := xs ++ [d]) (vs := vs' ++ [v]) r he h1 (g6.append (.cons dv .nil))
          exact k σ F' _ r2 ((rel.grs gr).trans s2)
        · cases hm
      | _ => cases hm
theorem ds_app {i : Nat} (h : PS X st (tDrop (tBM X.K "list" rAppend (tVar i) (tCons (RE X.K m) tNil)))) : PS X st (RS X.K (sApp i m)) := ps_imp h app_read
theorem ext_read {K : PySem.W.Frag} {i : Nat} : ∀ D σ H, RS K (sExt i m) D σ H → tDrop (tBM K "list" rExtend (tVar i) (tCons (RE K m) tNil)) D σ H := fun D σ H ⟨B, F, dl, env, ds, o, env', ds', rel, hm, k⟩ => by
  unfold sExt at hm
  cases q : m env ds with
  | none => rw [q] at hm; cases hm
  | some z =>
    obtain ⟨d, ds1⟩ := z
    rw [q] at hm
    cases d with
    | list ys =>
      simp only at hm
      cases he : env[i]? with
      | none => rw [he] at hm; cases hm
      | some s =>
        rw [he] at hm
        cases s with
        | own xs =>
          simp only at hm
          split at hm
          · rename_i hz
            cases hm
            obtain ⟨p, vs, h1, h2, h3⟩ := rel.mt i xs he
            refine ⟨.ref p, h1, .inl ⟨rfl, vs, SqL.of h2⟩, ⟨B, F, dl, env, ds, .list ys, _, rel, q, fun v F' H' r gr dv => ?_⟩⟩
            obtain ⟨p', vs', g1, g2, g3, g4, g5, g6⟩ := r.mt i xs he
            rw [h1] at g1
            cases g1
            cases dv with
            | lst w1 w2 =>
              refine ⟨p, _, vs', _, rfl, rfl, g2, r.ex _ _ w1, by rw [g6.length, w2.length]; exact hz, ?_⟩
              obtain ⟨r2, s2⟩ := Rel.updM (ys := xs ++ ys) r he h1 (g6.append w2)
              exact k σ F' _ r2 ((rel.grs gr).trans s2)
          · cases hm
        | _ => cases hm
    | _ => cases hm
theorem ds_ext {i : Nat} (h : PS X st (tDrop (tBM X.K "list" rExtend (tVar i) (tCons (RE X.K m) tNil)))) : PS X st (RS X.K (sExt i m)) := ps_imp h ext_read
theorem setix_read {K : PySem.W.Frag} {i : Nat} {mk : M PyData} : ∀ D σ H, RS K (sSetIx i mk m) D σ H → tAsg (RE K m) (gSub (tVar i) (RE K mk) rSetL) D σ H := fun D σ H ⟨B, F, dl, env, ds, o, env', ds', rel, hm, k⟩ => by
  unfold sSetIx at hm
  cases q : m env ds with
  | none => rw [q] at hm; cases hm
  | some z =>
    obtain ⟨d, ds1⟩ := z
    rw [q] at hm
    simp only at hm
    cases q2 : mk env ds1 with
    | none => rw [q2] at hm; cases hm
    | some z2 =>
      obtain ⟨kd, ds2⟩ := z2
      rw [q2] at hm
      cases kd with
      | int z =>
        simp only at hm
        cases he : env[i]? with
        | none => rw [he] at hm; cases hm
        | some s =>
          rw [he] at hm
          cases s with
          | own xs =>
            simp only at hm
            cases hj : ixN xs.length z with
            | none => rw [hj] at hm; cases hm
            | some j =>
              rw [hj] at hm
              cases hm
              refine ⟨B, F, dl, env, ds, d, ds1, rel, q, fun v F1 H1 r1 g1 dv => ?_⟩
              obtain ⟨p, vs, h1, h2, h3⟩ := r1.mt i xs he
              refine ⟨.ref p, h1, ⟨B, F1, dl, env, ds1, .int z, _, r1, q2, fun u F2 H2 r2 g2 du => ?_⟩⟩
              cases du
              obtain ⟨p', vs', e1, e2, e3, e4, e5, e6⟩ := r2.mt i xs he
              rw [h1] at e1
              cases e1
              refine ⟨p, vs', z, j, rfl, rfl, e2, by rw [e6.length]; exact hj, ?_⟩
              obtain ⟨r3, s3⟩ := Rel.updM (ys := xs.set j d) r2 he h1 (DvAll.set (dv_mono g2.f d v dv) j e6)
              exact k σ F2 _ r3 (((rel.grs g1).trans (r1.grs g2)).trans s3)
          | _ => cases hm
      | _ => cases hm
theorem ds_setix {i : Nat} {mk : M PyData} (h : PS X st (tAsg (RE X.K m) (gSub (tVar i) (RE X.K mk) rSetL))) : PS X st (RS X.K (sSetIx i mk m)) := ps_imp h setix_read
/-- a list is not changed any more: it comes into F -/
theorem frz_read {K : PySem.W.Frag} {i : Nat} : ∀ D σ H, RS K (sFrz i) D σ H → D.nx σ H := fun D σ H ⟨B, F, dl, env, ds, o, env', ds', rel, hm, k⟩ => by
  unfold sFrz at hm
  cases he : env[i]? with
  | none => rw [he] at hm; cases hm; exact k σ F H rel GrS.refl
  | some s =>
    rw [he] at hm
    cases s with
    | own xs =>
      cases hm
      obtain ⟨p, vs, h1, h2, h3, h4, h5, h6⟩ := rel.mt i xs he
      have hl : i < env.length := (List.getElem?_eq_some_iff.mp he).1
      have fs : Same F (upd F p (.lst vs)) := DL.same_new h3
      refine k σ (upd F p (.lst vs)) H ⟨fun b u q => ?_, rel.bh, by simp [rel.len], fun j d e => ?_, fun j zs e => ?_, fun j l zs us q ne e1 e2 e3 => ?_, ?_, fun j e => ?_⟩ ⟨fs, fun _ _ _ q => q, fun b hb n => ?_⟩
      · by_cases hb : b = p
        · subst hb
          rw [upd_same] at q
          exact h2.trans q
        · rw [upd_ne hb] at q
          exact rel.ex b u q
      · by_cases hj : i = j
        · subst hj
          rw [List.getElem?_set_self hl] at e
          cases e
          exact ⟨.ref p, h1, .lst upd_same (dvAll_mono fs xs vs h6)⟩
        · rw [List.getElem?_set_ne hj] at e
          obtain ⟨v, q1, q2⟩ := rel.dat j d e
          exact ⟨v, q1, dv_mono fs d v q2⟩
      · by_cases hj : i = j
        · subst hj
          rw [List.getElem?_set_self hl] at e
          cases e
        · rw [List.getElem?_set_ne hj] at e
          obtain ⟨q, us, q1, q2, q3, q4, q5, q6⟩ := rel.mt j zs e
          have ne : q ≠ p := by
            rintro rfl
            exact rel.dist i j xs zs q hj he e h1 q1
          exact ⟨q, us, q1, q2, by rw [upd_ne ne]; exact q3, q4, q5, dvAll_mono fs zs us q6⟩
      · have nj : i ≠ j := by
          rintro rfl
          rw [List.getElem?_set_self hl] at e1
          cases e1
        have nl : i ≠ l := by
          rintro rfl
          rw [List.getElem?_set_self hl] at e2
          cases e2
        rw [List.getElem?_set_ne nj] at e1
        rw [List.getElem?_set_ne nl] at e2
        exact rel.dist j l zs us q ne e1 e2 e3
      · rcases rel.dea with z | ⟨a, q, cells, blend, q1, q2, q3, q4, q5, q6, q7, q8⟩
        · exact .inl z
        · have n1 : a ≠ p := fun z => h5 (by rw [q1]; exact .inl z.symm)
          have n2 : q ≠ p := fun z => h5 (by rw [q1]; exact .inr z.symm)
          exact .inr ⟨a, q, cells, blend, q1, q2, q3, q4, q5, by rw [upd_ne n1]; exact q6, by rw [upd_ne n2]; exact q7, q8⟩
      · by_cases hj : i = j
        · subst hj
          rw [List.getElem?_set_self hl] at e
          cases e
        · rw [List.getElem?_set_ne hj] at e
          exact rel.dsl j e
      · have ne : b ≠ p := by
          rintro rfl
          exact h4 hb
        rw [upd_ne ne]
        exact n
    | emp => cases hm; exact k σ F H rel GrS.refl
    | dat d => cases hm; exact k σ F H rel GrS.refl
    | deal => cases hm; exact k σ F H rel GrS.refl
theorem dss_frz (i : Nat) (hr : PSs X rest (RS X.K b)) : PSs X rest (RS X.K (sSeq (sFrz i) b)) := dss_ghost frz_read hr

/-! ### loops -/
theorem for_read {K : PySem.W.Frag} {im : M (List PyData)} {g : TG} {f : PyData → En → Option En} {js : List Nat} (tk : TgOk K g f js) : ∀ D σ H, RS K (sFor im f b) D σ H → tFor (IR K im) g (RS K b) D σ H := fun D σ H ⟨B, F, dl, env, ds, o, env', ds', rel, hm, k⟩ => by
  unfold sFor at hm
  cases q : im env ds with
  | none => rw [q] at hm; cases hm
  | some z =>
    obtain ⟨xs, ds1⟩ := z
    rw [q] at hm
    simp only at hm
    refine ⟨B, F, dl, env, ds, xs, ds1, rel, q, fun J F1 H1 r1 g1 wk hz => ?_⟩
    obtain ⟨G, Y, W, hG, hY⟩ := wk
    have gs1 := rel.grs g1
    refine for_it W (fun i σi Hi => ∃ Fi envi dsi, Rel K B Fi Hi dl σi envi dsi ∧ GrS B F1 H1 Fi Hi ∧ sForL f b (xs.drop i) envi dsi = some (o, env', ds')) ?_ ?_ ?_ ?_
    · exact ⟨F1, env, ds1, r1, GrS.refl, by simpa using hm⟩
    · rintro i σi Hi hi ⟨Fi, envi, dsi, ri, gi, _⟩
      exact hG Hi (gi.f.trans ri.ex)
    · rintro i x σi Hi H3 hi ⟨Fi, envi, dsi, ri, gi, hs⟩ y
      obtain ⟨d, F3, hx, g3, hd⟩ := hY i Hi x H3 Fi hi gi.f ri.ex y
      have r3 := ri.grow g3
      have gs3 : GrS B Fi Hi F3 H3 := ri.grs g3.weak
      rw [List.drop_eq_getElem_cons hi] at hs
      have hxe : xs[i] = d := by
        rw [List.getElem?_eq_getElem hi] at hx
        exact Option.some.inj hx
      rw [hxe] at hs
      unfold sForL at hs
      cases he : f d envi with
      | none => rw [he] at hs; cases hs
      | some env1 =>
        rw [he] at hs
        simp only at hs
        refine tk B F3 H3 dl σi envi dsi x d env1 r3 hd he _ fun σ2 r2 _ _ => ?_
        cases hb : b env1 dsi with
        | none => rw [hb] at hs; cases hs
        | some z =>
          obtain ⟨o1, env2, ds2⟩ := z
          rw [hb] at hs
          refine ⟨B, F3, dl, env1, dsi, o1, env2, ds2, r2, hb, fun σ4 F4 H4 r4 g4 => ?_⟩
          have g5 := (gi.trans gs3).trans g4
          cases o1 with
          | nx => exact ⟨F4, env2, ds2, r4, g5, hs⟩
          | ct => exact ⟨F4, env2, ds2, r4, g5, hs⟩
          | bk => cases hs; exact k σ4 F4 H4 r4 (gs1.trans g5)
          | rt d => cases hs; exact k σ4 F4 H4 r4 (gs1.trans g5)
    · rintro σn Hn ⟨Fn, envn, dsn, rn, gn, hs⟩
      rw [List.drop_length] at hs
      cases hs
      exact k σn Fn Hn rn (gs1.trans gn)
theorem ds_for {tg iter : Expr} {body : List Stmt} {im : M (List PyData)} {g : TG} {f : PyData → En → Option En} {js : List Nat} (hp : PassesOwn (model X.prog X.w) X.A X.env X.xe) (hc : X.calm = true) (hi : PI X tg iter (IR X.K im)) (hg : PG X tg g) (hb : PSs X body (RS X.K b)) (tk : TgOk X.K g f js)
    (hs : ∀ x, foldedSetIterable iter X.env x = pure x := by intro _; rfl) : PS X (.For tg iter body [] pos) (RS X.K (sFor im f b)) := ps_imp (ps_for hp hc hi hg hb hs) (for_read tk)
theorem while_read {K : PySem.W.Frag} : ∀ D σ H, RS K (sWhile t b) D σ H → tWhile (RT K t) (RS K b) D σ H := fun D σ H ⟨B, F, dl, env, ds, o, env', ds', rel, hm, k⟩ => by
  obtain ⟨n, hn⟩ := sWhile_some hm
  refine ⟨fun m σi Hi => ∃ Fi envi dsi, Rel K B Fi Hi dl σi envi dsi ∧ GrS B F H Fi Hi ∧ sWhileF t b m envi dsi = some (o, env', ds'), ⟨n, F, env, ds, rel, GrS.refl, hn⟩, ?_⟩
  rintro m σi Hi ⟨Fi, envi, dsi, ri, gi, hs⟩
  cases m with
  | zero => cases hs
  | succ m =>
    unfold sWhileF at hs
    cases q : t envi dsi with
    | none => rw [q] at hs; cases hs
    | some z =>
      obtain ⟨x, ds1⟩ := z
      rw [q] at hs
      refine ⟨B, Fi, dl, envi, dsi, x, ds1, ri, q, fun F2 H2 r2 g2 => ?_⟩
      have gs2 := ri.grs g2
      cases x with
      | false =>
        cases hs
        exact iteF (k σi F2 H2 r2 (gi.trans gs2))
      | true =>
        refine iteT ⟨fun σ' H' => ∃ F' env2 ds2, Rel K B F' H' dl σ' env2 ds2 ∧ GrS B F H F' H' ∧ sWhileF t b m env2 ds2 = some (o, env', ds'), fun σ' H' ⟨F', env2, ds2, a1, a2, a3⟩ => ⟨m, Nat.lt_succ_self m, F', env2, ds2, a1, a2, a3⟩, ?_⟩
        simp only at hs
        cases hb : b envi ds1 with
        | none => rw [hb] at hs; cases hs
        | some z =>
          obtain ⟨o1, env2, ds2⟩ := z
          rw [hb] at hs
          refine ⟨B, F2, dl, envi, ds1, o1, env2, ds2, r2, hb, fun σ4 F4 H4 r4 g4 => ?_⟩
          have g5 := (gi.trans gs2).trans g4
          cases o1 with
          | nx => exact ⟨F4, env2, ds2, r4, g5, hs⟩
          | ct => exact ⟨F4, env2, ds2, r4, g5, hs⟩
          | bk => cases hs; exact k σ4 F4 H4 r4 g5
          | rt d => cases hs; exact k σ4 F4 H4 r4 g5
theorem ds_while {c : Expr} {body : List Stmt} (hp : PassesOwn (model X.prog X.w) X.A X.env X.xe) (hc : PT X c (RT X.K t)) (hb : PSs X body (RS X.K b)) : PS X (.While c body [] pos) (RS X.K (sWhile t b)) := ps_imp (ps_while hp hc hb) while_read
end
end DL

set_option Elab.async false
set_option linter.all false
set_option maxRecDepth 100000
set_option maxHeartbeats 2000000
/-! Dl6: defs, calls, built-ins by name -/
namespace DL
open PySem PySem.Spec PyProof.Rows L2

/-! ### a def's promise where no repr is under way -/
structure FnG (P : Program) (w : World) (K : PySem.W.Frag) (mg : Str → Option Value) (base : Heap) (CX : CXT) (k : Nat) (f : Addr) (fd : FuncData) (ps : List Str) (sp : Sp) : Prop where
  len : ∀ vs H Q E, sp vs H Q E → vs.length = ps.length
  run : ∀ (A : Around) (outer : List Env) (s : Shared) (H : Hp) (args : Args) (us : List Value) (vs : List V) (Q : VK) (E : XK), A.guards = some [] → Room k A →
    Env0 P w K mg base A outer s H → BindsTo s fd args (ps.zip us) → Vals vs us → sp vs H Q E → codeAny (model P w) A (.call (.ref f) args) (CR CX outer P w H s Q E) s
theorem FnG.mono {P : Program} {w : World} {K : PySem.W.Frag} {mg : Str → Option Value} {base : Heap} {CX : CXT} {j k : Nat} {f : Addr} {fd : FuncData} {ps : List Str} {sp : Sp} (F : FnG P w K mg base CX j f fd ps sp) (h : j ≤ k) : FnG P w K mg base CX k f fd ps sp :=
  ⟨F.len, fun A outer s H args us vs Q E hG hr => F.run A outer s H args us vs Q E hG (hr.mono h)⟩
theorem FnG.imp {P : Program} {w : World} {K : PySem.W.Frag} {mg : Str → Option Value} {base : Heap} {CX : CXT} {k : Nat} {f : Addr} {fd : FuncData} {ps : List Str} {sp sp' : Sp} (F : FnG P w K mg base CX k f fd ps sp)
    (h : ∀ vs H Q E, sp' vs H Q E → sp vs H Q E) : FnG P w K mg base CX k f fd ps sp' :=
  ⟨fun vs H Q E q => F.len vs H Q E (h vs H Q E q), fun A outer s H args us vs Q E hG hr he hb hv hs => F.run A outer s H args us vs Q E hG hr he hb hv (h vs H Q E hs)⟩
section
variable {P : Program} {w : World} {K : PySem.W.Frag} {mg : Str → Option Value} {base : Heap}
/-- a def of the text by its body, no repr being under way -/
theorem fun_okG {CX : CXT} {x qual : Str} {st : Stmt} {f : Addr} {fd : FuncData} {N ps : List Str} {k : Nat} {sp : Sp} (F : Fun K x qual st f fd) (S : FnScope N ps (defScope st)) (len : ∀ vs H Q E, sp vs H Q E → vs.length = ps.length)
    (hbody : ∀ (cdv : Value) (A : Around) (outer : List Env) (s : Shared) (H : Hp) (vs : List V) (Q : VK) (E : XK),
      A.guards = some [] → Room k (A.deeper (envOfC qual (defScope st) s.heap.objs.size f cdv)) → sp vs H Q E →
      ∃ t, PSs (cxOf CX P w K mg base N qual (defScope st) f cdv A outer s H E) (defBody st) t ∧ t { nx := fun _ H' => Q .non H', rt := Q } (L2.start N vs) H) :
    FnG P w K mg base CX (k + 1) f fd ps sp := by
  obtain ⟨oc, od, kV, doc, pm, an, cdv, ct, osl, rfl, lk, hcd⟩ := F.ex
  constructor
  · exact len
  · intro A outer s H args us vs Q E hG hr e0 hb r hsp
    have hlen := len vs H Q E hsp
    have inK : K.In s.heap := e0.mod.kin.keeps fun b o e => (e0.bs b o e).1
    have nolim : s.heap.NoLimit := e0.mod.nolimit.keeps fun b o e => (e0.bs b o e).1
    have cells : ∀ y ∈ ps.zip us, (defScope st).names.lookup y.1 = some .local ∨ ((defScope st).names.lookup y.1 = some .cell ∧ ((cellsFrom (s.heap.objs.size + 1) (defScope st).names []).lookup y.1).isSome = true) := by
      rintro ⟨n, v⟩ hy
      cases S.par n (List.of_mem_zip hy).1 with
      | inl q => exact .inl q
      | inr q => exact .inr ⟨q, PySem.W.cellsFrom_some _ _ _ (.inl q)⟩
    obtain ⟨t, ht, hq⟩ := hbody cdv A outer s H vs Q E hG (hr.deeper _) hsp
    apply codeAny_call_function hr.depth (inK _ _ lk) rfl S.co S.gen rfl (PySem.W.codeRec_of inK hcd)
    refine hb _ _ _ _ (wpAny_newFunctionEnv_cells S.kind cells fun env he s1 x => ?_)
    subst he
    refine ⟨nolim.keeps x.toInCall.keep, codeAny_func (wpAny_mono (ht.run [] s1 (L2.start N vs) H _ (inv_start S hr.hd e0 hlen r x) hq) (fun fl s' hs => ?_) fun _ _ hs => hs)⟩
    cases fl with
    | ret u =>
      obtain ⟨v, σ', H', J, rv, q⟩ := hs
      exact ⟨v, H', J.os, J.bare, J.base, J.hok, rv, q⟩
    | next =>
      obtain ⟨σ', H', J, q⟩ := hs
      exact ⟨.non, H', J.os, J.bare, J.base, J.hok, rfl, q⟩
    | brk => exact hs.elim fun _ h => h.elim fun _ h => h.2.elim
    | cont => exact hs.elim fun _ h => h.elim fun _ h => h.2.elim
end

theorem ne_none {H : Hp} {a : Addr} {o : HO} (h : H a = some o) : H a ≠ none := by
  rw [h]
  exact fun z => nomatch z
/-! ### promises over data -/
/-- a def that turns nothing: n data go in, f's comes out -/
def spD (K : PySem.W.Frag) (n : Nat) (f : List PyData → Option PyData) : Sp := fun vs H Q _ => ∃ F ds d, Same F H ∧ DvAll K F vs ds ∧ ds.length = n ∧ f ds = some d ∧ Gives K F H d Q
/-- the source of draws at p, q -/
def AtD (p q : Addr) (H : Hp) (c : List Int × Int) : Prop := H p = some (.lst [.ref q, .int c.2]) ∧ H q = some (.lst (c.1.map V.int))
/-- a def whose first argument is the source of draws -/
def spW (K : PySem.W.Frag) (n : Nat) (f : List PyData → DS → Option (PyData × DS)) : Sp := fun vs H Q _ => ∃ F p q c rest ds d c', vs = .ref p :: rest ∧ p ≠ q ∧ AtD p q H c ∧ F p = none ∧ F q = none ∧ Same F H ∧ DvAll K F rest ds ∧ ds.length + 1 = n ∧
  f ds (some c) = some (d, some c') ∧ ∀ v F' H', Gr (some (p, q)) F H F' H' → AtD p q H' c' → Dv K F' v d → Q v H'
def outOf : Option (Out × En × DS) → Option (PyData × DS)
  | some (.rt d, _, ds) => some (d, ds)
  | some (.nx, _, ds) => some (.none, ds)
  | _ => none
def envD (N : Nat) (ds : List PyData) : En := ds.map Slot.dat ++ List.replicate (N - ds.length) .emp
def runD (N : Nat) (m : SM) : List PyData → Option PyData := fun ds => (outOf (m (envD N ds) none)).map (·.1)
def envW (N : Nat) (ds : List PyData) : En := .deal :: (ds.map Slot.dat ++ List.replicate (N - (ds.length + 1)) .emp)
def runW (N : Nat) (m : SM) : List PyData → DS → Option (PyData × DS) := fun ds c => outOf (m (envW N ds) c)
theorem envD_get {N : Nat} {ds : List PyData} {i : Nat} {s : Slot} (h : (envD N ds)[i]? = some s) (hs : s ≠ .emp) : ∃ d, ds[i]? = some d ∧ s = .dat d := by
  unfold envD at h
  by_cases hi : i < (ds.map Slot.dat).length
  · rw [List.getElem?_append_left hi, List.getElem?_map] at h
    cases q : ds[i]? with
    | none => rw [q] at h; cases h
    | some d => rw [q] at h; cases h; exact ⟨d, rfl, rfl⟩
  · rw [List.getElem?_append_right (by omega)] at h
    have hm := List.mem_of_getElem? h
    exact absurd (List.eq_of_mem_replicate hm) hs
theorem start_get {N : List Str} {vs : List V} {i : Nat} {v : V} (h : vs[i]? = some v) : (L2.start N vs)[i]? = some (some v) := by
  unfold L2.start
  have hi : i < vs.length := (List.getElem?_eq_some_iff.mp h).1
  rw [List.getElem?_append_left (by simpa using hi), List.getElem?_map, h]
  rfl
theorem start_len {N : List Str} {vs : List V} (h : vs.length ≤ N.length) : (L2.start N vs).length = N.length := by
  unfold L2.start
  simp
  omega
theorem rel_startD {K : PySem.W.Frag} {F H : Hp} {N : List Str} {vs : List V} {ds : List PyData} (e : Same F H) (h : DvAll K F vs ds) (hl : ds.length ≤ N.length) : Rel K (fun a => H a ≠ none) F H none (L2.start N vs) (envD N.length ds) none := by
  have hlen := h.length
  refine ⟨e, fun _ q => q, ?_, fun i d q => ?_, fun i xs q => ?_, fun i j xs ys p _ q => ?_, .inl ⟨rfl, rfl⟩, fun i q => ?_⟩
  · rw [start_len (by omega)]
    simp [envD]
    omega
  · obtain ⟨d', q1, q2⟩ := envD_get q (fun z => nomatch z)
    cases q2
    obtain ⟨v, w1, w2⟩ := h.get q1
    exact ⟨v, start_get w1, w2⟩
  · obtain ⟨d', q1, q2⟩ := envD_get q (fun z => nomatch z)
    cases q2
  · obtain ⟨d', q1, q2⟩ := envD_get q (fun z => nomatch z)
    cases q2
  · obtain ⟨d', q1, q2⟩ := envD_get q (fun z => nomatch z)
    cases q2
theorem rel_startW {K : PySem.W.Frag} {F H : Hp} {N : List Str} {p q : Addr} {c : List Int × Int} {vs : List V} {ds : List PyData} (e : Same F H) (h : DvAll K F vs ds) (hl : ds.length + 1 ≤ N.length) (hpq : p ≠ q) (hat : AtD p q H c) (fp : F p = none) (fq : F q = none) :
    Rel K (fun a => H a ≠ none ∧ a ≠ p ∧ a ≠ q) F H (some (p, q)) (L2.start N (.ref p :: vs)) (envW N.length ds) (some c) := by
  have hlen := h.length
  have get : ∀ {i : Nat} {s : Slot}, (envW N.length ds)[i]? = some s → s ≠ .emp → (i = 0 ∧ s = .deal) ∨ ∃ j d, i = j + 1 ∧ ds[j]? = some d ∧ s = .dat d := fun {i s} h hs => by
    cases i with
    | zero => exact .inl ⟨rfl, (Option.some.inj h).symm⟩
    | succ j =>
      have h' : (envD (N.length - 1) ds)[j]? = some s := by
        have e : N.length - (ds.length + 1) = N.length - 1 - ds.length := by omega
        unfold envD
        rw [← e]
        exact h
      obtain ⟨d, q1, q2⟩ := envD_get h' hs
      exact .inr ⟨j, d, rfl, q1, q2⟩
  refine ⟨e, fun _ q => q.1, ?_, fun i d q => ?_, fun i xs q => ?_, fun i j xs ys p _ q => ?_, .inr ⟨p, q, c.1, c.2, rfl, rfl, hpq, hat.1, hat.2, fp, fq, fun z => z.2.1 rfl, fun z => z.2.2 rfl⟩, fun i w => ?_⟩
  · rw [start_len (by simp; omega)]
    simp [envW]
    omega
  · rcases get q (fun z => nomatch z) with ⟨_, z⟩ | ⟨j, d', rfl, q1, q2⟩
    · cases z
    · cases q2
      obtain ⟨v, w1, w2⟩ := h.get q1
      exact ⟨v, start_get w1, w2⟩
  · rcases get q (fun z => nomatch z) with ⟨_, z⟩ | ⟨j, d', rfl, q1, q2⟩
    · cases z
    · cases q2
  · rcases get q (fun z => nomatch z) with ⟨_, z⟩ | ⟨j, d', rfl, q1, q2⟩
    · cases z
    · cases q2
  · rcases get w (fun z => nomatch z) with ⟨rfl, z⟩ | ⟨j, d', rfl, q1, q2⟩
    · exact ⟨p, q, rfl, start_get rfl⟩
    · cases q2
section
variable {P : Program} {w : World} {K : PySem.W.Frag} {mg : Str → Option Value} {base : Heap}
theorem outOf_some {r : Option (Out × En × DS)} {d : PyData} {ds : DS} (h : outOf r = some (d, ds)) : ∃ env, r = some (.rt d, env, ds) ∨ (r = some (.nx, env, ds) ∧ d = .none) := by
  unfold outOf at h
  split at h
  · cases h; exact ⟨_, .inl rfl⟩
  · cases h; exact ⟨_, .inr ⟨rfl, rfl⟩⟩
  · cases h
/-- THE RULE for a def over data: its body's derivation -/
theorem fnD {x : Str} {st : Stmt} {f : Addr} {fd : FuncData} {N ps : List Str} {k : Nat} {m : SM} (F : Fun K x x st f fd) (S : FnScope N ps (defScope st)) (hl : ps.length ≤ N.length)
    (hbody : ∀ (cdv : Value) (A : Around) (outer : List Env) (s : Shared) (H : Hp) (E : XK), A.guards = some [] → Room k (A.deeper (envOfC x (defScope st) s.heap.objs.size f cdv)) →
      PSs (cxOf CX0 P w K mg base N x (defScope st) f cdv A outer s H E).nox (defBody st) (RS K m)) :
    FnG P w K mg base CX0 (k + 1) f fd ps (spD K ps.length (runD N.length m)) := by
  refine fun_okG F S (fun vs H Q E ⟨F0, ds, d, _, h, hn, _⟩ => h.length.trans hn) fun cdv A outer s H vs Q E hG hr hsp => ?_
  obtain ⟨F0, ds, d, e, h, hn, hf, g⟩ := hsp
  refine ⟨_, (hbody cdv A outer s H E hG hr).nox, ?_⟩
  unfold runD at hf
  cases q : outOf (m (envD N.length ds) none) with
  | none => rw [q] at hf; cases hf
  | some z =>
    obtain ⟨d', ds'⟩ := z
    rw [q] at hf
    cases hf
    obtain ⟨env', hq⟩ := outOf_some q
    have r0 := rel_startD (N := N) e h (by omega)
    have fin : ∀ {σ' : L2.St} {F' H' : Hp}, Rel K (fun a => H a ≠ none) F' H' none σ' env' ds' → GrS (fun a => H a ≠ none) F0 H F' H' → Gr none F0 H F' H' := fun {σ' F' H'} r gs =>
      ⟨gs.f, r.ex, fun a o w _ => gs.h a o (ne_none w) w, fun a o w => ⟨o, gs.h a o (ne_none w) w⟩, fun a o w n => gs.ap a (ne_none w) n⟩
    rcases hq with hq | ⟨hq, rfl⟩
    · exact ⟨_, F0, none, _, none, .rt _, env', ds', r0, hq, fun σ' F' H' r gs v dv => g v F' H' (fin r gs) dv⟩
    · exact ⟨_, F0, none, _, none, .nx, env', ds', r0, hq, fun σ' F' H' r gs => g .non F' H' (fin r gs) .non⟩
theorem fnW {x : Str} {st : Stmt} {f : Addr} {fd : FuncData} {N ps : List Str} {k : Nat} {m : SM} (F : Fun K x x st f fd) (S : FnScope N ps (defScope st)) (hl : ps.length ≤ N.length)
    (hbody : ∀ (cdv : Value) (A : Around) (outer : List Env) (s : Shared) (H : Hp) (E : XK), A.guards = some [] → Room k (A.deeper (envOfC x (defScope st) s.heap.objs.size f cdv)) →
      PSs (cxOf CX0 P w K mg base N x (defScope st) f cdv A outer s H E).nox (defBody st) (RS K m)) :
    FnG P w K mg base CX0 (k + 1) f fd ps (spW K ps.length (runW N.length m)) := by
  refine fun_okG F S (fun vs H Q E ⟨F0, p, q, c, rest, ds, d, c', e0, _, _, _, _, _, h, hn, _⟩ => by rw [e0, List.length_cons, h.length]; exact hn) fun cdv A outer s H vs Q E hG hr hsp => ?_
  obtain ⟨F0, p, q, c, rest, ds, d, c', rfl, hpq, hat, fp, fq, e, h, hn, hf, g⟩ := hsp
  refine ⟨_, (hbody cdv A outer s H E hG hr).nox, ?_⟩
  obtain ⟨env', hq⟩ := outOf_some hf
  have r0 := rel_startW (N := N) e h (by omega) hpq hat fp fq
  have fin : ∀ {σ' : L2.St} {F' H' : Hp}, Rel K (fun a => H a ≠ none ∧ a ≠ p ∧ a ≠ q) F' H' (some (p, q)) σ' env' (some c') → GrS (fun a => H a ≠ none ∧ a ≠ p ∧ a ≠ q) F0 H F' H' → Gr (some (p, q)) F0 H F' H' ∧ AtD p q H' c' := fun {σ' F' H'} r gs => by
    rcases r.dea with ⟨z, _⟩ | ⟨p', q', cells, blend, z1, z2, z3, z4, z5, z6, z7, z8, z9⟩
    · cases z
    · cases z1
      cases z2
      have kp : ∀ a o, H a = some o → ¬ InD (some (p, q)) a → H a ≠ none ∧ a ≠ p ∧ a ≠ q := fun a o w n => ⟨ne_none w, fun z => n (.inl z), fun z => n (.inr z)⟩
      refine ⟨⟨gs.f, r.ex, fun a o w n => gs.h a o (kp a o w n) w, fun a o w => ?_, fun a o w n => ?_⟩, z4, z5⟩
      · by_cases e1 : a = p
        · exact ⟨_, e1 ▸ z4⟩
        · by_cases e2 : a = q
          · exact ⟨_, e2 ▸ z5⟩
          · exact ⟨o, gs.h a o ⟨ne_none w, e1, e2⟩ w⟩
      · by_cases e1 : a = p
        · rw [e1]; exact z6
        · by_cases e2 : a = q
          · rw [e2]; exact z7
          · exact gs.ap a ⟨ne_none w, e1, e2⟩ n
  rcases hq with hq | ⟨hq, rfl⟩
  · exact ⟨_, F0, some (p, q), _, some c, .rt d, env', some c', r0, hq, fun σ' F' H' r gs v dv => g v F' H' (fin r gs).1 (fin r gs).2 dv⟩
  · exact ⟨_, F0, some (p, q), _, some c, .nx, env', some c', r0, hq, fun σ' F' H' r gs => g .non F' H' (fin r gs).1 (fin r gs).2 .non⟩
end

/-! ### a def as a caller knows it -/
structure Cal (P : Program) (w : World) (K : PySem.W.Frag) (mg : Str → Option Value) (base : Heap) (x : Str) (st : Stmt) (k : Nat) (ps : List Str) (sp : Sp) : Prop where
  ex : ∃ (f : Addr) (kV doc pm : Value) (an : Option Addr) (cdv ct : Value), mg x = some (.ref f) ∧ PySem.W.keepIn K (.ref f) = true ∧
    FnG P w K mg base CX0 k f (PySem.W.fnOf x x (defArgs st) (defBody st) (defScope st) .none kV doc pm an cdv ct) ps sp
theorem Cal.of {P : Program} {w : World} {K : PySem.W.Frag} {mg : Str → Option Value} {base : Heap} {x : Str} {st : Stmt} {k : Nat} {ps : List Str} {sp : Sp} {f : Addr} {fd : FuncData} (F : Fun K x x st f fd) (hm : mg x = some (.ref f)) (h : FnG P w K mg base CX0 k f fd ps sp) : Cal P w K mg base x st k ps sp := by
  obtain ⟨oc, od, kV, doc, pm, an, cdv, ct, osl, rfl, lk, hcd⟩ := F.ex
  exact ⟨f, kV, doc, pm, an, cdv, ct, hm, F.kp, h⟩
/-- the arguments in the parameters' order: ix tells for each parameter the place among the written ones -/
def perm {α : Type} (ix : List Nat) (xs : List α) : List α := ix.filterMap (xs[·]?)
theorem vals_perm {vs : List V} {us : List Value} (r : Vals vs us) : ∀ ix : List Nat, Vals (perm ix vs) (perm ix us)
  | [] => .nil
  | i :: ix => by
    unfold perm
    cases q : vs[i]? with
    | none =>
      have q2 := Vals.none_of r q
      rw [List.filterMap_cons, List.filterMap_cons, q, q2]
      exact vals_perm r ix
    | some v =>
      obtain ⟨u, q2, rv⟩ := r.get q
      rw [List.filterMap_cons, List.filterMap_cons, q, q2]
      exact .cons rv (vals_perm r ix)
theorem dvAll_perm {K : PySem.W.Frag} {F : Hp} {vs : List V} {ds : List PyData} (h : DvAll K F vs ds) : ∀ ix : List Nat, DvAll K F (perm ix vs) (perm ix ds)
  | [] => .nil
  | i :: ix => by
    unfold perm
    cases q : ds[i]? with
    | none =>
      have q2 : vs[i]? = none := by
        rw [List.getElem?_eq_none_iff] at q ⊢
        rw [h.length]
        exact q
      rw [List.filterMap_cons, List.filterMap_cons, q, q2]
      exact dvAll_perm h ix
    | some d =>
      obtain ⟨v, q2, dv⟩ := h.get q
      rw [List.filterMap_cons, List.filterMap_cons, q, q2]
      exact .cons dv (dvAll_perm h ix)
/-- how the written arguments bind: n by position, the others by the names ks -/
def BindsK (x : Str) (st : Stmt) (ps : List Str) (n : Nat) (ks : List Str) (ix : List Nat) : Prop := ∀ (kV doc pm : Value) (an : Option Addr) (cdv ct : Value) (us ws : List Value), us.length = n → ws.length = ks.length →
  bindArgs (PySem.W.fnOf x x (defArgs st) (defBody st) (defScope st) .none kV doc pm an cdv ct) ⟨us, ks.zip ws⟩ = pure (ps.zip (perm ix (us ++ ws)))
section
variable {X : Cx} {x : Str} {st : Stmt} {k j n : Nat} {ps ks : List Str} {ix : List Nat} {sp : Sp} {e : Expr} {es : List Expr} {kws : List Keyword} {p pos : Pos} {t tk : TA}
theorem run_cal {pins : List (Addr × Obj)} {σ : L2.St} {H : Hp} {s : Shared} {Q : VK} {us ws : List Value} {vs zs : List V} {f : Addr} {kV doc pm : Value} {an : Option Addr} {cdv ct : Value}
    (F : FnG X.prog X.w X.K X.mg X.base CX0 k f (PySem.W.fnOf x x (defArgs st) (defBody st) (defScope st) .none kV doc pm an cdv ct) ps sp) (hG : X.A.guards = some []) (hr : Room k X.A) (hb : BindsK x st ps n ks ix)
    (I : Inv X pins σ H s) (r : Vals vs us) (rz : Vals zs ws) (l1 : us.length = n) (l2 : ws.length = ks.length) (h : sp (perm ix (vs ++ zs)) H Q E0) : wpAny (model X.prog X.w) X.A (call (.ref f) us (ks.zip ws)) (EP X pins σ Q) X.xe s := by
  refine wpAny_call (codeAny_mono (F.run X.A X.stack s H ⟨us, ks.zip ws⟩ _ _ Q E0 hG hr I.env0 (.of_eq (hb kV doc pm an cdv ct us ws l1 l2)) (vals_perm (r.append rz) ix) h) fun r s' hq => ?_)
  cases r with
  | error e => exact hq.elim
  | ok fl =>
    cases fl with
    | ret u => exact I.after hq
    | _ => exact hq.elim
/-- what a call's arguments come to -/
def tCallP (n m : Nat) (ix : List Nat) (sp : Sp) (t tk : TA) : TE := fun σ H Q => t σ H fun vs H1 => tk σ H1 fun zs H2 => vs.length = n ∧ zs.length = m ∧ sp (perm ix (vs ++ zs)) H2 Q E0
theorem pe_cal (c : Cal X.prog X.w X.K X.mg X.base x st j ps sp) (hG : X.A.guards = some []) (hr : Room k X.A) (hj : j ≤ k) (hg : Gl X x) (hb : BindsK x st ps n ks ix) (ha : PA X (e :: es) t) (hkw : PK X kws tk)
    (hall : (backToKw pos (keywordEach kws X.env)).all (·.1.isSome) = true := by rfl) (hks : (backToKw pos (keywordEach kws X.env)).filterMap (·.1) = ks := by rfl)
    (hdb : (x == ("__debug__" : Str)) = false := by decide) (he : starEach (e :: es) X.env = (false, eval e X.env) :: starEach es X.env := by rfl)
    (hpl : ((backTo pos (starEach (e :: es) X.env)).any (·.1) || (backToKw pos (keywordEach kws X.env)).any (·.1.isNone)) = false := by rfl) :
    PE X (.Call (.Name x p) (e :: es) kws pos) (tCallP n ks.length ix sp t tk) := by
  obtain ⟨f, kV, doc, pm, an, cdv, ct, hm, hk, F⟩ := c.ex
  constructor
  intro pins s σ H Q I h
  apply wpAny_Call_Name_kw
  refine ld_glob I hg hm (PySem.W.callWith_KW I.ok.mod.kin hk hall (thn (ha.run pos pins s σ H _ I h) ?_) hpl he) hdb
  rintro us s1 ⟨vs, H1, I1, r, q⟩
  refine thn (hkw.run pos pins s1 σ H1 _ I1 q) ?_
  rintro ws s2 ⟨zs, H2, I2, rz, l1, l2, q2⟩
  refine ⟨I2.kIn, ?_⟩
  rw [hks]
  exact run_cal F hG (hr.mono hj) hb I2 r rz (r.length.symm.trans l1) (rz.length.symm.trans l2) q2
theorem pe_cal0 (c : Cal X.prog X.w X.K X.mg X.base x st j ps sp) (hG : X.A.guards = some []) (hr : Room k X.A) (hj : j ≤ k) (hg : Gl X x) (hb : BindsK x st ps 0 ks ix) (hkw : PK X kws tk)
    (hall : (backToKw pos (keywordEach kws X.env)).all (·.1.isSome) = true := by rfl) (hks : (backToKw pos (keywordEach kws X.env)).filterMap (·.1) = ks := by rfl)
    (hdb : (x == ("__debug__" : Str)) = false := by decide)
    (hpl : ((backTo pos (starEach [] X.env)).any (·.1) || (backToKw pos (keywordEach kws X.env)).any (·.1.isNone)) = false := by rfl) :
    PE X (.Call (.Name x p) [] kws pos) (tCallP 0 ks.length ix sp tNil tk) := by
  obtain ⟨f, kV, doc, pm, an, cdv, ct, hm, hk, F⟩ := c.ex
  constructor
  intro pins s σ H Q I h
  apply wpAny_Call_Name_kw
  refine ld_glob I hg hm (PySem.W.callWith_KW0 I.ok.mod.kin hk hall (thn (hkw.run pos pins s σ H _ I h) ?_) hpl) hdb
  rintro ws s2 ⟨zs, H2, I2, rz, l1, l2, q2⟩
  refine ⟨I2.kIn, ?_⟩
  rw [hks]
  exact run_cal (us := []) (vs := []) F hG (hr.mono hj) hb I2 .nil rz rfl (rz.length.symm.trans l2) q2

/-! ### calls over data -/
theorem pk_imp {t t' : TA} (h : PK X kws t) (k : ∀ σ H Q, t' σ H Q → t σ H Q) : PK X kws t' := ⟨fun pos pins s σ H Q I q => h.run pos pins s σ H Q I (k σ H Q q)⟩
variable {ms mk : List (M PyData)} {m : M PyData}
theorem dk_nil : PK X [] (RAs X.K []) := pk_imp pk_nil fun σ H Q ⟨B, F, dl, env, ds, xs, ds', rel, hm, k⟩ => by
  obtain ⟨rfl, rfl⟩ := mr_some hm
  exact k [] F H rel (Gr.refl rel.ex) .nil
theorem dk_cons {nm : Option Str} {kpos : Pos} (h : PE X e (RE X.K m)) (hr : PK X kws (RAs X.K mk)) : PK X (⟨nm, e, kpos⟩ :: kws) (RAs X.K (m :: mk)) :=
  pk_imp (pk_cons h hr) fun σ H Q ⟨B, F, dl, env, ds, xs, ds', rel, hm, k⟩ => by
    obtain ⟨x, ds1, h1, h2⟩ := mb_some hm
    obtain ⟨ys, ds2, h3, h4⟩ := mb_some h2
    obtain ⟨rfl, rfl⟩ := mr_some h4
    exact ⟨B, F, dl, env, ds, x, ds1, rel, h1, fun v F1 H1 r1 g1 d1 => ⟨B, F1, dl, env, ds1, ys, _, r1, h3, fun vs F2 H2 r2 g2 d2 => k (v :: vs) F2 H2 r2 (g1.trans g2) (.cons (dv_mono g2.f x v d1) d2)⟩⟩
/-- f(..), f turns nothing -/
def eCall (f : List PyData → Option PyData) (ix : List Nat) (ms mk : List (M PyData)) : M PyData := mb (mseq ms) fun xs => mb (mseq mk) fun ys => mo (f (perm ix (xs ++ ys)))
theorem call_read {K : PySem.W.Frag} {f : List PyData → Option PyData} (hn : (ix.length = ps.length) ) (hix : ∀ i ∈ ix, i < ms.length + mk.length) : ∀ σ H Q, RE K (eCall f ix ms mk) σ H Q → tCallP ms.length mk.length ix (spD K ps.length f) (RAs K ms) (RAs K mk) σ H Q := fun σ H Q ⟨B, F, dl, env, ds, z, ds', rel, hm, k⟩ => by
  obtain ⟨xs, ds1, h1, h2⟩ := mb_some hm
  obtain ⟨ys, ds2, h3, h4⟩ := mb_some h2
  obtain ⟨h5, rfl⟩ := mo_some h4
  refine ⟨B, F, dl, env, ds, xs, ds1, rel, h1, fun vs F1 H1 r1 g1 d1 => ⟨B, F1, dl, env, ds1, ys, _, r1, h3, fun zs F2 H2 r2 g2 d2 => ?_⟩⟩
  have l1 := mseq_len h1
  have l2 := mseq_len h3
  have da : DvAll K F2 (vs ++ zs) (xs ++ ys) := (dvAll_mono g2.f xs vs d1).append d2
  refine ⟨d1.length.trans l1, d2.length.trans l2, F2, _, z, r2.ex, dvAll_perm da ix, ?_, h5, fun v F' H' g3 d3 => k v F' H' (r2.grow g3) ((g1.trans g2).trans g3.weak) d3⟩
  rw [← hn]
  have len : ∀ l : List Nat, (∀ i ∈ l, i < (xs ++ ys).length) → (perm l (xs ++ ys)).length = l.length := fun l => by
    induction l with
    | nil => intro _; rfl
    | cons i l ih =>
      intro hl
      unfold perm
      rw [List.filterMap_cons, List.getElem?_eq_getElem (hl i List.mem_cons_self)]
      show (perm l (xs ++ ys)).length + 1 = l.length + 1
      rw [ih fun i hi => hl i (List.mem_cons_of_mem _ hi)]
  exact len ix fun i hi => by
    rw [List.length_append, l1, l2]
    exact hix i hi
theorem dx_call {f : List PyData → Option PyData} (h : PE X e (tCallP ms.length mk.length ix (spD X.K ps.length f) (RAs X.K ms) (RAs X.K mk))) (hn : ix.length = ps.length := by rfl) (hix : ∀ i ∈ ix, i < ms.length + mk.length := by decide) : PE X e (RE X.K (eCall f ix ms mk)) := pe_imp h (call_read hn hix)
/-- f(the source, ..) -/
def eCallW (f : List PyData → DS → Option (PyData × DS)) (i : Nat) (ms : List (M PyData)) : M PyData := fun env ds => match env[i]? with
  | some .deal => match mseq ms env ds with
    | some (xs, some c) => match f xs (some c) with
      | some (d, some c') => some (d, some c')
      | _ => none
    | _ => none
  | _ => none
theorem perm_id {α : Type} (a : α) (xs : List α) (n : Nat) (h : n = xs.length + 1) : perm (List.range n) (a :: xs) = a :: xs := by
  have gen : ∀ (l : List α), perm (List.range l.length) l = l := fun l => by
    have e : ∀ (pre : List α) (l : List α), (List.range' pre.length l.length).filterMap ((pre ++ l)[·]?) = l := fun pre l => by
      induction l generalizing pre with
      | nil => rfl
      | cons x l ih =>
        rw [List.length_cons, List.range'_succ, List.filterMap_cons]
        have e0 : (pre ++ x :: l)[pre.length]? = some x := by simp
        rw [e0]
        have e1 := ih (pre ++ [x])
        rw [List.length_append, List.length_singleton, List.append_assoc, List.singleton_append] at e1
        simp only
        rw [e1]
    have := e [] l
    unfold perm
    rw [List.range_eq_range']
    exact this
  subst h
  exact gen (a :: xs)
theorem callW_read {K : PySem.W.Frag} {f : List PyData → DS → Option (PyData × DS)} {i : Nat} (hn : ms.length + 1 = ps.length) : ∀ σ H Q, RE K (eCallW f i ms) σ H Q → tCallP (ms.length + 1) 0 (List.range (ms.length + 1)) (spW K ps.length f) (tCons (tVar i) (RAs K ms)) tNil σ H Q := fun σ H Q ⟨B, F, dl, env, ds, z, ds', rel, hm, k⟩ => by
  unfold eCallW at hm
  cases he : env[i]? with
  | none => rw [he] at hm; cases hm
  | some s =>
    rw [he] at hm
    cases s with
    | deal =>
      simp only at hm
      obtain ⟨p, q, rfl, hs⟩ := rel.dsl i he
      cases h1 : mseq ms env ds with
      | none => rw [h1] at hm; cases hm
      | some w =>
        obtain ⟨xs, ds1⟩ := w
        rw [h1] at hm
        cases ds1 with
        | none => cases hm
        | some c =>
          simp only at hm
          cases h2 : f xs (some c) with
          | none => rw [h2] at hm; cases hm
          | some w =>
            obtain ⟨d, ds2⟩ := w
            rw [h2] at hm
            cases ds2 with
            | none => cases hm
            | some c' =>
              cases hm
              refine ⟨.ref p, hs, B, F, some (p, q), env, ds, xs, some c, rel, h1, fun vs F1 H1 r1 g1 d1 => ?_⟩
              have l1 := mseq_len h1
              have lv := d1.length
              refine ⟨by rw [List.length_cons]; omega, rfl, ?_⟩
              rw [List.append_nil, perm_id _ _ _ (by omega)]
              rcases r1.dea with ⟨z, _⟩ | ⟨p', q', cells, blend, z1, z2, z3, z4, z5, z6, z7, z8, z9⟩
              · cases z
              · cases z1
                cases z2
                refine ⟨F1, p, q, (cells, blend), vs, xs, _, c', rfl, z3, ⟨z4, z5⟩, z6, z7, r1.ex, d1, by omega, h2, fun v F' H' g3 at3 d3 => ?_⟩
                refine k v F' H' ⟨g3.ex, fun a hB => ?_, r1.len, fun j d e => ?_, fun j ys e => ?_, r1.dist, .inr ⟨p, q, c'.1, c'.2, rfl, rfl, z3, at3.1, at3.2, g3.ap _ _ z4 z6, g3.ap _ _ z5 z7, z8, z9⟩, r1.dsl⟩ (g1.trans g3) d3
                · cases w : H1 a with
                  | none => exact absurd w (r1.bh a hB)
                  | some o =>
                    obtain ⟨o', e⟩ := g3.dom a o w
                    rw [e]
                    exact fun z => nomatch z
                · obtain ⟨u, w1, w2⟩ := r1.dat j d e
                  exact ⟨u, w1, dv_mono g3.f d u w2⟩
                · obtain ⟨a, us, w1, w2, w3, w4, w5, w6⟩ := r1.mt j ys e
                  exact ⟨a, us, w1, g3.h _ _ w2 w5, g3.ap _ _ w2 w3, w4, w5, dvAll_mono g3.f ys us w6⟩
    | _ => cases hm
theorem dx_callW {f : List PyData → DS → Option (PyData × DS)} {i : Nat} (h : PE X e (tCallP (ms.length + 1) 0 (List.range (ms.length + 1)) (spW X.K ps.length f) (tCons (tVar i) (RAs X.K ms)) tNil)) (hn : ms.length + 1 = ps.length := by rfl) : PE X e (RE X.K (eCallW f i ms)) := pe_imp h (callW_read hn)
end
end DL

set_option Elab.async false
set_option linter.all false
set_option maxRecDepth 100000
set_option maxHeartbeats 2000000
/-! Dl7: built-ins by name, methods -/
namespace DL
open PySem PySem.Spec PyProof.Rows L2

def GivesN (K : PySem.W.Frag) (F H : Hp) (zs : List PyData) (Q : VK) : Prop := ∀ p vs F' H', Gr none F H F' H' → H p = none → F' p = none → H' p = some (.lst vs) → DvAll K F' vs zs → Q (.ref p) H'
theorem GivesN.new {K : PySem.W.Frag} {F H : Hp} {zs : List PyData} {Q : VK} {p : Addr} {vs : List V} (g : GivesN K F H zs Q) (e : Same F H) (hp : H p = none) (h : DvAll K F vs zs) : Q (.ref p) (upd H p (.lst vs)) :=
  g p vs F _ (Gr.tmp e hp) hp (e.free hp) upd_same h
def OBN (K : PySem.W.Frag) (r : List V → Hp → VK → Prop) (f : List PyData → Option (List PyData)) : Prop := ∀ dl F H vs ds zs, Same F H → BpAll K dl F H vs ds → f ds = some zs → ∀ Q : VK, GivesN K F H zs Q → r vs H Q
def eAN (f : List PyData → Option (List PyData)) (ms : List (M PyData)) : M (List PyData) := mb (mseq ms) fun xs => mo (f xs)
section
variable {X : Cx} {x : Str} {e a b : Expr} {es : List Expr} {p pos p2 : Pos} {id T : String} {r : List V → Hp → VK → Prop} {ms : List (M PyData)} {m m1 m2 : M PyData}
theorem callB_read {K : PySem.W.Frag} {f : List PyData → Option PyData} (o : OB K r f) : ∀ σ H Q, RE K (eA f ms) σ H Q → tCB r (RAB K ms) σ H Q := fun σ H Q ⟨B, F, dl, env, ds, z, ds', rel, hm, k⟩ => by
  obtain ⟨xs, ds1, h1, h2⟩ := mb_some hm
  obtain ⟨h3, rfl⟩ := mo_some h2
  exact ⟨B, F, dl, env, ds, xs, _, rel, h1, fun vs F1 H1 r1 g1 b1 => o dl F1 H1 vs xs z r1.ex b1 h3 Q fun v F' H' g2 d2 => k v F' H' (r1.grow g2) (g1.trans g2.weak) d2⟩
theorem callBN_read {K : PySem.W.Frag} {f : List PyData → Option (List PyData)} (o : OBN K r f) : ∀ σ H Q, RN K (eAN f ms) σ H Q → tCB r (RAB K ms) σ H Q := fun σ H Q ⟨B, F, dl, env, ds, zs, ds', rel, hm, k⟩ => by
  obtain ⟨xs, ds1, h1, h2⟩ := mb_some hm
  obtain ⟨h3, rfl⟩ := mo_some h2
  refine ⟨B, F, dl, env, ds, xs, _, rel, h1, fun vs F1 H1 r1 g1 b1 => o dl F1 H1 vs xs zs r1.ex b1 h3 Q fun q ws F' H' g2 hq fq hq' d2 => ?_⟩
  refine k q ws F' H' (r1.grow g2) (g1.trans g2.weak) ?_ fq hq' d2
  cases w : H q with
  | none => rfl
  | some o =>
    obtain ⟨o', e⟩ := g1.dom q o w
    rw [hq] at e
    cases e
theorem dx_callB {f : List PyData → Option PyData} (hc : CallR X (.builtin id) r) (o : OB X.K r f) (hg : Gl X x) (hm : X.mg x = none) (hv : bootBuiltins x = some (.builtin id)) (ha : PA X (e :: es) (RAB X.K ms)) (hn : x ≠ "__name__" := by decide) (hdb : (x == ("__debug__" : Str)) = false := by decide)
    (he : starEach (e :: es) X.env = (false, eval e X.env) :: starEach es X.env := by rfl) (hpl : (backTo pos (starEach es X.env)).any (·.1) = false := by rfl) : PE X (.Call (.Name x p) (e :: es) [] pos) (RE X.K (eA f ms)) := pe_imp (pe_callB hc hg hm hv ha hn hdb he hpl) (callB_read o)
theorem dx_callTy {f : List PyData → Option PyData} (hc : CallR X (.type T) r) (o : OB X.K r f) (hg : Gl X x) (hm : X.mg x = none) (hv : bootBuiltins x = some (.type T)) (ha : PA X (e :: es) (RAB X.K ms)) (hn : x ≠ "__name__" := by decide) (hdb : (x == ("__debug__" : Str)) = false := by decide)
    (he : starEach (e :: es) X.env = (false, eval e X.env) :: starEach es X.env := by rfl) (hpl : (backTo pos (starEach es X.env)).any (·.1) = false := by rfl) : PE X (.Call (.Name x p) (e :: es) [] pos) (RE X.K (eA f ms)) := pe_imp (pe_callTy hc hg hm hv ha hn hdb he hpl) (callB_read o)
theorem dn_callB {f : List PyData → Option (List PyData)} (hc : CallR X (.builtin id) r) (o : OBN X.K r f) (hg : Gl X x) (hm : X.mg x = none) (hv : bootBuiltins x = some (.builtin id)) (ha : PA X (e :: es) (RAB X.K ms)) (hn : x ≠ "__name__" := by decide) (hdb : (x == ("__debug__" : Str)) = false := by decide)
    (he : starEach (e :: es) X.env = (false, eval e X.env) :: starEach es X.env := by rfl) (hpl : (backTo pos (starEach es X.env)).any (·.1) = false := by rfl) : PE X (.Call (.Name x p) (e :: es) [] pos) (RN X.K (eAN f ms)) := pe_imp (pe_callB hc hg hm hv ha hn hdb he hpl) (callBN_read o)
theorem dn_callTy {f : List PyData → Option (List PyData)} (hc : CallR X (.type T) r) (o : OBN X.K r f) (hg : Gl X x) (hm : X.mg x = none) (hv : bootBuiltins x = some (.type T)) (ha : PA X (e :: es) (RAB X.K ms)) (hn : x ≠ "__name__" := by decide) (hdb : (x == ("__debug__" : Str)) = false := by decide)
    (he : starEach (e :: es) X.env = (false, eval e X.env) :: starEach es X.env := by rfl) (hpl : (backTo pos (starEach es X.env)).any (·.1) = false := by rfl) : PE X (.Call (.Name x p) (e :: es) [] pos) (RN X.K (eAN f ms)) := pe_imp (pe_callTy hc hg hm hv ha hn hdb he hpl) (callBN_read o)

/-! ### len, tuple, list, int, str, abs, min, max, sum, all, any -/
def fLen : List PyData → Option PyData
  | [.list xs] => some (.int xs.length)
  | [.tuple xs] => some (.int xs.length)
  | [.str z] => fit z.length (.int z.length)
  | _ => none
theorem one_of {ds : List PyData} {z : PyData} {f : List PyData → Option PyData} (h : f ds = some z) (hn : ∀ ds, ds.length ≠ 1 → f ds = none) : ∃ d, ds = [d] := by
  match ds, h with
  | [], h => rw [hn [] (by decide)] at h; cases h
  | [d], _ => exact ⟨d, rfl⟩
  | a :: b :: l, h => rw [hn _ (by simp)] at h; cases h
theorem o_len {K : PySem.W.Frag} : OB K (fun xs H Q => ∃ x n, xs = [x] ∧ LenV K x H n ∧ Q (.int n) H) fLen := by
  intro dl F H vs ds z se hb hf Q g
  unfold fLen at hf
  split at hf
  · cases hf
    obtain ⟨v, rfl, bv⟩ := bp1 hb
    obtain ⟨q, ws, rfl, a1, a2⟩ := bv.list se
    exact ⟨_, _, rfl, .inl ⟨ws, SqL.of a1, rfl⟩, by rw [a2.length]; exact g.val se (.int _)⟩
  · cases hf
    obtain ⟨v, rfl, bv⟩ := bp1 hb
    obtain ⟨q, ws, rfl, a1, a2⟩ := bv.tuple se
    exact ⟨_, _, rfl, .inr ⟨ws, seqT_mono se a1, rfl⟩, by rw [a2.length]; exact g.val se (.int _)⟩
  · obtain ⟨h1, rfl⟩ := fit_some hf
    obtain ⟨v, rfl, bv⟩ := bp1 hb
    obtain rfl := bv.str
    exact ⟨_, _, rfl, ⟨h1, rfl⟩, g.val se (.int _)⟩
  · cases hf
def fTuple : List PyData → Option PyData
  | [.list xs] => some (.tuple xs)
  | [.tuple xs] => some (.tuple xs)
  | _ => none
def rTupleOf (K : PySem.W.Frag) : List V → Hp → VK → Prop := fun xs H Q => ∃ p ys, xs = [.ref p] ∧ ((SqL K H p ys ∧ ∀ l, H l = none → Q (.ref l) (upd H l (.tup ys))) ∨ (SqT K H p ys ∧ Q (.ref p) H))
theorem o_tuple {K : PySem.W.Frag} : OB K (rTupleOf K) fTuple := by
  intro dl F H vs ds z se hb hf Q g
  unfold fTuple at hf
  split at hf
  · cases hf
    obtain ⟨v, rfl, bv⟩ := bp1 hb
    obtain ⟨q, ws, rfl, a1, a2⟩ := bv.list se
    exact ⟨q, ws, rfl, .inl ⟨SqL.of a1, fun l hl => g.newT se hl a2⟩⟩
  · cases hf
    obtain ⟨v, rfl, bv⟩ := bp1 hb
    obtain ⟨q, ws, rfl, a1, a2⟩ := bv.tuple se
    exact ⟨q, ws, rfl, .inr ⟨seqT_mono se a1, g.val se (.tup a1 a2)⟩⟩
  · cases hf
def fList : List PyData → Option (List PyData)
  | [.list xs] => some xs
  | [.tuple xs] => some xs
  | _ => none
def rListOf (K : PySem.W.Frag) : List V → Hp → VK → Prop := fun xs H Q => ∃ p ys, xs = [.ref p] ∧ (SqL K H p ys ∨ SqT K H p ys) ∧ ∀ l, H l = none → Q (.ref l) (upd H l (.lst ys))
theorem o_list {K : PySem.W.Frag} : OBN K (rListOf K) fList := by
  intro dl F H vs ds z se hb hf Q g
  unfold fList at hf
  split at hf
  · cases hf
    obtain ⟨v, rfl, bv⟩ := bp1 hb
    obtain ⟨q, ws, rfl, a1, a2⟩ := bv.list se
    exact ⟨q, ws, rfl, .inl (SqL.of a1), fun l hl => g.new se hl a2⟩
  · cases hf
    obtain ⟨v, rfl, bv⟩ := bp1 hb
    obtain ⟨q, ws, rfl, a1, a2⟩ := bv.tuple se
    exact ⟨q, ws, rfl, .inr (seqT_mono se a1), fun l hl => g.new se hl a2⟩
  · cases hf
def fInt : List PyData → Option PyData
  | [.int i] => some (.int i)
  | [.bool b] => some (.int (if b then 1 else 0))
  | _ => none
theorem o_intOf {K : PySem.W.Frag} : OB K (fun xs H Q => (∃ i, xs = [.int i] ∧ Q (.int i) H) ∨ ∃ k, xs = [.bl k] ∧ Q (.int (if k then 1 else 0)) H) fInt := by
  intro dl F H vs ds z se hb hf Q g
  unfold fInt at hf
  split at hf
  · cases hf
    obtain ⟨v, rfl, bv⟩ := bp1 hb
    obtain rfl := bv.int
    exact .inl ⟨_, rfl, g.val se (.int _)⟩
  · cases hf
    obtain ⟨v, rfl, bv⟩ := bp1 hb
    obtain rfl := bv.bool
    exact .inr ⟨_, rfl, g.val se (.int _)⟩
  · cases hf
def fBool : List PyData → Option PyData
  | [.int i] => some (.bool (i != 0))
  | [.bool b] => some (.bool b)
  | _ => none
theorem o_boolOf {K : PySem.W.Frag} : OB K (fun xs H Q => (∃ i, xs = [.int i] ∧ Q (.bl (i != 0)) H) ∨ ∃ k, xs = [.bl k] ∧ Q (.bl k) H) fBool := by
  intro dl F H vs ds z se hb hf Q g
  unfold fBool at hf
  split at hf
  · cases hf
    obtain ⟨v, rfl, bv⟩ := bp1 hb
    obtain rfl := bv.int
    exact .inl ⟨_, rfl, g.val se (.bl _)⟩
  · cases hf
    obtain ⟨v, rfl, bv⟩ := bp1 hb
    obtain rfl := bv.bool
    exact .inr ⟨_, rfl, g.val se (.bl _)⟩
  · cases hf
def fStr : List PyData → Option PyData
  | [.int i] => if i.natAbs.log2 < 1920 then some (.str (toString i)) else none
  | [.str z] => some (.str z)
  | _ => none
def rStrOf : List V → Hp → VK → Prop := fun xs H Q => (∃ i : Int, xs = [.int i] ∧ i.natAbs.log2 < 1920 ∧ Q (.str (toString i)) H) ∨ ∃ a, xs = [.str a] ∧ Q (.str a) H
theorem call_strOf : CallR X (.type "str") rStrOf := by
  intro pins s σ H xs us Q I r h
  rcases h with h | h
  · exact call_str_int pins s σ H xs us Q I r h
  · exact SkE.call_str_str pins s σ H xs us Q I r h
theorem o_strOf {K : PySem.W.Frag} : OB K rStrOf fStr := by
  intro dl F H vs ds z se hb hf Q g
  unfold fStr at hf
  split at hf
  · split at hf
    · rename_i hz
      cases hf
      obtain ⟨v, rfl, bv⟩ := bp1 hb
      obtain rfl := bv.int
      exact .inl ⟨_, rfl, hz, g.val se (.str _)⟩
    · cases hf
  · cases hf
    obtain ⟨v, rfl, bv⟩ := bp1 hb
    obtain rfl := bv.str
    exact .inr ⟨_, rfl, g.val se (.str _)⟩
  · cases hf
def fAbs : List PyData → Option PyData
  | [.int i] => some (.int (if i < 0 then -i else i))
  | _ => none
theorem o_abs {K : PySem.W.Frag} : OB K (fun xs H Q => ∃ i, xs = [.int i] ∧ Q (.int (if i < 0 then -i else i)) H) fAbs := by
  intro dl F H vs ds z se hb hf Q g
  unfold fAbs at hf
  split at hf
  · cases hf
    obtain ⟨v, rfl, bv⟩ := bp1 hb
    obtain rfl := bv.int
    exact ⟨_, rfl, g.val se (.int _)⟩
  · cases hf
/-- the least, the greatest of ints -/
def leastI : Int → List Int → Int
  | m, [] => m
  | m, x :: xs => leastI (if x < m then x else m) xs
def greatI : Int → List Int → Int
  | m, [] => m
  | m, x :: xs => greatI (if m < x then x else m) xs
theorem leastI_spec : ∀ (xs : List Int) (m : Int), (leastI m xs = m ∨ leastI m xs ∈ xs) ∧ leastI m xs ≤ m ∧ ∀ y ∈ xs, leastI m xs ≤ y
  | [], m => ⟨.inl rfl, Int.le_refl _, fun y h => nomatch h⟩
  | x :: xs, m => by
    obtain ⟨h1, h2, h3⟩ := leastI_spec xs (if x < m then x else m)
    unfold leastI
    by_cases c : x < m
    · rw [if_pos c] at h1 h2 h3 ⊢
      refine ⟨.inr ?_, by omega, fun y hy => ?_⟩
      · rcases h1 with h1 | h1
        · rw [h1]; exact List.mem_cons_self
        · exact List.mem_cons_of_mem _ h1
      · rcases List.mem_cons.mp hy with rfl | hy
        · exact h2
        · exact h3 y hy
    · rw [if_neg c] at h1 h2 h3 ⊢
      refine ⟨?_, h2, fun y hy => ?_⟩
      · rcases h1 with h1 | h1
        · exact .inl h1
        · exact .inr (List.mem_cons_of_mem _ h1)
      · rcases List.mem_cons.mp hy with rfl | hy
        · omega
        · exact h3 y hy
theorem greatI_spec : ∀ (xs : List Int) (m : Int), (greatI m xs = m ∨ greatI m xs ∈ xs) ∧ m ≤ greatI m xs ∧ ∀ y ∈ xs, y ≤ greatI m xs
  | [], m => ⟨.inl rfl, Int.le_refl _, fun y h => nomatch h⟩
  | x :: xs, m => by
    obtain ⟨h1, h2, h3⟩ := greatI_spec xs (if m < x then x else m)
    unfold greatI
    by_cases c : m < x
    · rw [if_pos c] at h1 h2 h3 ⊢
      refine ⟨.inr ?_, by omega, fun y hy => ?_⟩
      · rcases h1 with h1 | h1
        · rw [h1]; exact List.mem_cons_self
        · exact List.mem_cons_of_mem _ h1
      · rcases List.mem_cons.mp hy with rfl | hy
        · exact h2
        · exact h3 y hy
    · rw [if_neg c] at h1 h2 h3 ⊢
      refine ⟨?_, h2, fun y hy => ?_⟩
      · rcases h1 with h1 | h1
        · exact .inl h1
        · exact .inr (List.mem_cons_of_mem _ h1)
      · rcases List.mem_cons.mp hy with rfl | hy
        · omega
        · exact h3 y hy
def fMin : List PyData → Option PyData
  | [.int i, .int j] => some (.int (if j < i then j else i))
  | [.list xs] => match intsOf xs with
    | some (n :: ns) => some (.int (leastI n ns))
    | _ => none
  | [.tuple xs] => none
  | _ => none
def fMax : List PyData → Option PyData
  | [.int i, .int j] => some (.int (if j > i then j else i))
  | [.list xs] => match intsOf xs with
    | some (n :: ns) => some (.int (greatI n ns))
    | _ => none
  | [.tuple xs] => none
  | _ => none
def rMinA (K : PySem.W.Frag) : List V → Hp → VK → Prop := fun xs H Q => (∃ i j, xs = [.int i, .int j] ∧ Q (.int (if j < i then j else i)) H) ∨ rMin K xs H Q
def rMaxA (K : PySem.W.Frag) : List V → Hp → VK → Prop := fun xs H Q => (∃ i j, xs = [.int i, .int j] ∧ Q (.int (if j > i then j else i)) H) ∨ rMax K xs H Q
theorem call_minA (hc : X.calm = true) : CallR X (.builtin "min") (rMinA X.K) := by
  intro pins s σ H xs us Q I r h
  rcases h with h | h
  · exact call_min2 hc pins s σ H xs us Q I r h
  · exact cr_min hc pins s σ H xs us Q I r h
theorem call_maxA (hc : X.calm = true) : CallR X (.builtin "max") (rMaxA X.K) := by
  intro pins s σ H xs us Q I r h
  rcases h with h | h
  · exact call_max2 hc pins s σ H xs us Q I r h
  · exact cr_max hc pins s σ H xs us Q I r h
theorem o_min {K : PySem.W.Frag} : OB K (rMinA K) fMin := by
  intro dl F H vs ds z se hb hf Q g
  unfold fMin at hf
  split at hf
  · cases hf
    obtain ⟨v, u, rfl, bv, bu⟩ := bp2 hb
    obtain rfl := bv.int
    obtain rfl := bu.int
    exact .inl ⟨_, _, rfl, g.val se (.int _)⟩
  · split at hf
    · rename_i n ns hi
      cases hf
      obtain ⟨v, rfl, bv⟩ := bp1 hb
      obtain ⟨q, rfl, a1⟩ := bp_ints se bv hi
      obtain ⟨h1, h2, h3⟩ := leastI_spec ns n
      refine .inr ⟨q, n :: ns, rfl, SqL.of a1, by simp, fun m hm hl => ?_⟩
      have e1 : leastI n ns ∈ n :: ns := by
        rcases h1 with h1 | h1
        · rw [h1]; exact List.mem_cons_self
        · exact List.mem_cons_of_mem _ h1
      have e2 : m = leastI n ns := by
        have := hl _ e1
        have : leastI n ns ≤ m := by
          rcases List.mem_cons.mp hm with rfl | hm
          · exact h2
          · exact h3 m hm
        omega
      rw [e2]
      exact g.val se (.int _)
    · cases hf
  · cases hf
  · cases hf
theorem o_max {K : PySem.W.Frag} : OB K (rMaxA K) fMax := by
  intro dl F H vs ds z se hb hf Q g
  unfold fMax at hf
  split at hf
  · cases hf
    obtain ⟨v, u, rfl, bv, bu⟩ := bp2 hb
    obtain rfl := bv.int
    obtain rfl := bu.int
    exact .inl ⟨_, _, rfl, g.val se (.int _)⟩
  · split at hf
    · rename_i n ns hi
      cases hf
      obtain ⟨v, rfl, bv⟩ := bp1 hb
      obtain ⟨q, rfl, a1⟩ := bp_ints se bv hi
      obtain ⟨h1, h2, h3⟩ := greatI_spec ns n
      refine .inr ⟨q, n :: ns, rfl, SqL.of a1, by simp, fun m hm hl => ?_⟩
      have e1 : greatI n ns ∈ n :: ns := by
        rcases h1 with h1 | h1
        · rw [h1]; exact List.mem_cons_self
        · exact List.mem_cons_of_mem _ h1
      have e2 : m = greatI n ns := by
        have := hl _ e1
        have : m ≤ greatI n ns := by
          rcases List.mem_cons.mp hm with rfl | hm
          · exact h2
          · exact h3 m hm
        omega
      rw [e2]
      exact g.val se (.int _)
    · cases hf
  · cases hf
  · cases hf
def fSum : List PyData → Option PyData
  | [.list xs] => (intsOf xs).map fun ns => .int ns.sum
  | _ => none
theorem o_sum {K : PySem.W.Frag} : OB K (rSum K) fSum := by
  intro dl F H vs ds z se hb hf Q g
  unfold fSum at hf
  split at hf
  · rename_i xs
    cases hi : intsOf xs with
    | none => rw [hi] at hf; cases hf
    | some ns =>
      rw [hi] at hf
      cases hf
      obtain ⟨v, rfl, bv⟩ := bp1 hb
      obtain ⟨q, rfl, a1⟩ := bp_ints se bv hi
      exact ⟨q, ns, rfl, SqL.of a1, g.val se (.int _)⟩
  · cases hf
def fAll : List PyData → Option PyData
  | [.list xs] => (boolsOf xs).map fun bs => .bool (bs.all _root_.id)
  | _ => none
def fAny : List PyData → Option PyData
  | [.list xs] => (boolsOf xs).map fun bs => .bool (bs.any _root_.id)
  | _ => none
theorem bp_bools {K : PySem.W.Frag} {dl : Option (Addr × Addr)} {F H : Hp} {v : V} {xs : List PyData} {bs : List Bool} (e : Same F H) (h : Bp K dl F H v (.list xs)) (hi : boolsOf xs = some bs) : ∃ p, v = .ref p ∧ H p = some (.lst (bs.map V.bl)) := by
  obtain ⟨p, vs, rfl, h1, h2⟩ := h.list e
  rw [boolsOf_some hi] at h2
  rw [dvAll_bools_inv h2] at h1
  exact ⟨p, rfl, h1⟩
theorem o_all {K : PySem.W.Frag} : OB K (rAll K) fAll := by
  intro dl F H vs ds z se hb hf Q g
  unfold fAll at hf
  split at hf
  · rename_i xs
    cases hi : boolsOf xs with
    | none => rw [hi] at hf; cases hf
    | some ns =>
      rw [hi] at hf
      cases hf
      obtain ⟨v, rfl, bv⟩ := bp1 hb
      obtain ⟨q, rfl, a1⟩ := bp_bools se bv hi
      exact ⟨q, ns, rfl, SqL.of a1, g.val se (.bl _)⟩
  · cases hf
theorem o_any {K : PySem.W.Frag} : OB K (rAny K) fAny := by
  intro dl F H vs ds z se hb hf Q g
  unfold fAny at hf
  split at hf
  · rename_i xs
    cases hi : boolsOf xs with
    | none => rw [hi] at hf; cases hf
    | some ns =>
      rw [hi] at hf
      cases hf
      obtain ⟨v, rfl, bv⟩ := bp1 hb
      obtain ⟨q, rfl, a1⟩ := bp_bools se bv hi
      exact ⟨q, ns, rfl, SqL.of a1, g.val se (.bl _)⟩
  · cases hf
/-- sorted of ints -/
def insI (x : Int) : List Int → List Int
  | [] => [x]
  | y :: ys => if x ≤ y then x :: y :: ys else y :: insI x ys
def sortI : List Int → List Int
  | [] => []
  | x :: xs => insI x (sortI xs)
theorem insI_perm (x : Int) : ∀ xs : List Int, (insI x xs).Perm (x :: xs)
  | [] => .refl _
  | y :: ys => by
    unfold insI
    split
    · exact .refl _
    · exact ((insI_perm x ys).cons y).trans (.swap x y ys)
theorem sortI_perm : ∀ xs : List Int, (sortI xs).Perm xs
  | [] => .refl _
  | x :: xs => (insI_perm x (sortI xs)).trans ((sortI_perm xs).cons x)
theorem insI_sorted (x : Int) : ∀ xs : List Int, xs.Pairwise (· ≤ ·) → (insI x xs).Pairwise (· ≤ ·)
  | [], _ => by simp [insI]
  | y :: ys, h => by
    unfold insI
    rw [List.pairwise_cons] at h
    split
    · rename_i c
      refine List.pairwise_cons.mpr ⟨fun z hz => ?_, List.pairwise_cons.mpr h⟩
      rcases List.mem_cons.mp hz with rfl | hz
      · exact c
      · exact Int.le_trans c (h.1 z hz)
    · rename_i c
      refine List.pairwise_cons.mpr ⟨fun z hz => ?_, insI_sorted x ys h.2⟩
      rcases List.mem_cons.mp ((insI_perm x ys).mem_iff.mp hz) with rfl | hz
      · omega
      · exact h.1 z hz
theorem sortI_sorted : ∀ xs : List Int, (sortI xs).Pairwise (· ≤ ·)
  | [] => .nil
  | x :: xs => insI_sorted x _ (sortI_sorted xs)
theorem sorted_unique : ∀ {xs ys : List Int}, xs.Perm ys → xs.Pairwise (· ≤ ·) → ys.Pairwise (· ≤ ·) → xs = ys
  | [], ys, h, _, _ => by rw [List.Perm.nil_eq h]
  | x :: xs, [], h, _, _ => by
    have := h.length_eq
    simp at this
  | x :: xs, y :: ys, h, h1, h2 => by
    rw [List.pairwise_cons] at h1 h2
    have e : x = y := by
      have m1 : x ∈ y :: ys := h.mem_iff.mp List.mem_cons_self
      have m2 : y ∈ x :: xs := h.mem_iff.mpr List.mem_cons_self
      have a1 : y ≤ x := by
        rcases List.mem_cons.mp m1 with e | m1
        · omega
        · exact h2.1 x m1
      have a2 : x ≤ y := by
        rcases List.mem_cons.mp m2 with e | m2
        · omega
        · exact h1.1 y m2
      omega
    subst e
    rw [sorted_unique h.cons_inv h1.2 h2.2]
def fSorted : List PyData → Option (List PyData)
  | [.list xs] => (intsOf xs).map fun ns => (sortI ns).map .int
  | _ => none
theorem o_sorted {K : PySem.W.Frag} : OBN K (rSortedI K) fSorted := by
  intro dl F H vs ds z se hb hf Q g
  unfold fSorted at hf
  split at hf
  · rename_i xs
    cases hi : intsOf xs with
    | none => rw [hi] at hf; cases hf
    | some ns =>
      rw [hi] at hf
      cases hf
      obtain ⟨v, rfl, bv⟩ := bp1 hb
      obtain ⟨q, rfl, a1⟩ := bp_ints se bv hi
      refine ⟨q, ns, rfl, SqL.of a1, fun ns' p hp hs hn => ?_⟩
      rw [sorted_unique (hp.trans (sortI_perm ns).symm) hs (sortI_sorted ns)]
      exact g.new se hn (dvAll_ints _)
  · cases hf

/-! ### list(range(..)), tuple(range(..)) -/
def mRgL (m : M PyData) : M (List PyData) := mRange1 m
theorem rgV_dv {K : PySem.W.Frag} {F : Hp} (a b : Int) : DvAll K F (rgV a b) (rangeL a (b - a).toNat) := by
  unfold rgV rangeL
  induction (List.range (b - a).toNat) with
  | nil => exact .nil
  | cons i l ih => exact .cons (.int _) ih
theorem range1_some {env : En} {ds ds' : DS} {xs : List PyData} (h : mRange1 m env ds = some (xs, ds')) : ∃ j, m env ds = some (.int j, ds') ∧ j ≤ 16777216 ∧ -4611686018427387904 ≤ j ∧ xs = rangeL 0 j.toNat := by
  obtain ⟨d, ds1, h1, h2⟩ := mb_some h
  obtain ⟨h3, rfl⟩ := mo_some h2
  cases d with
  | int j =>
    simp only at h3
    split at h3
    · rename_i hj
      cases h3
      exact ⟨j, h1, hj.1, hj.2, rfl⟩
    · cases h3
  | _ => cases h3
theorem dn_listRange (hc : X.calm = true) (hg : Gl X "list") (hm : X.mg "list" = none) (hg2 : Gl X "range") (hm2 : X.mg "range" = none) (ha : PE X a (RE X.K m)) (na : starEach [a] X.env = (false, eval a X.env) :: starEach [] X.env := by rfl)
    (na2 : starEach [.Call (.Name "range" p2) [a] [] pos] X.env = (false, eval (.Call (.Name "range" p2) [a] [] pos) X.env) :: starEach [] X.env := by rfl) {q : Pos} :
    PE X (.Call (.Name "list" p) [.Call (.Name "range" p2) [a] [] pos] [] q) (RN X.K (mRange1 m)) :=
  pe_imp (pe_listRg hc hg hm (prg_1 hg2 hm2 ha na) na2) fun σ H Q ⟨B, F, dl, env, ds, xs, ds', rel, hm', k⟩ => by
    obtain ⟨j, h1, h2, h3, rfl⟩ := range1_some hm'
    refine ⟨B, F, dl, env, ds, .int j, _, rel, h1, fun v F' H' r g dv => ?_⟩
    cases dv
    refine ⟨j, rfl, ⟨by omega, by omega, by omega, by omega, by omega⟩, fun q hq => ?_⟩
    have hq0 : H q = none := by
      cases w : H q with
      | none => rfl
      | some o =>
        obtain ⟨o', e⟩ := g.dom q o w
        rw [hq] at e
        cases e
    have hv := rgV_dv (K := X.K) (F := F') 0 j
    rw [show (j - 0).toNat = j.toNat by omega] at hv
    exact k q _ F' _ (r.tmp hq) (g.trans (Gr.tmp r.ex hq)) hq0 (r.ex.free hq) upd_same hv
theorem dx_tupRange (hc : X.calm = true) (hg : Gl X "tuple") (hm : X.mg "tuple" = none) (hg2 : Gl X "range") (hm2 : X.mg "range" = none) (ha : PE X a (RE X.K m)) (na : starEach [a] X.env = (false, eval a X.env) :: starEach [] X.env := by rfl)
    (na2 : starEach [.Call (.Name "range" p2) [a] [] pos] X.env = (false, eval (.Call (.Name "range" p2) [a] [] pos) X.env) :: starEach [] X.env := by rfl) {q : Pos} :
    PE X (.Call (.Name "tuple" p) [.Call (.Name "range" p2) [a] [] pos] [] q) (RE X.K (mtup (mRange1 m))) :=
  pe_imp (pe_tupRg hc hg hm (prg_1 hg2 hm2 ha na) na2) fun σ H Q ⟨B, F, dl, env, ds, z, ds', rel, hm', k⟩ => by
    obtain ⟨xs, ds1, h0, h00⟩ := mb_some hm'
    obtain ⟨rfl, rfl⟩ := mr_some h00
    obtain ⟨j, h1, h2, h3, rfl⟩ := range1_some h0
    refine ⟨B, F, dl, env, ds, .int j, _, rel, h1, fun v F' H' r g dv => ?_⟩
    cases dv
    refine ⟨j, rfl, ⟨by omega, by omega, by omega, by omega, by omega⟩, fun q hq => ?_⟩
    have hv := rgV_dv (K := X.K) (F := F') 0 j
    rw [show (j - 0).toNat = j.toNat by omega] at hv
    have g2 : Gr none F' H' (upd F' q (.tup (rgV 0 j))) (upd H' q (.tup (rgV 0 j))) := Gr.new r.ex hq
    exact k _ _ _ (r.grow g2) (g.trans g2.weak) (.tup (SqT.of upd_same) (dvAll_mono g2.f _ _ hv))

/-! ### isinstance(x, T), T a built-in type -/
def tyName : PyData → String
  | .none => "NoneType"
  | .bool _ => "bool"
  | .int _ => "int"
  | .str _ => "str"
  | .list _ => "list"
  | .tuple _ => "tuple"
  | .dict _ => "dict"
def isTy (T : String) (d : PyData) : Bool := tyName d == T || (tyName d == "bool" && T == "int")
theorem bp_tyX {K : PySem.W.Frag} {dl : Option (Addr × Addr)} {F H : Hp} {v : V} {d : PyData} (e : Same F H) (h : Bp K dl F H v d) : TyX K H v (.type (tyName d)) := by
  cases h.dv e with
  | non => exact .base .non
  | bl b => exact .base (.bl b)
  | int i => exact .base (.int i)
  | str x => exact .base (.str x)
  | lst h1 _ => exact .base (.lst h1)
  | tup h1 _ =>
    rcases h1 with (h1 | ⟨o, h1⟩) | ⟨o, its, n, hk, hc, _⟩
    · exact .base (.tup h1)
    · exact .fTuple h1
    · exact .kTuple hk hc
  | dic h1 => exact .base (.dK h1)
def goodTy (T : String) : Prop := ∀ d : PyData, kitB (tyName d) T = some (isTy T d)
theorem good_of {T : String} (h1 : kitB "NoneType" T = some (isTy T .none) := by decide +kernel) (h2 : kitB "bool" T = some (isTy T (.bool true)) := by decide +kernel) (h3 : kitB "int" T = some (isTy T (.int 0)) := by decide +kernel) (h4 : kitB "str" T = some (isTy T (.str ⟨#[]⟩)) := by decide +kernel)
    (h5 : kitB "list" T = some (isTy T (.list [])) := by decide +kernel) (h6 : kitB "tuple" T = some (isTy T (.tuple [])) := by decide +kernel) (h7 : kitB "dict" T = some (isTy T (.dict [])) := by decide +kernel) : goodTy T := by
  intro d
  cases d with
  | none => exact h1
  | bool _ => exact h2
  | int _ => exact h3
  | str _ => exact h4
  | list _ => exact h5
  | tuple _ => exact h6
  | dict _ => exact h7
theorem good_int : goodTy "int" := good_of
theorem good_bool : goodTy "bool" := good_of
theorem good_str : goodTy "str" := good_of
theorem good_list : goodTy "list" := good_of
theorem good_tuple : goodTy "tuple" := good_of
theorem dx_isi {b : Expr} (hT : goodTy T) (hg : Gl X "isinstance") (hm : X.mg "isinstance" = none) (ha : PE X a (RB X.K m)) (hb : PE X b (tC (.ty T)))
    (hpa : starEach [a, b] X.env = (false, eval a X.env) :: starEach [b] X.env := by rfl) (hpb : starEach [b] X.env = (false, eval b X.env) :: starEach [] X.env := by rfl) (hpl : (backTo pos (starEach [b] X.env)).any (·.1) = false := by rfl) :
    PE X (.Call (.Name "isinstance" p) [a, b] [] pos) (RE X.K (e1 (fun d => some (.bool (isTy T d))) m)) :=
  pe_imp (pe_callB call_isi hg hm (by decide +kernel) (pa_cons ha (pa_cons hb pa_nil hpb) hpa) (by decide) (by decide) hpa hpl) fun σ H Q ⟨B, F, dl, env, ds, z, ds', rel, hm', k⟩ => by
    obtain ⟨d, ds1, h1, h2⟩ := mb_some hm'
    obtain ⟨h3, rfl⟩ := mo_some h2
    cases h3
    exact ⟨B, F, dl, env, ds, d, _, rel, h1, fun v F' H' r g bv => ⟨v, .ty T, _, _, _, rfl, .ty T, bp_tyX r.ex bv, kit_ty (hT d), k _ F' H' r g (.bl _)⟩⟩

/-! ### repr -/
def fRepr : List PyData → Option PyData
  | [d] => if d.showable = true ∧ d.hasDict = false ∧ d.depth ≤ 60 ∧ d.shown.length ≤ sizeLine then some (.str d.shown) else none
  | _ => none
def rReprM (K : PySem.W.Frag) : List V → Hp → VK → Prop := fun xs H Q => ∃ v d, xs = [v] ∧ Dp K H v d ∧ d.showable = true ∧ d.hasDict = false ∧ d.depth ≤ 60 ∧ d.shown.length ≤ sizeLine ∧ Q (.str d.shown) H
theorem call_reprM (hG : X.A.guards = some []) (hu : X.A.units + 64 < cLine) : CallR X (.builtin "repr") (rReprM X.K) := by
  intro pins s σ H xs us Q I r h
  obtain ⟨v, d, rfl, hd, h1, h2, h3, h4, q⟩ := h
  obtain ⟨u, rfl, ru⟩ := vals1 r
  obtain ⟨as, rd⟩ := Dp.reads I d v u hd ru
  have big : ∀ {a : Addr} {as : List Addr}, Reads s.heap (.ref a) d as → wpAny (model X.prog X.w) X.A (call (.builtin "repr") [.ref a]) (EP X pins σ Q) X.xe s := fun {a as} rd =>
    repr_of_reads' rd h1 (PyData.noDict_hsm h2) hG (by omega) (fun _ _ e => e) (fun h' u tk hk => ⟨.str d.shown, H, I.kept (t' := tk) hk, ⟨u, rfl⟩, q⟩) h4
  cases hd with
  | non =>
    cases ru
    exact P.repr_of_none ⟨.str _, H, I.tok _, ⟨_, rfl⟩, q⟩
  | bl b =>
    cases ru
    exact P.repr_of_bool ⟨.str _, H, I.tok _, ⟨_, rfl⟩, q⟩
  | int i =>
    obtain ⟨t, rfl⟩ := ru
    exact P.repr_of_int (by simpa [PyData.showable] using h1) ⟨.str _, H, I.tok _, ⟨_, rfl⟩, q⟩
  | str x =>
    obtain ⟨t, rfl⟩ := ru
    exact P.repr_of_str ⟨.str _, H, I.tok _, ⟨_, rfl⟩, q⟩ h4
  | lst _ _ =>
    cases ru
    exact big rd
  | tup _ _ =>
    cases ru
    exact big rd
theorem o_repr {K : PySem.W.Frag} : OB K (rReprM K) fRepr := by
  intro dl F H vs ds z se hb hf Q g
  unfold fRepr at hf
  split at hf
  · split at hf
    · rename_i c
      cases hf
      obtain ⟨v, rfl, bv⟩ := bp1 hb
      exact ⟨v, _, rfl, dv_dp _ v c.2.1 (bv.dv se), c.1, c.2.1, c.2.2.1, c.2.2.2, g.val se (.str _)⟩
    · cases hf
  · cases hf
end
end DL

set_option Elab.async false
set_option linter.all false
set_option maxRecDepth 100000
set_option maxHeartbeats 2000000
/-! Dl8: the end of a law's row -/
namespace DL
open PySem PySem.Spec PyProof.Rows L2

section
variable {P : Program} {w : World} {K : PySem.W.Frag} {mg mb : Str → Option Value} {k : Nat} {fa a : Addr} {fd : FuncData} {x : Str} {sp : Sp} {s : Shared} {vs : List Value} {ns : List Int} {H : Hp}
/-- the heap that the law's defs take as given: what H does not track -/
theorem mod_hid (KX : K.In s.heap) (hns : s.heap.Ns mainGlobals mg) (hb : s.heap.Ns builtinsNs mb) (hbb : ∀ x : Str, x ≠ "__name__" → mb x = bootBuiltins x) (hlim : s.heap.NoLimit)
    (hK : ∀ b o, K.lookup b = some o → H b = none) (hD : ∀ b o, s.heap.get? b = some o → (∃ es ep, o.data = .dict es ep) → H b = none) : Mod K mg (hidT s.heap H) := by
  have keep : ∀ {b : Addr} {m : Str → Option Value}, s.heap.Ns b m → (hidT s.heap H).Ns b m := by
    rintro b m ⟨o, es, ep, e, d, r⟩
    exact ⟨o, es, ep, hidT_get e (hD b o e ⟨es, ep, d⟩), d, r⟩
  constructor
  · exact fun b o e => hidT_get (KX b o e) (hK b o e)
  · exact keep hns
  · exact ⟨mb, keep hb, hbb⟩
  · obtain ⟨mc, h1, h2⟩ := hlim
    exact ⟨mc, keep h1, h2⟩
/-- the law's call, H being what is tracked: nothing, or the script alone -/
theorem call_at (hM : Mod K mg (hidT s.heap H)) (hok : HOk P w H s.heap) (hg : s.gens = #[]) (hr : Room k callerA) (F : FnG P w K mg (hidT s.heap H) CX0 k fa fd [x] sp) (hbind : BindsTo s fd ⟨[.ref a], []⟩ [(x, .ref a)])
    (hsp : sp [.ref a] H (fun v _ => v = .bl true) E0) (hO : ∀ b u, H b = some u → ∃ o xs, u = .frz o (.lst xs)) :
    codeAny (model P w) callerA (.call (.ref fa) ⟨[.ref a], []⟩) (fun r s' => r = .ok (.ret (.bool true)) ∧ OldK s.heap s'.heap ∧ s'.os = s.os ∧ AllBare s'.gens) s := by
  have e0 : Env0 P w K mg (hidT s.heap H) callerA [] s H := {
    frames := rfl
    mod := hM
    bs := fun b o e => of_hidT e
    bsz := Nat.le_of_eq (hidT_size _ _)
    funs := True.intro
    frf := fun b hb => by cases hb
    hok := hok
    bare := .of_eq hg }
  refine codeAny_mono (F.run callerA [] s H ⟨[.ref a], []⟩ [.ref a] [.ref a] _ E0 rfl hr e0 hbind (.cons rfl .nil) hsp) fun r s' h => ?_
  cases r with
  | error e => exact h.elim
  | ok fl =>
    cases fl with
    | ret u =>
      obtain ⟨v, H', os, bare, un, hok', ru, qv⟩ := h
      have ev : v = .bl true := qv
      subst ev
      cases ru
      refine ⟨rfl, OldK.of_keep fun b o e => ?_, os, bare⟩
      cases q : H b with
      | none => exact un.keep b o e q (List.not_mem_nil) (List.not_mem_nil)
      | some u =>
        obtain ⟨ob, xs, rfl⟩ := hO b u q
        have at1 := (hok b _ q).1
        have at2 := (hok' b _ (un.frzs b ob _ q)).1
        rw [e] at at1
        rw [Option.some.inj at1]
        exact at2
    | _ => exact h.elim
theorem law_callG (KX : K.In s.heap) (hns : s.heap.Ns mainGlobals mg) (hb : s.heap.Ns builtinsNs mb) (hbb : ∀ x : Str, x ≠ "__name__" → mb x = bootBuiltins x) (hlim : s.heap.NoLimit) (hg : s.gens = #[])
    (ha : s.heap.get? a = some { cls := .type "list", data := .seq vs.toArray }) (hi : IntsAre vs ns) (hl : ns.length ≤ sizeLine) (hr : Room k callerA)
    (F : ∀ base : Heap, K.In base → base.Ns mainGlobals mg → FnG P w K mg base CX0 k fa fd [x] sp) (hbind : ∀ (s : Shared) (u : Value), BindsTo s fd ⟨[u], []⟩ [(x, u)])
    (hsp : ∀ H : Hp, SqL K H a (ns.map V.int) → sp [.ref a] H (fun v _ => v = .bl true) E0) :
    codeAny (model P w) callerA (.call (.ref fa) ⟨[.ref a], []⟩) (fun r s' => r = .ok (.ret (.bool true)) ∧ OldK s.heap s'.heap ∧ s'.os = s.os ∧ AllBare s'.gens) s := by
  have rv : Vals (ns.map V.int) vs := vals_ints hi
  have hlen : vs.length = ns.length := hi.length
  cases hk : K.lookup a with
  | some o =>
    have eo := KX a o hk
    rw [ha] at eo
    cases eo
    have hM : Mod K mg (hidT s.heap fun _ => none) := mod_hid KX hns hb hbb hlim (fun _ _ _ => rfl) fun _ _ _ _ => rfl
    refine call_at hM (fun _ _ z => by cases z) hg hr (F _ hM.kin hM.glob) (hbind s (.ref a)) (hsp _ ?_) fun _ _ z => by cases z
    exact .inr ⟨_, vs.toArray, _, hk, rfl, rfl, rfl, by rw [List.size_toArray, hlen]; exact hl, by simpa using rv⟩
  | none =>
    let H : Hp := fun b => if b = a then some (.frz { cls := .type "list", data := .seq vs.toArray } (.lst (ns.map V.int))) else none
    have hat : H a = some (.frz { cls := .type "list", data := .seq vs.toArray } (.lst (ns.map V.int))) := if_pos rfl
    have hoff : ∀ b, b ≠ a → H b = none := fun b n => if_neg n
    have hM : Mod K mg (hidT s.heap H) := by
      refine mod_hid KX hns hb hbb hlim (fun b o e => hoff b ?_) (fun b o e ⟨es, ep, d⟩ => hoff b ?_)
      · rintro rfl
        rw [hk] at e
        cases e
      · rintro rfl
        rw [ha] at e
        cases e
        cases d
    have only : ∀ b u, H b = some u → b = a ∧ u = .frz { cls := .type "list", data := .seq vs.toArray } (.lst (ns.map V.int)) := fun b u z => by
      by_cases hb : b = a
      · subst hb
        rw [hat] at z
        exact ⟨rfl, (Option.some.inj z).symm⟩
      · rw [hoff b hb] at z
        cases z
    refine call_at hM (fun b u z => ?_) hg hr (F _ hM.kin hM.glob) (hbind s (.ref a)) (hsp H (.inl (.inr ⟨_, hat⟩))) fun b u z => ⟨_, _, (only b u z).2⟩
    obtain ⟨rfl, rfl⟩ := only b u z
    exact ⟨ha, by rw [List.length_map]; exact hl, vs, _, rv, ha⟩
end
/-- what k_head leaves, from the law's promise -/
theorem walk_ofG {l : PySem.W.OpenLaw} {n k : Nat} {q : Program} {loose : List Str} {XP : (Str → Option Value) → Heap → Prop} {YP : World → Heap → Prop} {d : DefRec} {K : Params → PySem.W.Frag} {sp : PySem.W.Frag → Sp} {x : Str}
    (hn : l.most = some n) (hn2 : n ≤ sizeLine) (hdf : d.params.defaults = []) (hr : Room k callerA) (hY : ∀ (w : World) (h : Heap), YP w h → (K w.params).In h)
    (F : ∀ (w : World) (mg : Str → Option Value) (fa : Addr) (h : Heap), (K w.params).In h → h.Ns mainGlobals mg → mg d.name = some (.ref fa) →
      ∃ fd : FuncData, (∀ (s : Shared) (u : Value), BindsTo s fd ⟨[u], []⟩ [(x, u)]) ∧ ∀ base : Heap, (K w.params).In base → base.Ns mainGlobals mg → FnG l.prog w (K w.params) mg base CX0 k fa fd [x] (sp (K w.params)))
    (hsp : ∀ (K : PySem.W.Frag) (H : Hp) (a : Addr) (ns : List Int), ns.length ≤ n → SqL K H a (ns.map V.int) → sp K [.ref a] H (fun v _ => v = .bl true) E0) :
    PySem.W.WalkO q loose XP YP l.row.toRowW d [] (fun f vs => PySem.call f vs) := by
  refine Att.attach_call hn hdf fun w s₀ s₁ mg mb fa o pm cd doc a vs ns G Y ho hd hcd hmg hobj hints hlen hg => ?_
  obtain ⟨fd, hb, hF⟩ := F w mg fa _ (hY w _ Y) G.T.g hmg
  exact law_callG (hY w _ Y) G.T.g G.T.b G.T.builtins G.T.nolimit hg hobj hints (Nat.le_trans hlen hn2) hr hF hb fun H hS => hsp _ H a ns hlen hS
end DL

set_option Elab.async false
set_option linter.all false
set_option maxRecDepth 100000
set_option maxHeartbeats 2000000
/-! Dl9: several targets at once, reversed lists, pop, the source of draws -/
namespace DL
open PySem PySem.Spec PyProof.Rows L2

theorem hu66 {k : Nat} {A : Around} (r : Room k A) : A.units + 66 < cLine := by have := r.un; omega
theorem hu64 {k : Nat} {A : Around} (r : Room k A) : A.units + 64 < cLine := by have := r.un; omega
theorem hu0 {k : Nat} {A : Around} (r : Room k A) : A.units < cLine := by have := r.un; omega
section
variable {X : Cx} {st : Stmt} {e a b : Expr} {es : List Expr} {pos : Pos} {m : M PyData} {ml : M (List PyData)} {g : TG}
theorem ps_asg_imp {t t' : TE} (h : PS X st (tAsg t g)) (k : ∀ σ H Q, t' σ H Q → t σ H Q) : PS X st (tAsg t' g) := ps_imp h fun D σ H q => k σ H _ q
theorem frzE {K : PySem.W.Frag} {t : TE} (h : ∀ σ H Q, RN K ml σ H Q → t σ H Q) : ∀ σ H Q, RE K (mlst ml) σ H Q → t σ H Q := fun σ H Q ⟨B, F, dl, env, ds, d, ds', r, hm, k⟩ => by
  obtain ⟨xs, ds1, h1, h2⟩ := mb_some hm
  obtain ⟨rfl, rfl⟩ := mr_some h2
  refine h σ H Q ⟨B, F, dl, env, ds, xs, _, r, h1, fun p vs F' H' r' g hp fp hp' ha => ?_⟩
  exact k (.ref p) (upd F' p (.lst vs)) H' (Rel.frz r r' hp fp hp') (g.frz hp hp').1 (.lst upd_same (dvAll_mono (DL.same_new fp) xs vs ha))

/-! ### a, b = x, y -/
inductive MK where
  | d (m : M PyData)
  | n (m : M (List PyData))
def mslots : List MK → M (List Slot)
  | [] => mr []
  | .d m :: r => mb m fun x => mb (mslots r) fun ss => mr (.dat x :: ss)
  | .n m :: r => mb m fun xs => mb (mslots r) fun ss => mr (.own xs :: ss)
/-- values for slots: data, or lists new since H0, each for itself -/
def SlotsV (K : PySem.W.Frag) (F H0 H : Hp) : List V → List Slot → Prop
  | [], [] => True
  | v :: vs, .dat d :: ss => Dv K F v d ∧ SlotsV K F H0 H vs ss
  | v :: vs, .own xs :: ss => (∃ p us, v = .ref p ∧ H0 p = none ∧ H p = some (.lst us) ∧ F p = none ∧ DvAll K F us xs ∧ ∀ (j : Nat) ys, ss[j]? = some (.own ys) → vs[j]? ≠ some (.ref p)) ∧ SlotsV K F H0 H vs ss
  | _, _ => False
theorem SlotsV.len {K : PySem.W.Frag} {F H0 H : Hp} : ∀ {vs : List V} {ss : List Slot}, SlotsV K F H0 H vs ss → vs.length = ss.length
  | [], [], _ => rfl
  | v :: vs, .dat d :: ss, h => by simp [SlotsV.len h.2]
  | v :: vs, .own xs :: ss, h => by simp [SlotsV.len h.2]
  | [], _ :: _, h => h.elim
  | _ :: _, [], h => h.elim
  | _ :: _, .emp :: _, h => h.elim
  | _ :: _, .deal :: _, h => h.elim
/-- each of them is new -/
theorem SlotsV.news {K : PySem.W.Frag} {F H0 H : Hp} : ∀ {vs : List V} {ss : List Slot}, SlotsV K F H0 H vs ss → ∀ (j : Nat) ys, ss[j]? = some (.own ys) → ∃ p, vs[j]? = some (.ref p) ∧ H0 p = none
  | [], [], _, j, ys, e => by simp at e
  | v :: vs, .dat d :: ss, h, 0, ys, e => by cases e
  | v :: vs, .dat d :: ss, h, j + 1, ys, e => SlotsV.news h.2 j ys e
  | v :: vs, .own xs :: ss, h, 0, ys, e => let ⟨p, us, h1, h2, _⟩ := h.1; ⟨p, by rw [h1]; rfl, h2⟩
  | v :: vs, .own xs :: ss, h, j + 1, ys, e => SlotsV.news h.2 j ys e
  | [], _ :: _, h, _, _, _ => h.elim
  | _ :: _, [], h, _, _, _ => h.elim
  | _ :: _, .emp :: _, h, _, _, _ => h.elim
  | _ :: _, .deal :: _, h, _, _, _ => h.elim
theorem SlotsV.older {K : PySem.W.Frag} {F H0 H1 H : Hp} (k : ∀ p, H1 p = none → H0 p = none) : ∀ {vs : List V} {ss : List Slot}, SlotsV K F H1 H vs ss → SlotsV K F H0 H vs ss
  | [], [], _ => True.intro
  | v :: vs, .dat d :: ss, h => ⟨h.1, SlotsV.older k h.2⟩
  | v :: vs, .own xs :: ss, h => let ⟨p, us, h1, h2, h3⟩ := h.1; ⟨⟨p, us, h1, k p h2, h3⟩, SlotsV.older k h.2⟩
  | [], _ :: _, h => h.elim
  | _ :: _, [], h => h.elim
  | _ :: _, .emp :: _, h => h.elim
  | _ :: _, .deal :: _, h => h.elim
theorem SlotsV.grow {K : PySem.W.Frag} {dl : Option (Addr × Addr)} {F H0 H F' H' : Hp} (g : Gr dl F H F' H') (nD : ∀ p, H0 p = none → ¬ InD dl p) : ∀ {vs : List V} {ss : List Slot}, SlotsV K F H0 H vs ss → SlotsV K F' H0 H' vs ss
  | [], [], _ => True.intro
  | v :: vs, .dat d :: ss, h => ⟨dv_mono g.f _ _ h.1, SlotsV.grow g nD h.2⟩
  | v :: vs, .own xs :: ss, h => let ⟨p, us, h1, h2, h3, h4, h5, h6⟩ := h.1; ⟨⟨p, us, h1, h2, g.h _ _ h3 (nD p h2), g.ap _ _ h3 h4, dvAll_mono g.f _ _ h5, h6⟩, SlotsV.grow g nD h.2⟩
  | [], _ :: _, h => h.elim
  | _ :: _, [], h => h.elim
  | _ :: _, .emp :: _, h => h.elim
  | _ :: _, .deal :: _, h => h.elim
def RAm (K : PySem.W.Frag) (ms : List MK) : TA := fun σ H Q => ∃ B F dl env ds ss ds', Rel K B F H dl σ env ds ∧ mslots ms env ds = some (ss, ds') ∧ ∀ vs F' H', Rel K B F' H' dl σ env ds' → Gr dl F H F' H' → SlotsV K F' H H' vs ss → Q vs H'
theorem dam_nil : PA X [] (RAm X.K []) := pa_imp pa_nil fun σ H Q ⟨B, F, dl, env, ds, xs, ds', rel, hm, k⟩ => by
  obtain ⟨rfl, rfl⟩ := mr_some hm
  exact k [] F H rel (Gr.refl rel.ex) True.intro
theorem Gr.older {dl : Option (Addr × Addr)} {F H F' H' : Hp} (g : Gr dl F H F' H') {p : Addr} (h : H' p = none) : H p = none := by
  cases q : H p with
  | none => rfl
  | some o =>
    obtain ⟨o', e⟩ := g.dom p o q
    rw [h] at e
    cases e
theorem Rel.newD {K : PySem.W.Frag} {B : Addr → Prop} {dl : Option (Addr × Addr)} {F H : Hp} {σ : L2.St} {env : En} {ds : DS} (r : Rel K B F H dl σ env ds) {p : Addr} (h : H p = none) : ¬ InD dl p := by
  rcases r.dea with e | ⟨p', q, cells, blend, e, _, _, e4, e5, _⟩
  · rw [e.1]
    exact fun z => z
  · rw [e]
    rintro (rfl | rfl)
    · rw [h] at e4; cases e4
    · rw [h] at e5; cases e5
theorem dam_d {ms : List MK} (h : PE X e (RE X.K m)) (hr : PA X es (RAm X.K ms)) (hs : starEach (e :: es) X.env = (false, eval e X.env) :: starEach es X.env := by rfl) : PA X (e :: es) (RAm X.K (.d m :: ms)) :=
  pa_imp (pa_cons h hr hs) fun σ H Q ⟨B, F, dl, env, ds, xs, ds', rel, hm, k⟩ => by
    obtain ⟨x, ds1, h1, h2⟩ := mb_some hm
    obtain ⟨ys, ds2, h3, h4⟩ := mb_some h2
    obtain ⟨rfl, rfl⟩ := mr_some h4
    exact ⟨B, F, dl, env, ds, x, ds1, rel, h1, fun v F1 H1 r1 g1 d1 => ⟨B, F1, dl, env, ds1, ys, _, r1, h3, fun vs F2 H2 r2 g2 d2 => k (v :: vs) F2 H2 r2 (g1.trans g2) ⟨dv_mono g2.f x v d1, d2.older fun p hp => g1.older hp⟩⟩⟩
theorem dam_n {ms : List MK} (h : PE X e (RN X.K ml)) (hr : PA X es (RAm X.K ms)) (hs : starEach (e :: es) X.env = (false, eval e X.env) :: starEach es X.env := by rfl) : PA X (e :: es) (RAm X.K (.n ml :: ms)) :=
  pa_imp (pa_cons h hr hs) fun σ H Q ⟨B, F, dl, env, ds, xs, ds', rel, hm, k⟩ => by
    obtain ⟨x, ds1, h1, h2⟩ := mb_some hm
    obtain ⟨ys, ds2, h3, h4⟩ := mb_some h2
    obtain ⟨rfl, rfl⟩ := mr_some h4
    refine ⟨B, F, dl, env, ds, x, ds1, rel, h1, fun p us F1 H1 r1 g1 hp fp hp' d1 => ⟨B, F1, dl, env, ds1, ys, _, r1, h3, fun vs F2 H2 r2 g2 d2 => ?_⟩⟩
    refine k (.ref p :: vs) F2 H2 r2 (g1.trans g2) ⟨⟨p, us, rfl, hp, g2.h _ _ hp' (rel.newD hp), g2.ap _ _ hp' fp, dvAll_mono g2.f x us d1, fun j zs e z => ?_⟩, d2.older fun p hp => g1.older hp⟩
    obtain ⟨q, q1, q2⟩ := d2.news j zs e
    rw [z] at q1
    cases q1
    rw [hp'] at q2
    cases q2
def setE : List Nat → List Slot → En → En
  | i :: is, s :: ss, env => setE is ss (env.set i s)
  | _, _, env => env
def setS : List Nat → List V → L2.St → L2.St
  | i :: is, v :: vs, σ => setS is vs (σ.set i (some v))
  | _, _, σ => σ
theorem Rel.setO {K : PySem.W.Frag} {B : Addr → Prop} {dl : Option (Addr × Addr)} {F H : Hp} {σ : L2.St} {env : En} {ds : DS} {p : Addr} {vs : List V} {xs : List PyData} (r : Rel K B F H dl σ env ds) (i : Nat) (hp : H p = some (.lst vs)) (fp : F p = none) (nB : ¬ B p) (nD : ¬ InD dl p) (nM : ∀ (j : Nat) ys, env[j]? = some (.own ys) → σ[j]? ≠ some (some (.ref p))) (h : DvAll K F vs xs) :
    Rel K B F H dl (σ.set i (some (.ref p))) (env.set i (.own xs)) ds := by
  have eqI : ∀ {j : Nat} {s : Slot}, (env.set i (.own xs))[j]? = some s → i = j → s = .own xs ∧ i < env.length := fun {j s} e z => by
    subst z
    by_cases hl : i < env.length
    · rw [List.getElem?_set_self hl] at e
      exact ⟨(Option.some.inj e).symm, hl⟩
    · rw [List.getElem?_eq_none (by simpa using hl)] at e
      cases e
  refine ⟨r.ex, r.bh, by simp [r.len], fun j d e => ?_, fun j ys e => ?_, fun j l ys zs q ne e1 e2 e3 => ?_, r.dea, fun j e => ?_⟩
  · by_cases hj : i = j
    · cases (eqI e hj).1
    · rw [List.getElem?_set_ne hj] at e ⊢
      exact r.dat j d e
  · by_cases hj : i = j
    · obtain ⟨e', hl⟩ := eqI e hj
      cases e'
      subst hj
      exact ⟨p, vs, by rw [List.getElem?_set_self (by rw [r.len]; exact hl)], hp, fp, nB, nD, h⟩
    · rw [List.getElem?_set_ne hj] at e ⊢
      exact r.mt j ys e
  · by_cases hj : i = j
    · obtain ⟨_, hl⟩ := eqI e1 hj
      subst hj
      rw [List.getElem?_set_self (by rw [r.len]; exact hl)] at e3
      cases e3
      rw [List.getElem?_set_ne ne] at e2 ⊢
      exact nM l zs e2
    · rw [List.getElem?_set_ne hj] at e1 e3
      by_cases hl : i = l
      · obtain ⟨_, hl'⟩ := eqI e2 hl
        subst hl
        rw [List.getElem?_set_self (by rw [r.len]; exact hl')]
        intro z
        cases z
        exact nM j ys e1 e3
      · rw [List.getElem?_set_ne hl] at e2 ⊢
        exact r.dist j l ys zs q ne e1 e2 e3
  · by_cases hj : i = j
    · cases (eqI e hj).1
    · rw [List.getElem?_set_ne hj] at e ⊢
      exact r.dsl j e
theorem own_set {env : En} {i j : Nat} {s : Slot} {ys : List PyData} (e : (env.set i s)[j]? = some (.own ys)) : (i = j ∧ s = .own ys) ∨ env[j]? = some (.own ys) := by
  by_cases hj : i = j
  · subst hj
    by_cases hl : i < env.length
    · rw [List.getElem?_set_self hl] at e
      exact .inl ⟨rfl, Option.some.inj e⟩
    · rw [List.getElem?_eq_none (by simpa using hl)] at e
      cases e
  · rw [List.getElem?_set_ne hj] at e
    exact .inr e
/-- the slots is take the values -/
theorem Rel.setAll {K : PySem.W.Frag} {B : Addr → Prop} {dl : Option (Addr × Addr)} {F H0 H : Hp} {ds : DS} (nB : ∀ p, H0 p = none → ¬ B p) (nD : ∀ p, H0 p = none → ¬ InD dl p) : ∀ (is : List Nat) {vs : List V} {ss : List Slot} {σ : L2.St} {env : En}, Rel K B F H dl σ env ds → SlotsV K F H0 H vs ss →
    (∀ (j : Nat) (zs : List PyData) (k : Nat) (ys : List PyData) (p : Addr), ss[j]? = some (.own zs) → vs[j]? = some (.ref p) → env[k]? = some (.own ys) → σ[k]? ≠ some (some (.ref p))) → Rel K B F H dl (setS is vs σ) (setE is ss env) ds
  | [], vs, ss, σ, env, r, _, _ => by
    have e1 : setS [] vs σ = σ := by cases vs <;> rfl
    have e2 : setE [] ss env = env := by cases ss <;> rfl
    rw [e1, e2]
    exact r
  | i :: is, [], [], σ, env, r, _, _ => r
  | i :: is, v :: vs, .dat d :: ss, σ, env, r, h, n => by
    refine Rel.setAll nB nD is (r.setD i h.1) h.2 fun j zs k ys p e1 e2 e3 e4 => ?_
    rcases own_set e3 with ⟨_, z⟩ | e3
    · cases z
    · by_cases hk : i = k
      · subst hk
        have hl : i < env.length := (List.getElem?_eq_some_iff.mp e3).1
        rename_i e3'
        rw [List.getElem?_set_self hl] at e3'
        cases e3'
      · rw [List.getElem?_set_ne hk] at e4
        exact n (j + 1) zs k ys p e1 e2 e3 e4
  | i :: is, v :: vs, .own xs :: ss, σ, env, r, h, n => by
    obtain ⟨⟨p0, us, rfl, h2, h3, h4, h5, h6⟩, hr⟩ := h
    have r1 := r.setO i h3 h4 (nB p0 h2) (nD p0 h2) (fun k ys e => n 0 xs k ys p0 rfl rfl e) h5
    refine Rel.setAll nB nD is r1 hr fun j zs k ys p e1 e2 e3 e4 => ?_
    by_cases hk : i = k
    · subst hk
      have hl : i < env.length := by
        have := (List.getElem?_eq_some_iff.mp e3).1
        simpa using this
      rw [List.getElem?_set_self (by rw [r.len]; exact hl)] at e4
      cases e4
      exact h6 j zs e1 e2
    · rw [List.getElem?_set_ne hk] at e3 e4
      exact n (j + 1) zs k ys p e1 e2 e3 e4
  | _ :: _, [], _ :: _, _, _, _, h, _ => h.elim
  | _ :: _, _ :: _, [], _, _, _, h, _ => h.elim
  | _ :: _, _ :: _, .emp :: _, _, _, _, h, _ => h.elim
  | _ :: _, _ :: _, .deal :: _, _, _, _, h, _ => h.elim
def sPar (is : List Nat) (ms : List MK) : SM := fun env ds => match mslots ms env ds with
  | none => none
  | some (ss, ds1) => some (.nx, setE is ss env, ds1)
theorem mslots_len : ∀ {ms : List MK} {env : En} {ds ds' : DS} {ss : List Slot}, mslots ms env ds = some (ss, ds') → ss.length = ms.length
  | [], _, _, _, _, h => by
    obtain ⟨e, _⟩ := mr_some h
    rw [← e]
    rfl
  | .d m :: ms, _, _, _, _, h => by
    obtain ⟨x, ds1, _, h2⟩ := mb_some h
    obtain ⟨ys, ds2, h3, h4⟩ := mb_some h2
    obtain ⟨e, _⟩ := mr_some h4
    rw [← e, List.length_cons, mslots_len h3]
    rfl
  | .n m :: ms, _, _, _, _, h => by
    obtain ⟨x, ds1, _, h2⟩ := mb_some h
    obtain ⟨ys, ds2, h3, h4⟩ := mb_some h2
    obtain ⟨e, _⟩ := mr_some h4
    rw [← e, List.length_cons, mslots_len h3]
    rfl
theorem par_read {K : PySem.W.Frag} {is : List Nat} {ms : List MK} {t : TS} (ht : ∀ (D : Ends) (σ : L2.St) (H : Hp), RAm K ms σ H (fun vs H1 => vs.length = ms.length ∧ ∀ H2, (∀ p o, H2 = upd H1 p o → H1 p = none → D.nx (setS is vs σ) H2) ∧ D.nx (setS is vs σ) H1) → t D σ H) : ∀ D σ H, RS K (sPar is ms) D σ H → t D σ H := fun D σ H ⟨B, F, dl, env, ds, o, env', ds', rel, hm, k⟩ => by
  unfold sPar at hm
  cases q : mslots ms env ds with
  | none => rw [q] at hm; cases hm
  | some z =>
    obtain ⟨ss, ds1⟩ := z
    rw [q] at hm
    cases hm
    refine ht D σ H ⟨B, F, dl, env, ds, ss, _, rel, q, fun vs F1 H1 r1 g1 sv => ?_⟩
    have fin : ∀ F2 H2, Rel K B F2 H2 dl σ env ds' → Gr dl F H F2 H2 → SlotsV K F2 H H2 vs ss → D.nx (setS is vs σ) H2 := fun F2 H2 r2 g2 sv2 => by
      refine k _ F2 H2 (Rel.setAll (H0 := H) (fun p hp z => rel.bh p z hp) (fun p hp => rel.newD hp) is r2 sv2 fun j zs k' ys p e1 e2 e3 e4 => ?_) (rel.grs g2)
      obtain ⟨p', q1, q2⟩ := sv2.news j zs e1
      rw [e2] at q1
      cases q1
      obtain ⟨a, us, w1, w2, _⟩ := rel.mt k' ys e3
      rw [w1] at e4
      cases e4
      rw [q2] at w2
      cases w2
    refine ⟨sv.len.trans (mslots_len q), fun H2 => ⟨fun p o e hp => ?_, fin F1 H1 r1 g1 sv⟩⟩
    subst e
    have gt : Gr dl F1 H1 F1 (upd H1 p o) := Gr.tmp r1.ex hp
    exact fin F1 _ (r1.tmp hp) (g1.trans gt) (sv.grow gt fun p hp => rel.newD hp)
theorem ds_par2 {i j : Nat} {m1 m2 : MK} (h : PS X st (tPar i j (RAm X.K [m1, m2]))) : PS X st (RS X.K (sPar [i, j] [m1, m2])) := ps_imp h (par_read fun D σ H ⟨B, F, dl, env, ds, ss, ds', rel, hm, k⟩ => ⟨B, F, dl, env, ds, ss, ds', rel, hm, fun vs F1 H1 r1 g1 sv => by
  obtain ⟨hl, q⟩ := k vs F1 H1 r1 g1 sv
  match vs, hl with
  | [v, w], _ => exact ⟨v, w, rfl, (q H1).2⟩⟩)
theorem ds_par3 {i j l : Nat} {m1 m2 m3 : MK} (h : PS X st (tPar3 i j l (RAm X.K [m1, m2, m3]))) : PS X st (RS X.K (sPar [i, j, l] [m1, m2, m3])) := ps_imp h (par_read fun D σ H ⟨B, F, dl, env, ds, ss, ds', rel, hm, k⟩ => ⟨B, F, dl, env, ds, ss, ds', rel, hm, fun vs F1 H1 r1 g1 sv => by
  obtain ⟨hl, q⟩ := k vs F1 H1 r1 g1 sv
  match vs, hl with
  | [v, w, u], _ => exact ⟨v, w, u, rfl, (q H1).2⟩⟩)
theorem ds_parT2 {i j : Nat} {m1 m2 : MK} (h : PS X st (tAsg (tTup (RAm X.K [m1, m2])) (gTup X.K 2 (gCons (gName i) (gCons (gName j) gNil))))) : PS X st (RS X.K (sPar [i, j] [m1, m2])) := ps_imp h (par_read fun D σ H ⟨B, F, dl, env, ds, ss, ds', rel, hm, k⟩ => ⟨B, F, dl, env, ds, ss, ds', rel, hm, fun vs F1 H1 r1 g1 sv => by
  obtain ⟨hl, q⟩ := k vs F1 H1 r1 g1 sv
  match vs, hl with
  | [v, w], _ => exact ⟨by show 2 ≤ sizeLine; decide, fun p hp => ⟨p, [v, w], rfl, SqT.of upd_same, rfl, v, [w], rfl, w, [], rfl, rfl, (q _).1 p _ rfl hp⟩⟩⟩)
theorem ds_parT3 {i j l : Nat} {m1 m2 m3 : MK} (h : PS X st (tAsg (tTup (RAm X.K [m1, m2, m3])) (gTup X.K 3 (gCons (gName i) (gCons (gName j) (gCons (gName l) gNil)))))) : PS X st (RS X.K (sPar [i, j, l] [m1, m2, m3])) := ps_imp h (par_read fun D σ H ⟨B, F, dl, env, ds, ss, ds', rel, hm, k⟩ => ⟨B, F, dl, env, ds, ss, ds', rel, hm, fun vs F1 H1 r1 g1 sv => by
  obtain ⟨hl, q⟩ := k vs F1 H1 r1 g1 sv
  match vs, hl with
  | [v, w, u], _ => exact ⟨by show 3 ≤ sizeLine; decide, fun p hp => ⟨p, [v, w, u], rfl, SqT.of upd_same, rfl, v, [w, u], rfl, w, [u], rfl, u, [], rfl, rfl, (q _).1 p _ rfl hp⟩⟩⟩)

/-! ### xs[::-1], lists -/
def mRev (m : M PyData) : M (List PyData) := mb m fun d => mo (match d with | .list xs => some xs.reverse | _ => none)
theorem rev_read {K : PySem.W.Frag} : ∀ σ H Q, RN K (mRev m) σ H Q → tRevL K (RB K m) σ H Q := fun σ H Q ⟨B, F, dl, env, ds, zs, ds', rel, hm, k⟩ => by
  obtain ⟨d, ds1, h1, h2⟩ := mb_some hm
  obtain ⟨h3, rfl⟩ := mo_some h2
  cases d with
  | list xs =>
    cases h3
    refine ⟨B, F, dl, env, ds, .list xs, _, rel, h1, fun v F1 H1 r1 g1 b1 => ?_⟩
    obtain ⟨p, vs, rfl, a1, a2⟩ := b1.list r1.ex
    exact ⟨p, vs, rfl, SqL.of a1, fun q hq => k q _ F1 _ (r1.tmp hq) (g1.trans (Gr.tmp r1.ex hq)) (g1.older hq) (r1.ex.free hq) upd_same a2.reverse⟩
  | _ => cases h3
theorem dn_rev {k : Nat} {p1 p2 p3 : Pos} (h : PE X e (RB X.K m)) : PE X (.Subscript e (.Slice none none (some (.UnaryOp .USub (.Constant (.int 1) k p1) p2)) p3) pos) (RN X.K (mRev m)) := pe_imp (pe_revL h) rev_read

/-! ### a.append(b.pop(k)) -/
def sAppPop (i j : Nat) (m : M PyData) : SM := fun env ds => match m env ds with
  | some (.int z, ds1) => match env[j]? with
    | some (.own ys) => if -(2 ^ 63) ≤ z ∧ z < 2 ^ 63 then match seqIndex? z ys.length with
      | some k => match ys[k]? with
        | some y => match (env.set j (.own (ys.eraseIdx k)))[i]? with
          | some (.own xs) => if xs.length < sizeLine then some (.nx, (env.set j (.own (ys.eraseIdx k))).set i (.own (xs ++ [y])), ds1) else none
          | _ => none
        | none => none
      | none => none
      else none
    | _ => none
  | _ => none
theorem DvAll.erase {K : PySem.W.Frag} {F : Hp} : ∀ {vs : List V} {ds : List PyData} (k : Nat), DvAll K F vs ds → DvAll K F (vs.eraseIdx k) (ds.eraseIdx k)
  | _, _, _, .nil => .nil
  | _, _, 0, .cons _ t => t
  | _, _, k + 1, .cons h t => .cons h (DvAll.erase k t)
theorem apppop_read {K : PySem.W.Frag} {i j : Nat} : ∀ D σ H, RS K (sAppPop i j m) D σ H → tDrop (tBM K "list" rAppend (tVar i) (tCons (tBM K "list" rPopAt (tVar j) (tCons (RE K m) tNil)) tNil)) D σ H := fun D σ H ⟨B, F, dl, env, ds, o, env', ds', rel, hm, k⟩ => by
  unfold sAppPop at hm
  split at hm
  · rename_i z ds1 q
    split at hm
    · rename_i ys hj
      split at hm
      · rename_i hz
        split at hm
        · rename_i c hc
          split at hm
          · rename_i y hy
            split at hm
            · rename_i xs hi
              split at hm
              · rename_i hl
                cases hm
                have hi0 : ∃ xs0, env[i]? = some (.own xs0) := by
                  rcases own_set hi with ⟨e, _⟩ | e
                  · exact ⟨ys, by rw [← e]; exact hj⟩
                  · exact ⟨xs, e⟩
                obtain ⟨xs0, hi0⟩ := hi0
                obtain ⟨pi, vi, a1, a2, _⟩ := rel.mt i xs0 hi0
                obtain ⟨pj, vj, b1, b2, _⟩ := rel.mt j ys hj
                refine ⟨.ref pi, a1, .inl ⟨rfl, vi, SqL.of a2⟩, .ref pj, b1, .inl ⟨rfl, vj, SqL.of b2⟩, B, F, dl, env, ds, .int z, _, rel, q, fun v F1 H1 r1 g1 dv => ?_⟩
                cases dv
                obtain ⟨pj', vj', c1, c2, c3, c4, c5, c6⟩ := r1.mt j ys hj
                rw [b1] at c1
                cases c1
                obtain ⟨w, hw, dw⟩ := c6.get hy
                refine ⟨pj, vj', z, c, w, rfl, rfl, c2, hz.1, hz.2, by rw [c6.length]; exact hc, hw, ?_⟩
                obtain ⟨r2, g2⟩ := Rel.updM r1 hj b1 (c6.erase c)
                obtain ⟨pi', vi', d1, d2, d3, d4, d5, d6⟩ := r2.mt i xs hi
                rw [a1] at d1
                cases d1
                refine ⟨pi, vi', w, rfl, rfl, d2, by rw [d6.length]; exact hl, ?_⟩
                obtain ⟨r3, g3⟩ := Rel.updM (ys := xs ++ [y]) r2 hi a1 (d6.append (.cons dw .nil))
                exact k σ F1 _ r3 (((rel.grs g1).trans g2).trans g3)
              · cases hm
            · cases hm
          · cases hm
        · cases hm
      · cases hm
    · cases hm
  · cases hm
theorem ds_apppop {i j : Nat} (h : PS X st (tDrop (tBM X.K "list" rAppend (tVar i) (tCons (tBM X.K "list" rPopAt (tVar j) (tCons (RE X.K m) tNil)) tNil)))) : PS X st (RS X.K (sAppPop i j m)) := ps_imp h apppop_read
end
end DL

set_option Elab.async false
set_option linter.all false
set_option maxRecDepth 100000
set_option maxHeartbeats 2000000
/-! Dl10: the source of draws -/
namespace DL
open PySem PySem.Spec PyProof.Rows L2

/-- the list of great cells, as a value -/
def RQ (K : PySem.W.Frag) (i : Nat) : TE := fun σ H Q => ∃ B F dl env ds, Rel K B F H dl σ env ds ∧ env[i]? = some .deal ∧ ∀ p q, dl = some (p, q) → Q (.ref q) H
theorem Rel.deal {K : PySem.W.Frag} {B : Addr → Prop} {dl : Option (Addr × Addr)} {F H : Hp} {σ : L2.St} {env : En} {ds : DS} {i : Nat} (r : Rel K B F H dl σ env ds) (he : env[i]? = some .deal) :
    ∃ p q cells blend, dl = some (p, q) ∧ ds = some (cells, blend) ∧ σ[i]? = some (some (.ref p)) ∧ p ≠ q ∧ H p = some (.lst [.ref q, .int blend]) ∧ H q = some (.lst (cells.map V.int)) := by
  obtain ⟨p, q, h1, hs⟩ := r.dsl i he
  rcases r.dea with ⟨z, _⟩ | ⟨p', q', cells, blend, z1, z2, z3, z4, z5, _⟩
  · rw [h1] at z; cases z
  · rw [h1] at z1
    cases z1
    exact ⟨p, q, cells, blend, h1, z2, hs, z3, z4, z5⟩
/-- the source moves on -/
theorem Rel.redeal {K : PySem.W.Frag} {B : Addr → Prop} {F H : Hp} {σ : L2.St} {env : En} {ds : DS} {p q a : Addr} {o : HO} {cells : List Int} {blend : Int} (r : Rel K B F H (some (p, q)) σ env ds) (ha : a = p ∨ a = q)
    (h1 : upd H a o p = some (.lst [.ref q, .int blend])) (h2 : upd H a o q = some (.lst (cells.map V.int))) :
    Rel K B F (upd H a o) (some (p, q)) σ env (some (cells, blend)) ∧ Gr (some (p, q)) F H F (upd H a o) := by
  rcases r.dea with ⟨z, _⟩ | ⟨p', q', cells', blend', z1, z2, z3, z4, z5, z6, z7, z8, z9⟩
  · cases z
  · cases z1
    have fa : F a = none := by rcases ha with rfl | rfl <;> assumption
    have ga : ∃ u, H a = some u := by
      rcases ha with rfl | rfl
      · exact ⟨_, z4⟩
      · exact ⟨_, z5⟩
    have ex : Same F (upd H a o) := fun b u e => by
      rw [upd_ne (ne_of_none e fa)]
      exact r.ex b u e
    refine ⟨⟨ex, fun b hb => ?_, r.len, r.dat, fun i xs e => ?_, r.dist, .inr ⟨p, q, cells, blend, rfl, rfl, z3, h1, h2, z6, z7, z8, z9⟩, r.dsl⟩, ⟨Same.refl F, ex, fun b u e n => ?_, fun b u e => ?_, fun _ _ _ n => n⟩⟩
    · by_cases e : b = a
      · subst e
        rw [upd_same]
        exact fun z => nomatch z
      · rw [upd_ne e]
        exact r.bh b hb
    · obtain ⟨b, vs, w1, w2, w3, w4, w5, w6⟩ := r.mt i xs e
      have ne : b ≠ a := by
        rintro rfl
        exact w5 ha
      exact ⟨b, vs, w1, by rw [upd_ne ne]; exact w2, w3, w4, w5, w6⟩
    · have ne : b ≠ a := by
        rintro rfl
        exact n ha
      rw [upd_ne ne]
      exact e
    · by_cases eq : b = a
      · subst eq
        exact ⟨o, upd_same⟩
      · rw [upd_ne eq]
        exact ⟨u, e⟩
section
variable {X : Cx} {i : Nat} {x : Str} {p1 p2 p3 p4 p5 p6 p7 pos : Pos} {k k2 : Nat} {e : Expr} {m : M PyData}
theorem pe_q (hN : X.N[i]? = some x := by rfl) (hv : Vis X.env.scope x := by first | exact Or.inl rfl | exact Or.inr (Or.inl rfl) | exact Or.inr (Or.inr rfl)) (hd : (x == ("__debug__" : Str)) = false := by decide)
    (hcd : (x == ("__classdict__" : Str)) = false := by decide) : PE X (.Subscript (.Name x p1) (.Constant (.int 0) k p2) p3) (RQ X.K i) :=
  pe_imp (pe_ix ix_list (pe_var hN hv hd hcd) pe_int (fun _ _ => rfl)) fun σ H Q ⟨B, F, dl, env, ds, r, he, kk⟩ => by
    obtain ⟨p, q, cells, blend, rfl, rfl, hs, _, h4, h5⟩ := r.deal he
    exact ⟨.ref p, hs, p, [.ref q, .int blend], 0, .ref q, rfl, rfl, SqL.of h4, rfl, kk p q rfl⟩
def mCellsNe (i : Nat) : M Bool := fun env ds => match env[i]?, ds with
  | some .deal, some (c, b) => some (!c.isEmpty, some (c, b))
  | _, _ => none
def mLast0 (i : Nat) : M Bool := fun env ds => match env[i]?, ds with
  | some .deal, some (c, b) => match c.getLast? with
    | some z => some (z == 0, some (c, b))
    | none => none
  | _, _ => none
def mPop (i : Nat) : M PyData := fun env ds => match env[i]?, ds with
  | some .deal, some (c, b) => match c.getLast? with
    | some z => some (.int z, some (c.dropLast, b))
    | none => none
  | _, _ => none
def mPush (i : Nat) (m : M PyData) : M PyData := fun env ds => match m env ds with
  | some (.int z, ds1) => match env[i]?, ds1 with
    | some .deal, some (c, b) => if c.length < sizeLine then some (.none, some (c ++ [z], b)) else none
    | _, _ => none
  | _ => none
def mBlend (i : Nat) : M PyData := fun env ds => match env[i]?, ds with
  | some .deal, some (c, b) => some (.int b, some (c, b))
  | _, _ => none
def sSetBl (i : Nat) (m : M PyData) : SM := fun env ds => match m env ds with
  | some (.int z, ds1) => match env[i]?, ds1 with
    | some .deal, some (c, _) => some (.nx, env, some (c, z))
    | _, _ => none
  | _ => none
theorem last_get {c : List Int} {z : Int} (h : c.getLast? = some z) : (c.map V.int)[(c.map V.int).length - 1]? = some (.int z) := by
  rw [List.getLast?_eq_getElem?] at h
  rw [List.length_map, List.getElem?_map, h]
  rfl
theorem last_at {c : List Int} {z : Int} (h : c.getLast? = some z) : atI (c.map V.int) (-1) = some (.int z) := by
  have hl : c ≠ [] := by
    rintro rfl
    cases h
  have hp : 0 < c.length := List.length_pos_iff.mpr hl
  have h1 : ixN (c.map V.int).length (-1) = some ((c.map V.int).length - 1) := by
    unfold ixN
    rw [List.length_map, if_neg (by omega), if_pos (by omega)]
    congr 1
    omega
  unfold atI
  rw [h1]
  exact last_get h
/-- deal[0] != [] -/
theorem dt_cellsNe (hu : X.A.units < cLine) (hq : PE X e (RQ X.K i)) : PT X (.Compare e [.NotEq] [.List [] p4] pos) (RT X.K (mCellsNe i)) :=
  pt_imp (pt_cmpR (op_neLens hu) hq (pe_lst pa_nil) rfl) fun σ H Q ⟨B, F, dl, env, ds, b, ds', r, hm, kk⟩ => by
    unfold mCellsNe at hm
    split at hm
    · rename_i c bl he
      cases hm
      refine ⟨B, F, dl, env, _, r, he, fun p q e => ⟨by show 0 ≤ sizeLine; exact Nat.zero_le _, fun l hl => ?_⟩⟩
      obtain ⟨p', q', c', bl', h1, h2, _, _, _, h5⟩ := r.deal he
      rw [e] at h1
      cases h1
      cases h2
      have ne : q ≠ l := by
        rintro rfl
        rw [hl] at h5
        cases h5
      refine ⟨q, l, c.map V.int, [], rfl, rfl, .inl ⟨SqL.of (by rw [upd_ne ne]; exact h5), SqL.of upd_same, ?_⟩, ⟨_, rfl, ?_⟩⟩
      · cases c with
        | nil => exact .inr rfl
        | cons a t => exact .inl (by simp)
      · have eb : (if (true : Bool) = true then !decide ((c.map V.int).length = ([] : List V).length) else decide ((c.map V.int).length = ([] : List V).length)) = !c.isEmpty := by
          cases c with
          | nil => rfl
          | cons a t => simp
        rw [eb]
        exact kk F _ (r.tmp hl) (Gr.tmp r.ex hl)
    · cases hm
/-- deal[0][-1] == 0 -/
theorem dt_last0 (hq : PE X e (RQ X.K i)) : PT X (.Compare (.Subscript e (.UnaryOp .USub (.Constant (.int 1) k p1) p2) p3) [.Eq] [.Constant (.int 0) k2 p4] pos) (RT X.K (mLast0 i)) :=
  pt_imp (pt_cmpR op_eq (pe_ix ix_list hq (pe_un un_neg pe_int) (fun _ _ => rfl)) pe_int rfl) fun σ H Q ⟨B, F, dl, env, ds, b, ds', r, hm, kk⟩ => by
    unfold mLast0 at hm
    split at hm
    · rename_i c bl he
      cases hz : c.getLast? with
      | none => rw [hz] at hm; cases hm
      | some z =>
        rw [hz] at hm
        cases hm
        refine ⟨B, F, dl, env, _, r, he, fun p q e => ?_⟩
        obtain ⟨p', q', c', bl', h1, h2, _, _, _, h5⟩ := r.deal he
        rw [e] at h1
        cases h1
        cases h2
        refine ⟨1, rfl, q, c.map V.int, -1, .int z, rfl, rfl, SqL.of h5, last_at hz, rfl, ⟨_, rfl, ?_⟩⟩
        have eb : decide (V.int z = V.int 0) = (z == 0) := by
          by_cases h : z = 0
          · subst h; rfl
          · rw [decide_eq_false (fun w => h (by injection w)), beq_false_of_ne h]
        rw [eb]
        exact kk F H r (Gr.refl r.ex)
    · cases hm
/-- deal[0].pop() -/
theorem dx_qpop {apos cpos : Pos} (hq : PE X e (RQ X.K i)) (hbase : attributeBase e "pop" X.env (eval e X.env) = eval e X.env := by rfl) (hline : (apos.endLine == cpos.line) = true := by rfl) : PE X (.Call (.Attribute e "pop" apos) [] [] cpos) (RE X.K (mPop i)) :=
  pe_imp (pe_bm0 PySem.F.plainAttrs_list PySem.F.slot_list_pop PySem.F.type_list_pop mt_pop hq hbase hline) fun σ H Q ⟨B, F, dl, env, ds, b, ds', r, hm, kk⟩ => by
    unfold mPop at hm
    split at hm
    · rename_i c bl he
      cases hz : c.getLast? with
      | none => rw [hz] at hm; cases hm
      | some z =>
        rw [hz] at hm
        cases hm
        refine ⟨B, F, dl, env, _, r, he, fun p q e => ?_⟩
        obtain ⟨p', q', c', bl', h1, h2, _, hne, h4, h5⟩ := r.deal he
        rw [e] at h1
        cases h1
        cases h2
        refine ⟨.inl ⟨rfl, _, SqL.of h5⟩, q, c.map V.int, .int z, rfl, rfl, h5, last_get hz, ?_⟩
        have eq : (c.map V.int).dropLast = c.dropLast.map V.int := by rw [List.map_dropLast]
        rw [eq]
        subst e
        obtain ⟨r', g'⟩ := Rel.redeal (cells := c.dropLast) (blend := bl) (a := q) (o := .lst (c.dropLast.map V.int)) r (.inr rfl) (by rw [upd_ne hne]; exact h4) upd_same
        exact kk _ F _ r' g' (.int z)
    · cases hm
/-- deal[0].append(e) -/
theorem dx_qpush {apos cpos : Pos} {a : Expr} (hq : PE X e (RQ X.K i)) (ha : PE X a (RE X.K m)) (hbase : attributeBase e "append" X.env (eval e X.env) = eval e X.env := by rfl)
    (hfew : ((backTo cpos (starEach (a :: []) X.env)).all (fun x => !x.1) && (backToKw cpos (keywordEach [] X.env)).all (fun x => x.1.isSome)
      && decide ((a :: []).length + ([] : List Keyword).length + (if ([] : List Keyword).isEmpty then 0 else 1) < 30)) = true := by rfl)
    (hline : (apos.endLine == cpos.line) = true := by rfl) (hs : starEach (a :: []) X.env = (false, eval a X.env) :: starEach [] X.env := by rfl) (hplain : (backTo cpos (starEach [] X.env)).any (·.1) = false := by rfl) : PE X (.Call (.Attribute e "append" apos) [a] [] cpos) (RE X.K (mPush i m)) :=
  pe_imp (pe_bm PySem.F.plainAttrs_list PySem.F.slot_list_append PySem.F.type_list_append mt_append hq (pa_cons ha pa_nil hs) hbase hfew hline hs hplain) fun σ H Q ⟨B, F, dl, env, ds, b, ds', r, hm, kk⟩ => by
    unfold mPush at hm
    split at hm
    · rename_i z ds1 hmz
      split at hm
      · rename_i c bl he
        split at hm
        · rename_i hl
          cases hm
          refine ⟨B, F, dl, env, _, r, he, fun p q e => ?_⟩
          obtain ⟨p0, q0, c0, bl0, w1, w2, _, _, _, w5⟩ := r.deal he
          rw [e] at w1
          cases w1
          refine ⟨.inl ⟨rfl, _, SqL.of w5⟩, B, F, dl, env, ds, .int z, _, r, hmz, fun v F1 H1 r1 g1 d1 => ?_⟩
          cases d1
          obtain ⟨p', q', c', bl', h1, h2, _, hne, h4, h5⟩ := r1.deal he
          rw [e] at h1
          cases h1
          cases h2
          refine ⟨q, c.map V.int, .int z, rfl, rfl, h5, by rw [List.length_map]; exact hl, ?_⟩
          have eq : c.map V.int ++ [.int z] = (c ++ [z]).map V.int := by simp
          rw [eq]
          subst e
          obtain ⟨r', g'⟩ := Rel.redeal (cells := c ++ [z]) (blend := bl) (a := q) (o := .lst ((c ++ [z]).map V.int)) r1 (.inr rfl) (by rw [upd_ne hne]; exact h4) upd_same
          exact kk _ F1 _ r' (g1.trans g') .non
        · cases hm
      · cases hm
    · cases hm
/-- deal[1] -/
theorem dx_blend (hN : X.N[i]? = some x := by rfl) (hv : Vis X.env.scope x := by first | exact Or.inl rfl | exact Or.inr (Or.inl rfl) | exact Or.inr (Or.inr rfl)) (hd : (x == ("__debug__" : Str)) = false := by decide)
    (hcd : (x == ("__classdict__" : Str)) = false := by decide) : PE X (.Subscript (.Name x p1) (.Constant (.int 1) k p2) p3) (RE X.K (mBlend i)) :=
  pe_imp (pe_ix ix_list (pe_var hN hv hd hcd) pe_int (fun _ _ => rfl)) fun σ H Q ⟨B, F, dl, env, ds, b, ds', r, hm, kk⟩ => by
    unfold mBlend at hm
    split at hm
    · rename_i c bl he
      cases hm
      obtain ⟨p, q, cells, blend, rfl, h2, hs, _, h4, h5⟩ := r.deal he
      cases h2
      exact ⟨.ref p, hs, p, [.ref q, .int bl], 1, .int bl, rfl, rfl, SqL.of h4, rfl, kk _ F H r (Gr.refl r.ex) (.int bl)⟩
    · cases hm
/-- deal[1] = e -/
theorem ds_setbl {st : Stmt} (h : PS X st (tAsg (RE X.K m) (gSub (tVar i) (tC (.int 1)) rSetL))) : PS X st (RS X.K (sSetBl i m)) := ps_imp h fun D σ H ⟨B, F, dl, env, ds, o, env', ds', r, hm, kk⟩ => by
  unfold sSetBl at hm
  split at hm
  · rename_i z ds1 hmz
    split at hm
    · rename_i c bl he
      cases hm
      refine ⟨B, F, dl, env, ds, .int z, _, r, hmz, fun v F1 H1 r1 g1 d1 => ?_⟩
      cases d1
      obtain ⟨p, q, c', bl', rfl, h2, hs, hne, h4, h5⟩ := r1.deal he
      cases h2
      refine ⟨.ref p, hs, p, [.ref q, .int bl], 1, 1, rfl, rfl, h4, rfl, ?_⟩
      obtain ⟨r', g'⟩ := Rel.redeal (cells := c) (blend := z) (a := p) (o := .lst ([.ref q, .int bl].set 1 (.int z))) r1 (.inl rfl) upd_same (by rw [upd_ne (Ne.symm hne)]; exact h5)
      exact kk σ F1 _ r' (r.grs (g1.trans g'))
    · cases hm
  · cases hm
end

/-! ### _law_any in plain words -/
noncomputable def m_any : SM := sBlk [
  sWhile (tAnd (mCellsNe 0) (mLast0 0)) (sDrop (mPop 0)),
  sIf (mCellsNe 0) (sBlk [sAsg (tgN 2) (eA fInt [mPop 0]), sDrop (mPush 0 (e2 dFdiv (mVar 2) (mVar 1))), sRet (e2 dMod (mVar 2) (mVar 1))]) sNx,
  sSetBl 0 (e2 dMod (eA fInt [e2 dAdd (e2 dMul (mBlend 0) (mr (.int 40693))) (mr (.int 71))]) (mr (.int 2147483647))),
  sRet (e2 dMod (eA fInt [e2 dFdiv (mBlend 0) (mr (.int 64))]) (mVar 1))]
/-- the source is in order -/
def GoodD (ds : DS) : Prop := ∃ c b, ds = some (c, b) ∧ c.length ≤ 48 ∧ 0 ≤ b ∧ b < 2147483647
/-- a draw is below its bound -/
def AnyOk (f : List PyData → DS → Option (PyData × DS)) : Prop := ∀ (n : Int) ds, 0 < n → n.natAbs.log2 < 9000 → GoodD ds → ∃ v ds', f [.int n] ds = some (.int v, ds') ∧ 0 ≤ v ∧ v < n ∧ GoodD ds'
theorem mb_of {α β : Type} {a : M α} {k : α → M β} {env : En} {ds ds1 : DS} {x : α} (h : a env ds = some (x, ds1)) : mb a k env ds = k x env ds1 := by
  unfold mb
  rw [h]
theorem e1_of {f : PyData → Option PyData} {m : M PyData} {env : En} {ds ds1 : DS} {x z : PyData} (h : m env ds = some (x, ds1)) (hf : f x = some z) : e1 f m env ds = some (z, ds1) := by
  unfold e1
  rw [mb_of h]
  unfold mo
  rw [hf]
  rfl
theorem e2_of {f : PyData → PyData → Option PyData} {m1 m2 : M PyData} {env : En} {ds ds1 ds2 : DS} {x y z : PyData} (h1 : m1 env ds = some (x, ds1)) (h2 : m2 env ds1 = some (y, ds2)) (hf : f x y = some z) : e2 f m1 m2 env ds = some (z, ds2) := by
  unfold e2
  rw [mb_of h1, mb_of h2]
  unfold mo
  rw [hf]
  rfl
theorem t2_of {f : PyData → PyData → Option Bool} {m1 m2 : M PyData} {env : En} {ds ds1 ds2 : DS} {x y : PyData} {z : Bool} (h1 : m1 env ds = some (x, ds1)) (h2 : m2 env ds1 = some (y, ds2)) (hf : f x y = some z) : t2 f m1 m2 env ds = some (z, ds2) := by
  unfold t2
  rw [mb_of h1, mb_of h2]
  unfold mo
  rw [hf]
  rfl
theorem mseq_cons_of {m : M PyData} {ms : List (M PyData)} {env : En} {ds ds1 ds2 : DS} {x : PyData} {xs : List PyData} (h1 : m env ds = some (x, ds1)) (h2 : mseq ms env ds1 = some (xs, ds2)) : mseq (m :: ms) env ds = some (x :: xs, ds2) := by
  unfold mseq
  rw [mb_of h1, mb_of h2]
  rfl
theorem eA_of {f : List PyData → Option PyData} {ms : List (M PyData)} {env : En} {ds ds1 : DS} {xs : List PyData} {z : PyData} (h : mseq ms env ds = some (xs, ds1)) (hf : f xs = some z) : eA f ms env ds = some (z, ds1) := by
  unfold eA
  rw [mb_of h]
  unfold mo
  rw [hf]
  rfl
theorem eA1_of {f : List PyData → Option PyData} {m : M PyData} {env : En} {ds ds1 : DS} {x z : PyData} (h : m env ds = some (x, ds1)) (hf : f [x] = some z) : eA f [m] env ds = some (z, ds1) := eA_of (mseq_cons_of h rfl) hf
theorem log2_le31 {n : Nat} (h : n < 2147483648) : n.log2 < 31 := by
  by_cases h0 : n = 0
  · subst h0
    decide
  · rw [Nat.log2_lt h0]
    exact h
theorem mul_ok {b : Int} (h0 : 0 ≤ b) (h1 : b < 2147483647) {k : Int} (hk : 0 ≤ k) (hk1 : k < 2147483647) : dMul (.int b) (.int k) = some (.int (b * k)) := by
  have l1 : b.natAbs.log2 < 31 := log2_le31 (by omega)
  have l2 : k.natAbs.log2 < 31 := log2_le31 (by omega)
  show (if b.natAbs.log2 + k.natAbs.log2 < 1000000 then some (PyData.int (b * k)) else none) = _
  rw [if_pos (by omega)]
theorem any_while (env : En) (b : Int) (he : env[0]? = some .deal) : ∀ (n : Nat) (c : List Int), c.length = n → ∃ c', sWhile (tAnd (mCellsNe 0) (mLast0 0)) (sDrop (mPop 0)) env (some (c, b)) = some (.nx, env, some (c', b)) ∧ c'.length ≤ n
  | n, c, hn => by
    rw [sWhile_eq]
    cases hz : c.getLast? with
    | none =>
      have e : c = [] := by simpa using hz
      subst e
      refine ⟨[], ?_, Nat.zero_le _⟩
      have : tAnd (mCellsNe 0) (mLast0 0) env (some ([], b)) = some (false, some ([], b)) := by
        unfold tAnd mb mCellsNe
        rw [he]
        rfl
      rw [this]
    | some z =>
      have hne : c ≠ [] := by
        rintro rfl
        cases hz
      have hp : 0 < c.length := List.length_pos_iff.mpr hne
      have e : tAnd (mCellsNe 0) (mLast0 0) env (some (c, b)) = some (z == 0, some (c, b)) := by
        unfold tAnd mb mCellsNe mLast0
        rw [he]
        simp only
        have : c.isEmpty = false := by
          cases c with
          | nil => exact absurd rfl hne
          | cons _ _ => rfl
        rw [this]
        simp only [Bool.not_false, if_true]
        rw [he]
        simp only
        rw [hz]
      rw [e]
      cases hzz : (z == 0) with
      | false => exact ⟨c, rfl, by omega⟩
      | true =>
        have e2 : sDrop (mPop 0) env (some (c, b)) = some (.nx, env, some (c.dropLast, b)) := by
          unfold sDrop mPop
          rw [he]
          simp only
          rw [hz]
        simp only [e2]
        obtain ⟨c', h1, h2⟩ := any_while env b he (n - 1) c.dropLast (by simp; omega)
        exact ⟨c', h1, by omega⟩
  termination_by n => n
  decreasing_by omega
theorem any_ok : AnyOk (runW 3 m_any) := by
  intro n ds hn hlog hg
  obtain ⟨c, b, rfl, hc, hb0, hb1⟩ := hg
  obtain ⟨c', hw, hl⟩ := any_while (envW 3 [.int n]) b rfl c.length c rfl
  have henv : envW 3 [PyData.int n] = [.deal, .dat (.int n), .emp] := rfl
  rw [henv] at hw
  have hmod : ∀ z : Int, dMod (.int z) (.int n) = some (.int (z % n)) := fun z => if_pos hn
  have hdiv : ∀ z : Int, dFdiv (.int z) (.int n) = some (.int (z / n)) := fun z => if_pos ⟨hn, hlog⟩
  unfold runW m_any
  rw [henv]
  simp only [sBlk]
  unfold sSeq
  rw [hw]
  simp only
  unfold sIf
  cases hz : c'.getLast? with
  | some z =>
    have hne : c' ≠ [] := by
      rintro rfl
      cases hz
    have hp : 0 < c'.length := List.length_pos_iff.mpr hne
    have hie : c'.isEmpty = false := by
      cases c' with
      | nil => exact absurd rfl hne
      | cons _ _ => rfl
    have e1 : mCellsNe 0 [.deal, .dat (.int n), .emp] (some (c', b)) = some (true, some (c', b)) := by
      show some (!c'.isEmpty, some (c', b)) = _
      rw [hie]
      rfl
    rw [e1]
    simp only
    have e2 : sAsg (tgN 2) (eA fInt [mPop 0]) [.deal, .dat (.int n), .emp] (some (c', b)) = some (.nx, [.deal, .dat (.int n), .dat (.int z)], some (c'.dropLast, b)) := by
      have : eA fInt [mPop 0] [.deal, .dat (.int n), .emp] (some (c', b)) = some (.int z, some (c'.dropLast, b)) := by
        unfold eA mb mseq mb
        have : mPop 0 [.deal, .dat (.int n), .emp] (some (c', b)) = some (.int z, some (c'.dropLast, b)) := by
          show (match c'.getLast? with | some z => some (PyData.int z, some (c'.dropLast, b)) | none => none) = _
          rw [hz]
        rw [this]
        rfl
      unfold sAsg
      rw [this]
      rfl
    rw [e2]
    simp only
    have e3 : sDrop (mPush 0 (DL.e2 dFdiv (mVar 2) (mVar 1))) [.deal, .dat (.int n), .dat (.int z)] (some (c'.dropLast, b)) = some (.nx, [.deal, .dat (.int n), .dat (.int z)], some (c'.dropLast ++ [z / n], b)) := by
      have q1 : DL.e2 dFdiv (mVar 2) (mVar 1) [.deal, .dat (.int n), .dat (.int z)] (some (c'.dropLast, b)) = some (.int (z / n), some (c'.dropLast, b)) := by
        show mo (dFdiv (.int z) (.int n)) ([] : En) _ = _
        rw [hdiv]
        rfl
      unfold sDrop mPush
      rw [q1]
      simp only
      have hlt : c'.dropLast.length < sizeLine := by
        have : (48 : Nat) < sizeLine := by decide
        simp
        omega
      show (match (if c'.dropLast.length < sizeLine then some (PyData.none, some (c'.dropLast ++ [z / n], b)) else none) with | none => none | some (_, ds1) => some (Out.nx, [Slot.deal, .dat (.int n), .dat (.int z)], ds1)) = _
      rw [if_pos hlt]
    rw [e3]
    simp only
    have e4 : sRet (DL.e2 dMod (mVar 2) (mVar 1)) [.deal, .dat (.int n), .dat (.int z)] (some (c'.dropLast ++ [z / n], b)) = some (.rt (.int (z % n)), [.deal, .dat (.int n), .dat (.int z)], some (c'.dropLast ++ [z / n], b)) := by
      unfold sRet
      have : DL.e2 dMod (mVar 2) (mVar 1) [.deal, .dat (.int n), .dat (.int z)] (some (c'.dropLast ++ [z / n], b)) = some (.int (z % n), some (c'.dropLast ++ [z / n], b)) := by
        show mo (dMod (.int z) (.int n)) ([] : En) _ = _
        rw [hmod]
        rfl
      rw [this]
    rw [e4]
    exact ⟨z % n, _, rfl, Int.emod_nonneg _ (by omega), Int.emod_lt_of_pos _ hn, _, _, rfl, by simp; omega, hb0, hb1⟩
  | none =>
    have e : c' = [] := by simpa using hz
    subst e
    have e1 : mCellsNe 0 [.deal, .dat (.int n), .emp] (some ([], b)) = some (false, some ([], b)) := rfl
    rw [e1]
    simp only [sNx]
    have hm := mul_ok (k := 40693) hb0 hb1 (by decide) (by decide)
    have e2 : sSetBl 0 (DL.e2 dMod (eA fInt [DL.e2 dAdd (DL.e2 dMul (mBlend 0) (mr (.int 40693))) (mr (.int 71))]) (mr (.int 2147483647))) [.deal, .dat (.int n), .emp] (some ([], b)) = some (.nx, [.deal, .dat (.int n), .emp], some ([], (b * 40693 + 71) % 2147483647)) := by
      have q1 : DL.e2 dMul (mBlend 0) (mr (.int 40693)) [.deal, .dat (.int n), .emp] (some ([], b)) = some (.int (b * 40693), some ([], b)) := by
        show mo (dMul (.int b) (.int 40693)) ([] : En) _ = _
        rw [hm]
        rfl
      have q2 : DL.e2 dMod (eA fInt [DL.e2 dAdd (DL.e2 dMul (mBlend 0) (mr (.int 40693))) (mr (.int 71))]) (mr (.int 2147483647)) [.deal, .dat (.int n), .emp] (some ([], b)) = some (.int ((b * 40693 + 71) % 2147483647), some ([], b)) := by
        have q3 : eA fInt [DL.e2 dAdd (DL.e2 dMul (mBlend 0) (mr (.int 40693))) (mr (.int 71))] [.deal, .dat (.int n), .emp] (some ([], b)) = some (.int (b * 40693 + 71), some ([], b)) := by
          exact eA1_of (e2_of q1 rfl rfl) rfl
        exact e2_of q3 rfl rfl
      unfold sSetBl
      rw [q2]
      rfl
    rw [e2]
    simp only
    have hb2 : (b * 40693 + 71) % 2147483647 ≥ 0 := Int.emod_nonneg _ (by decide)
    have hb3 : (b * 40693 + 71) % 2147483647 < 2147483647 := Int.emod_lt_of_pos _ (by decide)
    generalize (b * 40693 + 71) % 2147483647 = b' at hb2 hb3 ⊢
    have e4 : sRet (DL.e2 dMod (eA fInt [DL.e2 dFdiv (mBlend 0) (mr (.int 64))]) (mVar 1)) [.deal, .dat (.int n), .emp] (some ([], b')) = some (.rt (.int (b' / 64 % n)), [.deal, .dat (.int n), .emp], some ([], b')) := by
      unfold sRet
      have : DL.e2 dMod (eA fInt [DL.e2 dFdiv (mBlend 0) (mr (.int 64))]) (mVar 1) [.deal, .dat (.int n), .emp] (some ([], b')) = some (.int (b' / 64 % n), some ([], b')) := by
        show mo (dMod (.int (b' / 64)) (.int n)) ([] : En) _ = _
        rw [hmod]
        rfl
      rw [this]
    rw [e4]
    exact ⟨b' / 64 % n, _, rfl, Int.emod_nonneg _ (by omega), Int.emod_lt_of_pos _ hn, _, _, rfl, by simp, hb2, hb3⟩
end DL

set_option Elab.async false
set_option linter.all false
set_option maxRecDepth 100000
set_option maxHeartbeats 2000000
/-! Dl11: _law_draw and law -/
namespace DL
open PySem PySem.Spec PyProof.Rows L2

/-! ### loops in plain words -/
theorem compL_map {f : PyData → En → Option En} {t : M Bool} {el : M PyData} {env : En} {ds : DS} (g : PyData → PyData) : ∀ xs : List PyData, (∀ x ∈ xs, ∃ env1, f x env = some env1 ∧ t env1 ds = some (true, ds) ∧ el env1 ds = some (g x, ds)) → compL f t el env xs ds = some (xs.map g, ds)
  | [], _ => rfl
  | x :: xs, h => by
    obtain ⟨env1, h1, h2, h3⟩ := h x List.mem_cons_self
    unfold compL
    rw [h1]
    simp only
    rw [h2]
    simp only
    rw [h3]
    simp only
    rw [compL_map g xs fun y hy => h y (List.mem_cons_of_mem _ hy)]
    rfl
/-- with a test -/
theorem compL_filter {f : PyData → En → Option En} {t : M Bool} {el : M PyData} {env : En} {ds : DS} (p : PyData → Bool) (g : PyData → PyData) : ∀ xs : List PyData, (∀ x ∈ xs, ∃ env1, f x env = some env1 ∧ t env1 ds = some (p x, ds) ∧ (p x = true → el env1 ds = some (g x, ds))) → compL f t el env xs ds = some ((xs.filter p).map g, ds)
  | [], _ => rfl
  | x :: xs, h => by
    obtain ⟨env1, h1, h2, h3⟩ := h x List.mem_cons_self
    have ih := compL_filter p g xs fun y hy => h y (List.mem_cons_of_mem _ hy)
    unfold compL
    rw [h1]
    simp only
    rw [h2]
    cases hp : p x with
    | false =>
      simp only
      rw [ih, List.filter_cons_of_neg (by simp [hp])]
    | true =>
      simp only
      rw [h3 hp]
      simp only
      rw [ih, List.filter_cons_of_pos hp]
      rfl
/-- a for whose body goes on each time -/
theorem sForL_inv {f : PyData → En → Option En} {b : SM} (P : List PyData → En → DS → Prop) : ∀ (xs : List PyData) (env : En) (ds : DS), P xs env ds → (∀ x xs env ds, P (x :: xs) env ds → ∃ env1 env2 ds2, f x env = some env1 ∧ (b env1 ds = some (.nx, env2, ds2) ∨ b env1 ds = some (.ct, env2, ds2)) ∧ P xs env2 ds2) →
    ∃ env' ds', sForL f b xs env ds = some (.nx, env', ds') ∧ P [] env' ds'
  | [], env, ds, h, _ => ⟨env, ds, rfl, h⟩
  | x :: xs, env, ds, h, st => by
    obtain ⟨env1, env2, ds2, h1, h2, h3⟩ := st x xs env ds h
    obtain ⟨env', ds', h4, h5⟩ := sForL_inv P xs env2 ds2 h3 st
    refine ⟨env', ds', ?_, h5⟩
    unfold sForL
    rw [h1]
    simp only
    rcases h2 with h2 | h2 <;> rw [h2] <;> exact h4

/-! ### the script -/
def ScrAt (K : PySem.W.Frag) (ns : List Int) (σ : L2.St) (H : Hp) : Prop := ∃ a, σ[0]? = some (some (.ref a)) ∧ SqL K H a (ns.map V.int)
def mScr (ns : List Int) : M (List PyData) := fun _ ds => some ((ns.take 48).map .int, ds)
def IRS (K : PySem.W.Frag) (ns : List Int) : TI := fun σ H R => ScrAt K ns σ H ∧ IR K (mScr ns) σ H R
theorem cut48 (ns : List Int) : cutV (ns.map V.int) none (some 48) = (ns.take 48).map V.int := by
  have h1 : HT.sIx (ns.map V.int).length (ns.map V.int).length (some ((48 : Nat) : Int)) = min 48 (ns.map V.int).length := HT.sIx_nat _ _ 48
  unfold cutV
  rw [show (some (48 : Int)) = some ((48 : Nat) : Int) from rfl, h1, HT.sIx_none, List.drop_zero, Nat.sub_zero, List.length_map, List.map_take]
  by_cases h : 48 ≤ ns.length
  · rw [Nat.min_eq_left h]
  · rw [Nat.min_eq_right (by omega), List.take_of_length_le (by simp), List.take_of_length_le (by simp; omega)]
section
variable {X : Cx} {x : Str} {p1 p2 p3 pos : Pos} {k : Nat} {tg : Expr}
theorem di_scr (ns : List Int) (hN : X.N[0]? = some x := by rfl) (hv : Vis X.env.scope x := by first | exact Or.inl rfl | exact Or.inr (Or.inl rfl) | exact Or.inr (Or.inr rfl)) (hd : (x == ("__debug__" : Str)) = false := by decide)
    (hcd : (x == ("__classdict__" : Str)) = false := by decide) : PI X tg (.Subscript (.Name x p1) (.Slice none (some (.Constant (.int 48) k p2)) none p3) pos) (IRS X.K ns) :=
  pi_imp (pi_fits (pi_list (pe_slice sl_list (pe_var (i := 0) hN hv hd hcd) po_none (po_some pe_int)))) fun σ H R ⟨⟨a, hs, hS⟩, B, F, dl, env, ds, xs, ds', rel, hm, kk⟩ => by
    cases hm
    refine ⟨.ref a, hs, 48, rfl, a, _, rfl, hS, fun p hp => ?_⟩
    rw [cut48]
    have g : Gr dl F H (upd F p (.lst ((ns.take 48).map V.int))) (upd H p (.lst ((ns.take 48).map V.int))) := Gr.new rel.ex hp
    refine ⟨p, rfl, ⟨_, SqL.of upd_same⟩, fun ft => ?_⟩
    refine kk _ _ _ (rel.grow (Gr.new rel.ex hp)) g (walkD_list (SqL.of upd_same) (dvAll_ints _)) ?_
    have := ft.1 p _ (SqL.of upd_same)
    simpa using this
end
/-- first statement: cells = [.. for cell in script[:48]] -/
theorem scr_read {K : PySem.W.Frag} {ns : List Int} {f : PyData → En → Option En} {tg : TG} {vs js : List Nat} {el : M PyData} {t : M Bool} {i : Nat} (tk : TgOk K tg f js) (hj : ∀ j ∈ js, j ∈ vs) (D : Ends) (σ : L2.St) (H : Hp) (hS : ScrAt K ns σ H)
    (h : RS K (sAsg (tgN i) (mlst (mComp (mScr ns) vs f t el))) D σ H) : tAsg (tLc (IRS K ns) tg (RT K t) (RE K el) vs) (gName i) D σ H := by
  have h1 := asg_read (K := K) (g := gName i) tg_name D σ H h
  have h2 := frzE (K := K) (t := tLc (IR K (mScr ns)) tg (RT K t) (RE K el) vs) (comp_read tk hj) σ H _ h1
  exact ⟨hS, h2⟩
/-- the end: return [[..][::-1], blend] -/
def RRet (K : PySem.W.Frag) (ml : M (List PyData)) (m : M PyData) : TS := fun D σ H => ∃ B F dl env ds xs b ds1 ds2, Rel K B F H dl σ env ds ∧ ml env ds = some (xs.map .int, ds1) ∧ m env ds1 = some (.int b, ds2) ∧
  ∀ p q H', p ≠ q → AtD p q H' (xs, b) → D.rt (.ref p) H'
theorem ps_rret {X : Cx} {e1 e2 : Expr} {p1 p2 : Pos} {ml : M (List PyData)} {m : M PyData} (h1 : PE X e1 (RN X.K ml)) (h2 : PE X e2 (RE X.K m))
    (hs1 : starEach (e1 :: [e2]) X.env = (false, eval e1 X.env) :: starEach [e2] X.env := by rfl) (hs2 : starEach (e2 :: []) X.env = (false, eval e2 X.env) :: starEach [] X.env := by rfl) :
    PS X (.Return (some (.List [e1, e2] p1)) p2) (RRet X.K ml m) :=
  ps_imp (ps_ret (pe_lst (pa_cons h1 (pa_cons h2 pa_nil hs2) hs1))) fun D σ H ⟨B, F, dl, env, ds, xs, b, ds1, ds2, rel, hm1, hm2, k⟩ => by
    refine ⟨B, F, dl, env, ds, xs.map .int, ds1, rel, hm1, fun q vs F1 H1 r1 g1 hq fq hq' d1 => ?_⟩
    refine ⟨B, F1, dl, env, ds1, .int b, ds2, r1, hm2, fun v F2 H2 r2 g2 d2 => ?_⟩
    cases d2
    refine ⟨by show 2 ≤ sizeLine; decide, fun p hp => ?_⟩
    have hvs := dvAll_ints_inv d1
    subst hvs
    have q2 : H2 q = some (.lst (xs.map V.int)) := g2.h _ _ hq' (rel.newD hq)
    have ne : p ≠ q := by
      rintro rfl
      rw [hp] at q2
      cases q2
    exact k p q _ ne ⟨upd_same, by rw [upd_ne (Ne.symm ne)]; exact q2⟩
/-- what _law_draw promises: the script may be anything -/
def spDraw (K : PySem.W.Frag) : Sp := fun vs H Q _ => ∃ (a : Addr) (ns : List Int) (salt : Int), vs = [.ref a, .int salt] ∧ 0 ≤ salt ∧ salt ≤ 1000 ∧ SqL K H a (ns.map V.int) ∧ ∀ p q c H', p ≠ q → AtD p q H' c → GoodD (some c) → Q (.ref p) H'
def m_drawEl : M PyData := eA fAbs [eA fInt [mVar 2]]
def m_drawS2 : SM := sAsg (tgN 4) (e2 dAdd (mr (.int 7919)) (e2 dMul (mr (.int 104729)) (mVar 1)))
def m_drawS3 : SM := sFor (mIt (mVar 3)) (tgN 2) (sAsg (tgN 4) (e2 dMod (eA fInt [e2 dAdd (e2 dAdd (e2 dMul (mVar 4) (mr (.int 48271))) (e2 dMod (mVar 2) (mr (.int 2147483549)))) (mr (.int 11))]) (mr (.int 2147483647))))
def m_drawR : M (List PyData) := mRev (mlst (mComp (mIt (mVar 3)) [2] (tgN 2) (t2 dGe (mVar 2) (e2 dPow (mr (.int 10)) (mr (.int 18)))) (mVar 2)))
def absI (i : Int) : Int := if i < 0 then -i else i
theorem draw_cells (ns : List Int) (salt : Int) : mlst (mComp (mScr ns) [2] (tgN 2) (mr true) m_drawEl) [.emp, .dat (.int salt), .emp, .emp, .emp] none = some (.list (((ns.take 48).map absI).map .int), none) := by
  have h : mComp (mScr ns) [2] (tgN 2) (mr true) m_drawEl [.emp, .dat (.int salt), .emp, .emp, .emp] none = some (((ns.take 48).map absI).map .int, none) := by
    unfold mComp
    rw [mb_of (x := (ns.take 48).map .int) (ds1 := none) rfl]
    rw [compL_map (fun d => match d with | .int i => .int (absI i) | d => d)]
    · rw [List.map_map, List.map_map]
      rfl
    · intro x hx
      obtain ⟨i, _, rfl⟩ := List.mem_map.mp hx
      exact ⟨_, rfl, rfl, rfl⟩
  unfold mlst
  rw [mb_of h]
  rfl
theorem draw_loop {salt : Int} (xs : List Int) (hl : xs.length ≤ 48) {b : Int} (hb0 : 0 ≤ b) (hb1 : b < 2147483647) : ∃ v b', m_drawS3 [.emp, .dat (.int salt), .emp, .dat (.list (xs.map .int)), .dat (.int b)] none = some (.nx, [.emp, .dat (.int salt), v, .dat (.list (xs.map .int)), .dat (.int b')], none) ∧ 0 ≤ b' ∧ b' < 2147483647 := by
  obtain ⟨env', ds', h1, h2⟩ := sForL_inv (f := tgN 2) (b := sAsg (tgN 4) (e2 dMod (eA fInt [e2 dAdd (e2 dAdd (e2 dMul (mVar 4) (mr (.int 48271))) (e2 dMod (mVar 2) (mr (.int 2147483549)))) (mr (.int 11))]) (mr (.int 2147483647))))
    (fun ys env ds => ds = none ∧ (∃ zs : List Int, ys = zs.map .int) ∧ ∃ v b, 0 ≤ b ∧ b < 2147483647 ∧ env = [.emp, .dat (.int salt), v, .dat (.list (xs.map .int)), .dat (.int b)]) (xs.map .int) [.emp, .dat (.int salt), .emp, .dat (.list (xs.map .int)), .dat (.int b)] none ⟨rfl, ⟨xs, rfl⟩, .emp, b, hb0, hb1, rfl⟩ (by
    rintro y ys env ds ⟨rfl, ⟨zs, hz⟩, v, b, b0, b1, rfl⟩
    cases zs with
    | nil => cases hz
    | cons z zs =>
      simp only [List.map_cons, List.cons.injEq] at hz
      obtain ⟨rfl, rfl⟩ := hz
      refine ⟨_, [.emp, .dat (.int salt), .dat (.int z), .dat (.list (xs.map .int)), .dat (.int ((b * 48271 + z % 2147483549 + 11) % 2147483647))], none, rfl, .inl ?_, rfl, ⟨zs, rfl⟩, _, _, Int.emod_nonneg _ (by decide), Int.emod_lt_of_pos _ (by decide), rfl⟩
      have q1 := mul_ok (k := 48271) b0 b1 (by decide) (by decide)
      have q2 : e2 dMod (eA fInt [e2 dAdd (e2 dAdd (e2 dMul (mVar 4) (mr (.int 48271))) (e2 dMod (mVar 2) (mr (.int 2147483549)))) (mr (.int 11))]) (mr (.int 2147483647)) [.emp, .dat (.int salt), .dat (.int z), .dat (.list (xs.map .int)), .dat (.int b)] none = some (.int ((b * 48271 + z % 2147483549 + 11) % 2147483647), none) :=
        e2_of (eA1_of (e2_of (e2_of (e2_of rfl rfl q1) rfl rfl) rfl rfl) rfl) rfl rfl
      unfold sAsg
      show (match e2 dMod (eA fInt [e2 dAdd (e2 dAdd (e2 dMul (mVar 4) (mr (.int 48271))) (e2 dMod (mVar 2) (mr (.int 2147483549)))) (mr (.int 11))]) (mr (.int 2147483647)) [.emp, .dat (.int salt), .dat (.int z), .dat (.list (xs.map .int)), .dat (.int b)] none with | none => none | some (d, ds1) => _) = _
      rw [q2]
      rfl)
  obtain ⟨rfl, _, v, b', c0, c1, rfl⟩ := h2
  exact ⟨v, b', h1, c0, c1⟩
theorem draw_rev {salt : Int} (v : Slot) (xs : List Int) (b : Int) : m_drawR [.emp, .dat (.int salt), v, .dat (.list (xs.map .int)), .dat (.int b)] none = some (((xs.filter fun z => decide (10 ^ 18 ≤ z)).reverse).map .int, none) := by
  have h : mComp (mIt (mVar 3)) [2] (tgN 2) (t2 dGe (mVar 2) (e2 dPow (mr (.int 10)) (mr (.int 18)))) (mVar 2) [.emp, .dat (.int salt), v, .dat (.list (xs.map .int)), .dat (.int b)] none = some ((xs.filter fun z => decide (10 ^ 18 ≤ z)).map .int, none) := by
    unfold mComp
    rw [mb_of (x := xs.map .int) (ds1 := none) rfl]
    rw [compL_filter (fun d => match d with | .int z => decide ((10 ^ 18 : Int) ≤ z) | _ => false) id]
    · rw [List.map_id, List.filter_map]
      rfl
    · intro x hx
      obtain ⟨i, _, rfl⟩ := List.mem_map.mp hx
      exact ⟨_, rfl, rfl, fun _ => rfl⟩
  unfold m_drawR mRev mlst
  rw [mb_of (x := .list ((xs.filter fun z => decide (10 ^ 18 ≤ z)).map .int)) (ds1 := none) (by rw [mb_of h]; rfl)]
  simp [mo]
theorem draw_ok {P : Program} {w : World} {K : PySem.W.Frag} {mg : Str → Option Value} {base : Heap} {k : Nat} {x qual : Str} {st : Stmt} {f : Addr} {fd : FuncData} {ps N : List Str} (F : Fun K x qual st f fd) (S : FnScope N ps (defScope st)) (hps : ps.length = 2) (hN : N.length = 5)
    (hbody : ∀ (cdv : Value) (A : Around) (outer : List Env) (s : Shared) (H : Hp) (E : XK) (ns : List Int), A.guards = some [] → Room k (A.deeper (envOfC qual (defScope st) s.heap.objs.size f cdv)) →
      PSs (cxOf CX0 P w K mg base N qual (defScope st) f cdv A outer s H E).nox (defBody st) (tSeq (tAsg (tLc (IRS K ns) (gName 2) (RT K (mr true)) (RE K m_drawEl) [2]) (gName 3)) (tSeq (RS K m_drawS2) (tSeq (RS K m_drawS3) (RRet K m_drawR (mVar 4)))))) :
    FnG P w K mg base CX0 (k + 1) f fd ps (spDraw K) := by
  refine fun_okG (CX := CX0) F S (fun vs H Q E ⟨a, ns, salt, e, _⟩ => by rw [e, hps]; rfl) fun cdv A outer s H vs Q E hG hr h => ?_
  obtain ⟨a, ns, salt, rfl, s0, s1, hS, q⟩ := h
  refine ⟨_, (hbody cdv A outer s H E ns hG hr).nox, ?_⟩
  have hst : L2.start N [V.ref a, .int salt] = [some (.ref a), some (.int salt), none, none, none] := by
    unfold L2.start
    rw [hN]
    rfl
  rw [hst]
  have rel : Rel K (fun _ => False) (fun _ => none) H none [some (.ref a), some (.int salt), none, none, none] [.emp, .dat (.int salt), .emp, .emp, .emp] none := by
    refine ⟨fun _ _ e => (nomatch e), fun _ z => False.elim z, rfl, fun i d e => ?_, fun i xs e => ?_, fun i j xs ys p _ e => ?_, .inl ⟨rfl, rfl⟩, fun i e => ?_⟩
    · match i, e with
      | 1, e =>
        cases e
        exact ⟨_, rfl, .int salt⟩
      | i + 5, e => cases e
    · match i, e with
      | i + 5, e => cases e
    · match i, e with
      | i + 5, e => cases e
    · match i, e with
      | i + 5, e => cases e
  refine scr_read (tk := tg_name) (by decide) _ _ _ ⟨a, rfl, hS⟩ ⟨_, _, _, _, _, .nx, [.emp, .dat (.int salt), .emp, .dat (.list (((ns.take 48).map absI).map .int)), .emp], none, rel, by unfold sAsg; rw [draw_cells]; rfl, fun σ1 F1 H1 r1 _ => ?_⟩
  have hl : ((ns.take 48).map absI).length ≤ 48 := by simp; omega
  generalize (ns.take 48).map absI = xs at r1 hl
  have hb : 7919 + 104729 * salt < 2147483647 ∧ 0 ≤ 7919 + 104729 * salt := by omega
  refine ⟨_, _, _, _, _, .nx, [.emp, .dat (.int salt), .emp, .dat (.list (xs.map .int)), .dat (.int (7919 + 104729 * salt))], none, r1, ?_, fun σ2 F2 H2 r2 _ => ?_⟩
  · have q1 := mul_ok (b := 104729) (k := salt) (by decide) (by decide) s0 (by omega)
    have q2 : e2 dAdd (mr (.int 7919)) (e2 dMul (mr (.int 104729)) (mVar 1)) [.emp, .dat (.int salt), .emp, .dat (.list (xs.map .int)), .emp] none = some (.int (7919 + 104729 * salt), none) := e2_of rfl (e2_of rfl rfl q1) rfl
    unfold m_drawS2 sAsg
    rw [q2]
    rfl
  generalize 7919 + 104729 * salt = b at r2 hb
  obtain ⟨v, b', e1, c0, c1⟩ := draw_loop (salt := salt) xs hl hb.2 hb.1
  refine ⟨_, _, _, _, _, .nx, _, none, r2, e1, fun σ3 F3 H3 r3 _ => ?_⟩
  refine ⟨_, _, _, _, _, _, b', none, none, r3, draw_rev v xs b', rfl, fun p qq H' ne hat => ?_⟩
  refine q p qq _ H' ne hat ⟨_, _, rfl, ?_, c0, c1⟩
  rw [List.length_reverse]
  exact Nat.le_trans (List.length_filter_le _ _) hl

/-! ### law -/
def spLaw (K : PySem.W.Frag) : Sp := fun vs H Q _ => ∃ (a : Addr) (ns : List Int), vs = [.ref a] ∧ SqL K H a (ns.map V.int) ∧ ∀ H', Q (.bl true) H'
def envL (N : Nat) : En := .emp :: .deal :: List.replicate (N - 2) .emp
/-- whatever is drawn, the answer is True -/
def LawOk (N : Nat) (m : SM) : Prop := ∀ c, GoodD (some c) → ∃ env' ds', m (envL N) (some c) = some (.rt (.bool true), env', ds')
theorem law_ok {P : Program} {w : World} {K : PySem.W.Frag} {mg : Str → Option Value} {base : Heap} {k : Nat} {x qual : Str} {st : Stmt} {f : Addr} {fd : FuncData} {ps N : List Str} {m : SM} {salt : Int} (F : Fun K x qual st f fd) (S : FnScope N ps (defScope st)) (hps : ps.length = 1) (hN : 2 ≤ N.length)
    (h0 : 0 ≤ salt) (h1 : salt ≤ 1000) (hm : LawOk N.length m)
    (hbody : ∀ (cdv : Value) (A : Around) (outer : List Env) (s : Shared) (H : Hp) (E : XK), A.guards = some [] → Room k (A.deeper (envOfC qual (defScope st) s.heap.objs.size f cdv)) →
      PSs (cxOf CX0 P w K mg base N qual (defScope st) f cdv A outer s H E).nox (defBody st) (tSeq (tAsg (tCallP 2 0 [0, 1] (spDraw K) (tCons (tVar 0) (tCons (tC (.int salt)) tNil)) tNil) (gName 1)) (RS K m))) :
    FnG P w K mg base CX0 (k + 1) f fd ps (spLaw K) := by
  refine fun_okG (CX := CX0) F S (fun vs H Q E ⟨a, ns, e, _⟩ => by rw [e, hps]; rfl) fun cdv A outer s H vs Q E hG hr h => ?_
  obtain ⟨a, ns, rfl, hS, q⟩ := h
  refine ⟨_, (hbody cdv A outer s H E hG hr).nox, ?_⟩
  have hst : L2.start N [V.ref a] = some (.ref a) :: none :: List.replicate (N.length - 2) none := by
    unfold L2.start
    show some (V.ref a) :: List.replicate (N.length - 1) none = _
    rw [show N.length - 1 = (N.length - 2) + 1 by omega]
    rfl
  rw [hst]
  refine ⟨.ref a, rfl, rfl, rfl, a, ns, salt, rfl, h0, h1, hS, fun p qq c H' ne hat good => ?_⟩
  obtain ⟨env', ds', hr'⟩ := hm c good
  have rel : Rel K (fun _ => False) (fun _ => none) H' (some (p, qq)) (some (.ref a) :: some (.ref p) :: List.replicate (N.length - 2) none) (envL N.length) (some c) := by
    have rep : ∀ {i : Nat} {s : Slot}, (envL N.length)[i]? = some s → s ≠ .emp → i = 1 ∧ s = .deal := fun {i s} e hs => by
      match i, e with
      | 0, e => cases e; exact absurd rfl hs
      | 1, e => cases e; exact ⟨rfl, rfl⟩
      | i + 2, e => exact absurd (List.eq_of_mem_replicate (List.mem_of_getElem? (l := List.replicate (N.length - 2) Slot.emp) (i := i) e)) hs
    refine ⟨fun _ _ e => (nomatch e), fun _ z => False.elim z, by simp [envL], fun i d e => ?_, fun i xs e => ?_, fun i j xs ys p _ e => ?_, .inr ⟨p, qq, c.1, c.2, rfl, rfl, ne, hat.1, hat.2, rfl, rfl, fun z => z, fun z => z⟩, fun i e => ?_⟩
    · cases (rep e (fun z => nomatch z)).2
    · cases (rep e (fun z => nomatch z)).2
    · cases (rep e (fun z => nomatch z)).2
    · obtain ⟨rfl, _⟩ := rep e (fun z => nomatch z)
      exact ⟨p, qq, rfl, rfl⟩
  refine ⟨_, _, _, _, _, _, env', ds', rel, hr', fun σ2 F2 H2 r2 g2 v dv => ?_⟩
  cases dv
  exact q H2
end DL

set_option Elab.async false
set_option linter.all false
set_option maxRecDepth 100000
set_option maxHeartbeats 2000000
/-! Dl12: further expressions -/
namespace DL
open PySem PySem.Spec PyProof.Rows L2
section
variable {X : Cx} {a b c e : Expr} {pos apos : Pos} {m m1 m2 m3 : M PyData}
theorem e1_some {f : PyData → Option PyData} {env : En} {ds ds' : DS} {z : PyData} (h : e1 f m env ds = some (z, ds')) : ∃ d, m env ds = some (d, ds') ∧ f d = some z := by
  obtain ⟨d, ds1, h1, h2⟩ := mb_some h
  obtain ⟨h3, rfl⟩ := mo_some h2
  exact ⟨d, h1, h3⟩
theorem dx_neg (h : PE X e (RE X.K m)) : PE X (.UnaryOp .USub e pos) (RE X.K (e1 dNeg m)) := pe_imp (pe_un un_neg h) fun σ H Q ⟨B, F, dl, env, ds, z, ds', rel, hm, k⟩ => by
  obtain ⟨d, h1, h2⟩ := e1_some hm
  cases d with
  | int i =>
    cases h2
    refine ⟨B, F, dl, env, ds, .int i, _, rel, h1, fun v F' H' r g dv => ?_⟩
    cases dv
    exact ⟨i, rfl, k _ F' H' r g (.int _)⟩
  | _ => cases h2
theorem dx_chain {op op' : CmpOp} {r r' : R2} {f g : PyData → PyData → Option Bool} (ho : OpR X (compareOp op) r) (ho' : OpR X (compareOp op') r') (o : O2B X.K r f) (o' : O2B X.K r' g) (ha : PE X a (RB X.K m1)) (hb : PE X b (RB X.K m2)) (hc : PE X c (RB X.K m3))
    (hm : lastMarks [op, op'] [b, c] = false := by with_unfolding_all rfl) : PE X (.Compare a [op, op'] [b, c] pos) (RE X.K (bv (t3 f g m1 m2 m3))) :=
  pe_imp (pe_chain ho ho' ha hb hc hm) fun σ H Q ⟨B, F, dl, env, ds, zz, ds', rel, hmm, k⟩ => by
    obtain ⟨z, hm2, rfl⟩ := bv_some hmm
    obtain ⟨d, ds1, h1, h2⟩ := mb_some hm2
    obtain ⟨e, ds2, h3, h4⟩ := mb_some h2
    obtain ⟨w, ds3, h5, h6⟩ := mb_some h4
    obtain ⟨h7, rfl⟩ := mo_some h5
    refine ⟨B, F, dl, env, ds, d, ds1, rel, h1, fun x F1 H1 rel1 g1 b1 => ⟨B, F1, dl, env, ds1, e, ds3, rel1, h3, fun y F2 H2 rel2 g2 b2 => ?_⟩⟩
    refine o dl F2 H2 x y d e w rel2.ex (b1.mono g2) b2 h7 _ ⟨w, rfl, ?_⟩
    cases w with
    | true =>
      rw [if_pos rfl] at h6
      obtain ⟨u, ds4, h8, h9⟩ := mb_some h6
      obtain ⟨h10, rfl⟩ := mo_some h9
      rw [if_pos rfl]
      refine ⟨B, F2, dl, env, ds3, u, _, rel2, h8, fun z' F3 H3 rel3 g3 b3 => ?_⟩
      exact o' dl F3 H3 y z' e u z rel3.ex (b2.mono g3) b3 h10 _ (k _ F3 H3 rel3 ((g1.trans g2).trans g3) (.bl z))
    | false =>
      rw [if_neg Bool.false_ne_true] at h6
      obtain ⟨rfl, rfl⟩ := mr_some h6
      rw [if_neg Bool.false_ne_true]
      exact k _ F2 H2 rel2 (g1.trans g2) (.bl false)
theorem dt_chain2 {op op' : CmpOp} {r r' : R2} {f g : PyData → PyData → Option Bool} (ho : OpR X (compareOp op) r) (ho' : OpR X (compareOp op') r') (o : O2B X.K r f) (o' : O2B X.K r' g) (ha : PE X a (RB X.K m1)) (hb : PE X b (RB X.K m2)) (hc : PE X c (RB X.K m3))
    (hm : lastMarks [op, op'] [b, c] = false := by with_unfolding_all rfl) : PT X (.Compare a [op, op'] [b, c] pos) (RT X.K (t3 f g m1 m2 m3)) := dt_chain ho ho' o o' ha hb hc (pt_chain ho ho' ha hb hc hm)
/-! ### isinstance -/
def bv_isi (T : String) (m : M PyData) : M PyData := e1 (fun d => some (.bool (isTy T d))) m
/-! ### texts -/
def dJoin : PyData → PyData → Option PyData
  | .str a, .list xs => match strsOf xs with
    | some ys => if (ys.map (·.length)).sum + ys.length * a.length ≤ 16777216 then some (.str (Txt.join a ys)) else none
    | none => none
  | .str a, .tuple xs => match strsOf xs with
    | some ys => if (ys.map (·.length)).sum + ys.length * a.length ≤ 16777216 then some (.str (Txt.join a ys)) else none
    | none => none
  | _, _ => none
theorem dx_join (ho : PE X e (RE X.K m1)) (ha : PE X a (RE X.K m2)) (hs : starEach [a] X.env = [(false, eval a X.env)] := by rfl) (hbase : attributeBase e "join" X.env (eval e X.env) = eval e X.env := by rfl) (hline : (apos.endLine == pos.line) = true := by rfl) :
    PE X (.Call (.Attribute e "join" apos) [a] [] pos) (RE X.K (e2 dJoin m1 m2)) :=
  pe_imp (pe_join ho ha hs hbase hline) fun σ H Q ⟨B, F, dl, env, ds, z, ds', rel, hm, k⟩ => by
    obtain ⟨d, ds1, e, h1, h2, h3⟩ := e2_some hm
    refine ⟨B, F, dl, env, ds, d, ds1, rel, h1, fun x F1 H1 r1 g1 b1 => ?_⟩
    unfold dJoin at h3
    split at h3
    · rename_i a xs
      split at h3
      · rename_i ys hys
        split at h3
        · rename_i hz
          cases h3
          cases b1
          refine ⟨⟨a, rfl⟩, B, F1, dl, env, ds1, .list xs, _, r1, h2, fun y F2 H2 r2 g2 b2 => ?_⟩
          cases b2 with
          | lst q1 q2 =>
            rw [strsOf_some hys] at q2
            have := dvAll_strs_inv q2
            subst this
            exact ⟨a, _, ys, rfl, rfl, .inl (SqL.of (r2.ex _ _ q1)), hz, k _ F2 H2 r2 (g1.trans g2) (.str _)⟩
        · cases h3
      · cases h3
    · rename_i a xs
      split at h3
      · rename_i ys hys
        split at h3
        · rename_i hz
          cases h3
          cases b1
          refine ⟨⟨a, rfl⟩, B, F1, dl, env, ds1, .tuple xs, _, r1, h2, fun y F2 H2 r2 g2 b2 => ?_⟩
          cases b2 with
          | tup q1 q2 =>
            rw [strsOf_some hys] at q2
            have := dvAll_strs_inv q2
            subst this
            exact ⟨a, _, ys, rfl, rfl, .inr (seqT_mono r2.ex q1), hz, k _ F2 H2 r2 (g1.trans g2) (.str _)⟩
        · cases h3
      · cases h3
    · cases h3
theorem dx_call0 {ps : List Str} {ix : List Nat} {mk : List (M PyData)} {f : List PyData → Option PyData} (h : PE X e (tCallP 0 mk.length ix (spD X.K ps.length f) tNil (RAs X.K mk))) (hn : ix.length = ps.length := by rfl) (hix : ∀ i ∈ ix, i < mk.length := by decide) : PE X e (RE X.K (eCall f ix [] mk)) :=
  pe_imp h fun σ H Q q => by
    obtain ⟨B, F, dl, env, ds, xs, ds', rel, hm, k⟩ := call_read (ps := ps) (ms := []) hn (by simpa using hix) σ H Q q
    obtain ⟨rfl, rfl⟩ := mr_some hm
    exact k [] F H rel (Gr.refl rel.ex) .nil
end
end DL

set_option Elab.async false
set_option linter.all false
set_option maxRecDepth 100000
set_option maxHeartbeats 2000000
/-! Dl13: enumerate over a text -/
namespace DL
open PySem PySem.Spec PyProof.Rows L2

/-- the signs of z, each with its place, in new pairs -/
def Ites (z : Str) : It where
  go := fun i _ => i < z.cps.size
  yld := fun i Ha v Hb => ∃ T c, v = V.ref T ∧ Ha T = none ∧ z.cps[i]? = some c ∧ Hb = upd Ha T (.tup [.int (i : Nat), .str (sign c)])
  stop := fun i _ => i = z.cps.size
def EnS (z : Str) (t : Tok) (e q : Addr) (i : Nat) (h : Heap) : Prop := e ≠ q ∧ (∃ was, IsEnum h e q ((i : Nat) : Int) was) ∧ h.IsStrIter q (strIterType z) z t i
theorem turn_enumS {P : Program} {w : World} {K : PySem.W.Frag} {es : List Expr} {k1 : Nat} {p1 : Pos} (z : Str) (t : Tok) (e q : Addr) : Turn P w K (.Tuple es k1 p1) (Ites z) [e, q] e (EnS z t e q) where
  mem := List.mem_cons_self
  obj := fun i h ⟨_, ⟨was, h1⟩, ⟨o, h2, h3, h4⟩⟩ b hb => by
    rcases List.mem_cons.mp hb with rfl | hb
    · exact ⟨_, h1, fun v z => nomatch z⟩
    · rw [List.mem_singleton.mp hb]
      exact ⟨o, h2, fun v z => by rw [h4] at z; cases z⟩
  keep := fun i h g ⟨ne, ⟨was, h1⟩, ⟨o, h2, h3⟩⟩ kp => ⟨ne, ⟨was, kp e List.mem_cons_self _ h1⟩, ⟨o, kp q (List.mem_cons_of_mem _ List.mem_cons_self) _ h2, h3⟩⟩
  item := by
    rintro X rfl rfl rfl hc i pins s σ H E I hf ⟨ne, ⟨was, h1⟩, hst⟩ hgo
    have D := Draws.text (prog := X.prog) (w := X.w) (A := X.A.in1) (I.ok.hd hc) q z t
    have el : e < s.heap.objs.size := Heap.lt_size h1
    have ql : q < s.heap.objs.size := by
      obtain ⟨o, h2, _⟩ := hst
      exact Heap.lt_size h2
    refine wpAny_pyNext_enum_itemC D h1 hst hgo ne (fun y => ne (List.mem_singleton.mp y)) fun x g tk hx ho hn hT hsz kp => ?_
    obtain ⟨c, u, hzc, rfl⟩ := hx
    refine ⟨_, rfl, wpAny_letOwnedTupleGo_enum (s := { s with heap := g, toks := tk + 1 }) ho fun g2 he2 sb => ?_⟩
    have tup2 : g2.get? s.heap.objs.size = some { cls := .type "tuple", data := .seq #[.int i tk, .str ⟨#[c]⟩ u] } := by
      rw [sb.2 _ (Nat.ne_of_gt el)]
      exact hT
    have vals : Vals [V.int ((i : Nat) : Int), .str (sign c)] [.int i tk, .str ⟨#[c]⟩ u] := .cons ⟨_, rfl⟩ (.cons ⟨_, rfl⟩ .nil)
    have okT : ObjOk X.prog X.w (upd H s.heap.objs.size (.tup [.int (i : Nat), .str (sign c)])) g2 s.heap.objs.size (.tup [.int (i : Nat), .str (sign c)]) := ⟨by show 2 ≤ sizeLine; decide, _, vals, ⟨_, tup2, rfl, _, rfl⟩⟩
    have I2 : Inv X pins σ (upd H s.heap.objs.size (.tup [.int (i : Nat), .str (sign c)])) { s with heap := g2, toks := tk + 1 } := by
      refine I.turnedNew (ch := [e, q]) (fun b ob hb w => ?_) hf (Nat.le_refl _) okT
      have b1 : b ≠ e := fun y => hb (y ▸ List.mem_cons_self)
      have b2 : b ≠ q := fun y => hb (y ▸ List.mem_cons_of_mem _ List.mem_cons_self)
      rw [sb.2 b b1]
      exact kp b ob b1 b2 w
    refine ⟨.ref s.heap.objs.size, _, I2, rfl, ⟨_, c, rfl, I.hok.fresh (Nat.le_refl _), hzc, rfl⟩, ⟨ne, ⟨.str ⟨#[c]⟩ u, ?_⟩, ?_⟩, fun b hb => ?_⟩
    · have e1 : ((i + 1 : Nat) : Int) = (i : Int) + 1 := rfl
      rw [e1]
      exact he2
    · exact D.frame _ _ _ hn fun b hb o w => by
        have : b = q := List.mem_singleton.mp hb
        rw [sb.2 b (this ▸ Ne.symm ne)]
        exact w
    · have lt : b < s.heap.objs.size := by
        rcases List.mem_cons.mp hb with rfl | y
        · exact el
        · rw [List.mem_singleton.mp y]
          exact ql
      rw [upd_ne (Nat.ne_of_lt lt)]
      exact (hf b hb).1
  done := by
    rintro X rfl rfl rfl hc i pins s σ H E I hf ⟨ne, ⟨was, h1⟩, hst⟩ hgo
    have D := Draws.text (prog := X.prog) (w := X.w) (A := X.A.in1) (I.ok.hd hc) q z t
    obtain ⟨f0, f1, f2, f3, f4, f5⟩ := hf q (List.mem_cons_of_mem _ List.mem_cons_self)
    have hi : i = z.cps.size := hgo
    subst hi
    exact wpAny_pyNext_enum_endD D h1 hst fun g eb => ⟨rfl, I.turned (t' := s.toks) (fun b ob hb w => eb b ob hb w) f0 f1 f3 f4 f5⟩
  self := fun A i s Q E ⟨_, ⟨_, h1⟩, _⟩ h => wpAny_pyIter_enum h1 h
/-- enumerate(v), v's iterator being o: its two new objects -/
theorem enum_new1 {v : Value} {o : Obj} {G : Heap → Prop} (B : Begins v o G) : Meets (Builtin.«enumerate.__new__» ⟨[.type "enumerate", v], []⟩) fun _ R s =>
    G s.heap ∧ R (.ok (.ret (.ref (s.heap.push o).objs.size))) { s with heap := (s.heap.push o).push { cls := .type "enumerate", data := .fields #[.none, .bool false, .ref s.heap.objs.size, rawInt 0, .none, .none] } } :=
  .of_wp fun P w A R s hs => by
    obtain ⟨hp, gs, dr, tk, os⟩ := s
    obtain ⟨hG, hR⟩ := hs
    have hsub := sub_enumerate
    have go : ∀ {A' : Around} {E : Value → Shared → Prop} {Q : Value → Shared → Prop}, Q (.ref hp.objs.size) ⟨hp.push o, gs, dr, tk, os⟩ → wpAny (model P w) A' (pyIter v) Q E ⟨hp, gs, dr, tk, os⟩ := fun y => B.iter P w _ _ ⟨hp, gs, dr, tk, os⟩ _ hG y
    wp_walk using go
    refine wpAny_stack_any fun stk => wpAny_pure ?_
    split
    · rename_i c0 _ _ _ _ _
      cases (c0 == Value.type "enumerate") <;> (wp_walk using go; exact ⟨_, rfl, hR⟩)
    · wp_walk using go
      exact ⟨_, rfl, hR⟩
theorem enum_call1 {P : Program} {w : World} {A : Around} {E : Value → Shared → Prop} {s : Shared} {v : Value} {o : Obj} {G : Heap → Prop} {Q : Value → Shared → Prop} (B : Begins v o G) (hG : G s.heap)
    (h : ∀ g, IsEnum g (s.heap.objs.size + 1) s.heap.objs.size ((0 : Nat) : Int) .none → g.get? s.heap.objs.size = some o → (∀ b u, s.heap.get? b = some u → g.get? b = some u) → Q (.ref (s.heap.objs.size + 1)) { s with heap := g }) :
    wpAny (model P w) A (call (.type "enumerate") [v]) Q E s := by
  refine callType_new F.called_enumerate (by decide) (F.typeCall_enumerate_1 _) (F.newCall_enumerate_1 _) (fun obj => F.args_object_init_2 obj _) F.entry_enumerate_new (enum_new1 B) ⟨hG, ?_⟩
  have sz : (s.heap.push o).objs.size = s.heap.objs.size + 1 := Heap.size_push ..
  have at1 := Heap.get?_push_size (s.heap.push o) (o := { cls := .type "enumerate", data := .fields #[.none, .bool false, .ref s.heap.objs.size, rawInt 0, .none, .none] }) rfl
  rw [sz] at at1
  show _ ∧ _
  rw [sz]
  exact ⟨⟨_, at1, rfl⟩, h _ at1 (Heap.get?_push_of_some _ (Heap.get?_push_size _ B.free)) fun b u y => Heap.get?_push_of_some _ (Heap.get?_push_of_some _ y)⟩
/-- the items of a tuple, each with its place -/
def Itet (K : PySem.W.Frag) (a : Addr) : It where
  go := fun i H => ∃ xs x, SqT K H a xs ∧ xs[i]? = some x
  yld := fun i Ha v Hb => ∃ T x, v = V.ref T ∧ Ha T = none ∧ (∀ xs, SqT K Ha a xs → xs[i]? = some x) ∧ Hb = upd Ha T (.tup [.int (i : Nat), x])
  stop := fun i H => ∃ xs, SqT K H a xs ∧ i = xs.length
def EnT (a e q : Addr) (i : Nat) (h : Heap) : Prop := e ≠ q ∧ (∃ was, IsEnum h e q ((i : Nat) : Int) was) ∧ h.IsTupleIter q a i
theorem tup_apart {h : Heap} {a q e : Addr} {i : Nat} {n : Int} {was : Value} {its : Array Value} (ht : h.IsTuple a its) (h1 : IsEnum h e q n was) (hst : h.IsTupleIter q a i) : a ≠ q ∧ a ≠ e := by
  obtain ⟨o1, e1, c1, _⟩ := ht
  refine ⟨?_, ?_⟩
  · rintro rfl
    obtain ⟨o2, e2, c2, _⟩ := hst
    rw [e1] at e2
    cases e2
    rw [c1] at c2
    injection c2 with c2
    revert c2
    decide
  · rintro rfl
    have e2 := h1
    unfold IsEnum at e2
    rw [e1] at e2
    cases e2
    injection c1 with c1
    revert c1
    decide
theorem turn_enumT {P : Program} {w : World} {K : PySem.W.Frag} {es : List Expr} {k1 : Nat} {p1 : Pos} (a e q : Addr) : Turn P w K (.Tuple es k1 p1) (Itet K a) [e, q] e (EnT a e q) where
  mem := List.mem_cons_self
  obj := fun i h ⟨_, ⟨was, h1⟩, ⟨o, h2, h3, h4⟩⟩ b hb => by
    rcases List.mem_cons.mp hb with rfl | hb
    · exact ⟨_, h1, fun v z => nomatch z⟩
    · rw [List.mem_singleton.mp hb]
      exact ⟨o, h2, fun v z => by rw [h4] at z; cases z⟩
  keep := fun i h g ⟨ne, ⟨was, h1⟩, ⟨o, h2, h3⟩⟩ kp => ⟨ne, ⟨was, kp e List.mem_cons_self _ h1⟩, ⟨o, kp q (List.mem_cons_of_mem _ List.mem_cons_self) _ h2, h3⟩⟩
  item := by
    rintro X rfl rfl rfl hc i pins s σ H E I hf ⟨ne, ⟨was, h1⟩, hst⟩ ⟨xs, x0, hq, hx0⟩
    obtain ⟨its, rv, ht, hz⟩ := I.tuple hq
    obtain ⟨v0, hv0, rx0⟩ := rv.get hx0
    have ap := tup_apart ht h1 hst
    have D := Draws.tuple (prog := X.prog) (w := X.w) (A := X.A.in1) (I.ok.hd hc) q a ap.1 its.toArray
    have el : e < s.heap.objs.size := Heap.lt_size h1
    have ql : q < s.heap.objs.size := by
      obtain ⟨o, h2, _⟩ := hst
      exact Heap.lt_size h2
    have lt : i < its.toArray.size := by
      have := (List.getElem?_eq_some_iff.mp hv0).1
      simpa using this
    refine wpAny_pyNext_enum_itemC D h1 ⟨hst, ht⟩ lt ne (fun y => ?_) fun x g tk hx ho hn hT hsz kp => ?_
    · rcases List.mem_cons.mp y with y | y
      · exact ne y
      · exact ap.2 (List.mem_singleton.mp y).symm
    have ex : x = v0 := by
      have hx2 : its.toArray[i]? = some x := hx
      have : its[i]? = some x := by simpa using hx2
      rw [hv0] at this
      exact (Option.some.inj this).symm
    subst ex
    refine ⟨_, rfl, wpAny_letOwnedTupleGo_enum (s := { s with heap := g, toks := tk + 1 }) ho fun g2 he2 sb => ?_⟩
    have tup2 : g2.get? s.heap.objs.size = some { cls := .type "tuple", data := .seq #[.int i tk, x] } := by
      rw [sb.2 _ (Nat.ne_of_gt el)]
      exact hT
    have vals : Vals [V.int ((i : Nat) : Int), x0] [.int i tk, x] := .cons ⟨_, rfl⟩ (.cons rx0 .nil)
    have okT : ObjOk X.prog X.w (upd H s.heap.objs.size (.tup [.int (i : Nat), x0])) g2 s.heap.objs.size (.tup [.int (i : Nat), x0]) := ⟨by show 2 ≤ sizeLine; decide, _, vals, ⟨_, tup2, rfl, _, rfl⟩⟩
    have I2 : Inv X pins σ (upd H s.heap.objs.size (.tup [.int (i : Nat), x0])) { s with heap := g2, toks := tk + 1 } := by
      refine I.turnedNew (ch := [e, q]) (fun b ob hb w => ?_) hf (Nat.le_refl _) okT
      have b1 : b ≠ e := fun y => hb (y ▸ List.mem_cons_self)
      have b2 : b ≠ q := fun y => hb (y ▸ List.mem_cons_of_mem _ List.mem_cons_self)
      rw [sb.2 b b1]
      exact kp b ob b1 b2 w
    refine ⟨.ref s.heap.objs.size, _, I2, rfl, ⟨_, x0, rfl, I.hok.fresh (Nat.le_refl _), fun ys hy => ?_, rfl⟩, ⟨ne, ⟨x, ?_⟩, ?_⟩, fun b hb => ?_⟩
    · rw [I.tuple_inj hy hq]
      exact hx0
    · have e1 : ((i + 1 : Nat) : Int) = (i : Int) + 1 := rfl
      rw [e1]
      exact he2
    · obtain ⟨o, w1, w2⟩ := hn.1
      exact ⟨o, by rw [sb.2 q (Ne.symm ne)]; exact w1, w2⟩
    · have lt : b < s.heap.objs.size := by
        rcases List.mem_cons.mp hb with rfl | y
        · exact el
        · rw [List.mem_singleton.mp y]
          exact ql
      rw [upd_ne (Nat.ne_of_lt lt)]
      exact (hf b hb).1
  done := by
    rintro X rfl rfl rfl hc i pins s σ H E I hf ⟨ne, ⟨was, h1⟩, hst⟩ ⟨xs, hq, hi⟩
    obtain ⟨its, rv, ht, hz⟩ := I.tuple hq
    have ap := tup_apart ht h1 hst
    have D := Draws.tuple (prog := X.prog) (w := X.w) (A := X.A.in1) (I.ok.hd hc) q a ap.1 its.toArray
    obtain ⟨f0, f1, f2, f3, f4, f5⟩ := hf q (List.mem_cons_of_mem _ List.mem_cons_self)
    have sz : its.toArray.size = i := by
      rw [hi, rv.length]
      simp
    exact wpAny_pyNext_enum_endD D h1 (by rw [sz]; exact ⟨hst, ht⟩) fun g eb => ⟨rfl, I.turned (t' := s.toks) (fun b ob hb w => eb b ob hb w) f0 f1 f3 f4 f5⟩
  self := fun A i s Q E ⟨_, ⟨_, h1⟩, _⟩ h => wpAny_pyIter_enum h1 h
/-! ### the rules -/
def iEnumS (ta : TA) : TI := fun σ H R => ta σ H fun vs H1 => ∃ z, vs = [.str z] ∧ R (Ites z) H1
def iEnumT (K : PySem.W.Frag) (ta : TA) : TI := fun σ H R => ta σ H fun vs H1 => ∃ a xs, vs = [.ref a] ∧ SqT K H1 a xs ∧ R (Itet K a) H1
section
variable {X : Cx} {e : Expr} {ta : TA} {p pos tpos : Pos} {elts : List Expr} {kk : Nat} {m : M PyData}
theorem two_fp {pins : List (Addr × Obj)} {σ : L2.St} {H : Hp} {s : Shared} (I : Inv X pins σ H s) : ∀ b ∈ [s.heap.objs.size + 1, s.heap.objs.size], FpOk X pins H b := fun b hb => by
  have ge : s.heap.objs.size ≤ b := by
    rcases List.mem_cons.mp hb with rfl | y
    · exact Nat.le_add_right _ _
    · rw [List.mem_singleton.mp y]
      exact Nat.le_refl _
  exact I.fpOk ge (I.hok.fresh ge)
theorem pi_enumS (hg : Gl X "enumerate") (hm : X.mg "enumerate" = none) (ha : PA X [e] ta) (hs : starEach [e] X.env = [(false, eval e X.env)] := by rfl) : PI X (.Tuple elts kk tpos) (.Call (.Name "enumerate" p) [e] [] pos) (iEnumS ta) where
  run := fun pins s σ H R I h => by
    refine Call_ (ld_blt I hg hm boot_enumerate (PyProof.Rows.callWith_type1 (thn (ha.run pos pins s σ H _ I h) ?_) hs rfl))
    rintro us s1 ⟨vs, H1, I1, r1, z, rfl, q⟩
    obtain ⟨u, rfl, ru⟩ := r1.one
    obtain ⟨t, rfl⟩ := ru
    refine enum_call1 (begins_text z t) True.intro fun g he hit kp => wpAny_pyIter_enum he ?_
    have I2 : Inv X pins σ H1 { s1 with heap := g } := I1.kept (t' := s1.toks) kp
    exact ⟨_, _, _, _, H1, rfl, I2, turn_enumS z t (s1.heap.objs.size + 1) s1.heap.objs.size, ⟨Nat.succ_ne_self _, ⟨.none, he⟩, ⟨_, hit, rfl, rfl⟩⟩, two_fp I1, q⟩
theorem pi_enumT (hg : Gl X "enumerate") (hm : X.mg "enumerate" = none) (ha : PA X [e] ta) (hs : starEach [e] X.env = [(false, eval e X.env)] := by rfl) : PI X (.Tuple elts kk tpos) (.Call (.Name "enumerate" p) [e] [] pos) (iEnumT X.K ta) where
  run := fun pins s σ H R I h => by
    refine Call_ (ld_blt I hg hm boot_enumerate (PyProof.Rows.callWith_type1 (thn (ha.run pos pins s σ H _ I h) ?_) hs rfl))
    rintro us s1 ⟨vs, H1, I1, r1, a, xs, rfl, hq, q⟩
    obtain ⟨u, rfl, ru⟩ := r1.one
    cases ru
    obtain ⟨its, rv, ht, hz⟩ := I1.tuple hq
    refine enum_call1 (begins_tuple a its.toArray) ht fun g he hit kp => wpAny_pyIter_enum he ?_
    have I2 : Inv X pins σ H1 { s1 with heap := g } := I1.kept (t' := s1.toks) kp
    exact ⟨_, _, _, _, H1, rfl, I2, turn_enumT a (s1.heap.objs.size + 1) s1.heap.objs.size, ⟨Nat.succ_ne_self _, ⟨.none, he⟩, ⟨_, hit, rfl, rfl⟩⟩, two_fp I1, q⟩
theorem walkD_enumS {K : PySem.W.Frag} {F : Hp} {z : Str} : WalkD K F (Ites z) (pairsFrom 0 (signsOf z)) := by
  have hl : (pairsFrom 0 (signsOf z)).length = z.cps.size := by simp [pairsFrom_len, signsOf]
  refine ⟨fun _ => True, (Ites z).yld, ?_, fun _ _ => True.intro, fun i H x H' F1 hi e1 e2 y => ?_⟩
  · rw [hl]
    exact ⟨fun _ _ hi _ => hi, fun _ _ => rfl, fun _ _ _ _ _ _ y => y⟩
  · obtain ⟨T, c, rfl, hT, hc, rfl⟩ := y
    obtain ⟨g, dv⟩ := new_pair e2 hT (.int (i : Nat)) (.str (sign c))
    refine ⟨_, _, ?_, g, dv⟩
    have h1 : (signsOf z)[i]? = some (.str (sign c)) := by
      have : z.cps.toList[i]? = some c := by simpa using hc
      simp [signsOf, this]
    have := pairsFrom_get 0 (signsOf z) i _ h1
    rw [Nat.zero_add] at this
    exact this
theorem walkD_enumT {K : PySem.W.Frag} {F : Hp} {a : Addr} {vs : List V} {xs : List PyData} (h : SqT K F a vs) (hd : DvAll K F vs xs) : WalkD K F (Itet K a) (pairsFrom 0 xs) := by
  refine ⟨fun H => SqT K H a vs, (Itet K a).yld, ?_, fun H e => seqT_mono e h, fun i H x H' F1 hi e1 e2 y => ?_⟩
  · rw [pairsFrom_len, ← hd.length]
    refine ⟨fun i H hi q => ⟨vs, vs[i], q, List.getElem?_eq_getElem hi⟩, fun H q => ⟨vs, q, rfl⟩, fun _ _ _ _ _ _ y => y⟩
  · obtain ⟨T, x0, rfl, hT, hx, rfl⟩ := y
    have hx0 := hx vs (seqT_mono (e1.trans e2) h)
    obtain ⟨d, h1, h2⟩ := hd.getV hx0
    obtain ⟨g, dv⟩ := new_pair e2 hT (.int (i : Nat)) (dv_mono e1 d _ h2)
    refine ⟨_, _, ?_, g, dv⟩
    have := pairsFrom_get 0 xs i d h1
    rw [Nat.zero_add] at this
    exact this
/-- enumerate of a list, a tuple or a text -/
def enumD (d : PyData) : Option (List PyData) := (itemsD d).map (pairsFrom 0)
def mEnumA (m : M PyData) : M (List PyData) := mb m fun d => mo (enumD d)
theorem di_enumA (hg : Gl X "enumerate") (hm : X.mg "enumerate" = none) (h : PE X e (RE X.K m)) (hs : starEach [e] X.env = [(false, eval e X.env)] := by rfl) :
    PI X (.Tuple elts kk tpos) (.Call (.Name "enumerate" p) [e] [] pos) (IR X.K (mEnumA m)) :=
  pi_imp (pi_or (di_enum hg hm h hs) (pi_fits (pi_or (pi_enumS hg hm (da_cons h da_nil hs) hs) (pi_enumT hg hm (da_cons h da_nil hs) hs)))) fun σ H R ⟨B, F, dl, env, ds, xs, ds', rel, hm, k⟩ => by
    obtain ⟨d, ds1, h1, h2⟩ := mb_some hm
    obtain ⟨h3, rfl⟩ := mo_some h2
    unfold enumD at h3
    cases d with
    | list ys =>
      cases h3
      refine .inl ⟨B, F, dl, env, ds, _, _, rel, ?_, k⟩
      unfold mEnum
      rw [mb_of h1]
      rfl
    | tuple ys =>
      cases h3
      refine .inr (.inr ⟨B, F, dl, env, ds, [.tuple ys], _, rel, mseq1 h1, fun vs F' H' r g dv => ?_⟩)
      cases dv with
      | cons d1 d2 =>
        cases d2
        cases d1 with
        | tup q1 q2 =>
          refine ⟨_, _, rfl, seqT_mono r.ex q1, fun ft => ?_⟩
          refine k _ F' H' r g (walkD_enumT q1 q2) ?_
          rw [pairsFrom_len, ← q2.length]
          exact ft.2 _ _ (seqT_mono r.ex q1)
    | str z =>
      cases hz : itemsD (.str z) with
      | none => rw [hz] at h3; cases h3
      | some w =>
        rw [hz] at h3
        cases h3
        obtain ⟨hl, rfl⟩ := fit_some hz
        refine .inr (.inl ⟨B, F, dl, env, ds, [.str z], _, rel, mseq1 h1, fun vs F' H' r g dv => ?_⟩)
        cases dv with
        | cons d1 d2 =>
          cases d2
          cases d1
          refine ⟨z, rfl, fun ft => k _ F' H' r g walkD_enumS ?_⟩
          rw [pairsFrom_len]
          have : (signsOf z).length = z.length := by simp [signsOf, Str.length]
          rw [this]
          exact hl
    | _ => cases h3
end
end DL

set_option Elab.async false
set_option linter.all false
set_option maxRecDepth 100000
set_option maxHeartbeats 2000000
/-! Dl14: running the mirrors, step by step -/
namespace DL
open PySem PySem.Spec PyProof.Rows L2
section
variable {env env1 env2 : En} {ds ds1 ds2 ds3 : DS} {m m1 m2 : M PyData} {t t1 t2' : M Bool} {a b : SM} {d e z : PyData}
theorem sSeq_nx (h : a env ds = some (.nx, env1, ds1)) : sSeq a b env ds = b env1 ds1 := by
  unfold sSeq
  rw [h]
theorem sSeq_rt (h : a env ds = some (.rt d, env1, ds1)) : sSeq a b env ds = some (.rt d, env1, ds1) := by
  unfold sSeq
  rw [h]
theorem sIf_t (h : t env ds = some (true, ds1)) : sIf t a b env ds = a env ds1 := by
  unfold sIf
  rw [h]
theorem sIf_f (h : t env ds = some (false, ds1)) : sIf t a b env ds = b env ds1 := by
  unfold sIf
  rw [h]
theorem sAsg_of {f : PyData → En → Option En} (h : m env ds = some (d, ds1)) (hf : f d env = some env1) : sAsg f m env ds = some (.nx, env1, ds1) := by
  unfold sAsg
  rw [h]
  simp only
  rw [hf]
theorem sRet_of (h : m env ds = some (d, ds1)) : sRet m env ds = some (.rt d, env, ds1) := by
  unfold sRet
  rw [h]
theorem sDrop_of (h : m env ds = some (d, ds1)) : sDrop m env ds = some (.nx, env, ds1) := by
  unfold sDrop
  rw [h]
theorem sWhile_t (h : t env ds = some (true, ds1)) (hb : a env ds1 = some (.nx, env2, ds2)) : sWhile t a env ds = sWhile t a env2 ds2 := by
  rw [sWhile_eq, h]
  simp only
  rw [hb]
theorem sWhile_f (h : t env ds = some (false, ds1)) : sWhile t a env ds = some (.nx, env, ds1) := by
  rw [sWhile_eq, h]
theorem tAnd_t (h : t env ds = some (true, ds1)) : DL.tAnd t t1 env ds = t1 env ds1 := by
  unfold DL.tAnd
  rw [mb_of h]
  rfl
theorem tAnd_f (h : t env ds = some (false, ds1)) : DL.tAnd t t1 env ds = some (false, ds1) := by
  unfold DL.tAnd
  rw [mb_of h]
  rfl
theorem tOr_t (h : t env ds = some (true, ds1)) : DL.tOr t t1 env ds = some (true, ds1) := by
  unfold DL.tOr
  rw [mb_of h]
  rfl
theorem tOr_f (h : t env ds = some (false, ds1)) : DL.tOr t t1 env ds = t1 env ds1 := by
  unfold DL.tOr
  rw [mb_of h]
  rfl
theorem tAnd_of {x y : Bool} (h : t env ds = some (x, ds)) (h1 : x = true → t1 env ds = some (y, ds)) : DL.tAnd t t1 env ds = some (x && y, ds) := by
  cases x with
  | true => rw [tAnd_t h, h1 rfl]; rfl
  | false => rw [tAnd_f h]; rfl
theorem tOr_of {x y : Bool} (h : t env ds = some (x, ds)) (h1 : x = false → t1 env ds = some (y, ds)) : DL.tOr t t1 env ds = some (x || y, ds) := by
  cases x with
  | true => rw [tOr_t h]; rfl
  | false => rw [tOr_f h, h1 rfl]; rfl
theorem tNot_of {x : Bool} (h : t env ds = some (x, ds1)) : DL.tNot t env ds = some (!x, ds1) := by
  unfold DL.tNot
  rw [mb_of h]
  rfl
theorem vt_of {x : Bool} (h : m env ds = some (.bool x, ds1)) : vt m env ds = some (x, ds1) := by
  unfold vt
  rw [mb_of h]
  rfl
theorem bv_of {x : Bool} (h : t env ds = some (x, ds1)) : bv t env ds = some (.bool x, ds1) := by
  unfold bv
  rw [mb_of h]
  rfl
theorem eIf_of {x : Bool} (h : t env ds = some (x, ds1)) : eIf t m1 m2 env ds = if x = true then m1 env ds1 else m2 env ds1 := by
  unfold eIf
  rw [mb_of h]
  cases x <;> rfl
theorem vAnd_of {x : Bool} (h : m1 env ds = some (.bool x, ds1)) : vAnd m1 m2 env ds = if x = true then m2 env ds1 else some (.bool false, ds1) := by
  unfold vAnd
  rw [mb_of h]
  cases x <;> rfl
theorem vOr_of {x : Bool} (h : m1 env ds = some (.bool x, ds1)) : vOr m1 m2 env ds = if x = true then some (.bool true, ds1) else m2 env ds1 := by
  unfold vOr
  rw [mb_of h]
  cases x <;> rfl
theorem vAnd_b {x y : Bool} (h : m1 env ds = some (.bool x, ds)) (h1 : x = true → m2 env ds = some (.bool y, ds)) : vAnd m1 m2 env ds = some (.bool (x && y), ds) := by
  rw [vAnd_of h]
  cases x with
  | true => rw [if_pos rfl, h1 rfl]; rfl
  | false => rfl
theorem vOr_b {x y : Bool} (h : m1 env ds = some (.bool x, ds)) (h1 : x = false → m2 env ds = some (.bool y, ds)) : vOr m1 m2 env ds = some (.bool (x || y), ds) := by
  rw [vOr_of h]
  cases x with
  | true => rfl
  | false => rw [if_neg Bool.false_ne_true, h1 rfl]; rfl
theorem mlst_of {ml : M (List PyData)} {xs : List PyData} (h : ml env ds = some (xs, ds1)) : mlst ml env ds = some (.list xs, ds1) := by
  unfold mlst
  rw [mb_of h]
  rfl
theorem mtup_of {ml : M (List PyData)} {xs : List PyData} (h : ml env ds = some (xs, ds1)) : mtup ml env ds = some (.tuple xs, ds1) := by
  unfold mtup
  rw [mb_of h]
  rfl
theorem mIt_of {xs : List PyData} (h : m env ds = some (d, ds1)) (hi : itemsD d = some xs) : mIt m env ds = some (xs, ds1) := by
  unfold mIt
  rw [mb_of h]
  unfold mo
  rw [hi]
  rfl
theorem mComp_of {im : M (List PyData)} {vs : List Nat} {f : PyData → En → Option En} {el : M PyData} {xs ys : List PyData} (h : im env ds = some (xs, ds1)) (hc : compL f t el (wipeE env vs) xs ds1 = some (ys, ds2)) : mComp im vs f t el env ds = some (ys, ds2) := by
  unfold mComp
  rw [mb_of h]
  exact hc
theorem sFor_of {im : M (List PyData)} {f : PyData → En → Option En} {xs : List PyData} (h : im env ds = some (xs, ds1)) : sFor im f a env ds = sForL f a xs env ds1 := by
  unfold sFor
  rw [h]
theorem eCall_of {f : List PyData → Option PyData} {ix : List Nat} {ms mk : List (M PyData)} {xs ys : List PyData} (h1 : mseq ms env ds = some (xs, ds1)) (h2 : mseq mk env ds1 = some (ys, ds2)) (hf : f (perm ix (xs ++ ys)) = some z) : eCall f ix ms mk env ds = some (z, ds2) := by
  unfold eCall
  rw [mb_of h1, mb_of h2]
  unfold mo
  rw [hf]
  rfl
theorem eCallW_of {f : List PyData → DS → Option (PyData × DS)} {i : Nat} {ms : List (M PyData)} {xs : List PyData} {c c' : List Int × Int} (he : env[i]? = some .deal) (h1 : mseq ms env ds = some (xs, some c)) (hf : f xs (some c) = some (d, some c')) : eCallW f i ms env ds = some (d, some c') := by
  unfold eCallW
  rw [he]
  simp only
  rw [h1]
  simp only
  rw [hf]
theorem runD_of {N : Nat} {s : SM} {xs : List PyData} {ds' : DS} (h : s (envD N xs) none = some (.rt d, env, ds')) : runD N s xs = some d := by
  unfold runD
  rw [h]
  rfl
theorem runW_of {N : Nat} {s : SM} {xs : List PyData} {ds' : DS} (h : s (envW N xs) ds = some (.rt d, env, ds')) : runW N s xs ds = some (d, ds') := by
  unfold runW
  rw [h]
  rfl
theorem mslots_d {r : List MK} {ss : List Slot} (h : m env ds = some (d, ds1)) (h2 : mslots r env ds1 = some (ss, ds2)) : mslots (.d m :: r) env ds = some (.dat d :: ss, ds2) := by
  unfold mslots
  rw [mb_of h, mb_of h2]
  rfl
theorem mslots_n {ml : M (List PyData)} {xs : List PyData} {r : List MK} {ss : List Slot} (h : ml env ds = some (xs, ds1)) (h2 : mslots r env ds1 = some (ss, ds2)) : mslots (.n ml :: r) env ds = some (.own xs :: ss, ds2) := by
  unfold mslots
  rw [mb_of h, mb_of h2]
  rfl
theorem sPar_of {is : List Nat} {ms : List MK} {ss : List Slot} (h : mslots ms env ds = some (ss, ds1)) : sPar is ms env ds = some (.nx, setE is ss env, ds1) := by
  unfold sPar
  rw [h]
theorem mseq1_of (h : m env ds = some (d, ds1)) : mseq [m] env ds = some ([d], ds1) := mseq_cons_of h rfl
theorem mseq2_of (h : m1 env ds = some (d, ds1)) (h2 : m2 env ds1 = some (e, ds2)) : mseq [m1, m2] env ds = some ([d, e], ds2) := mseq_cons_of h (mseq_cons_of h2 rfl)
end
/-! ### texts as lists of signs -/
def tx (cs : List Nat) : Str := ⟨cs.toArray⟩
@[simp] theorem tx_cps (cs : List Nat) : (tx cs).cps.toList = cs := by simp [tx]
@[simp] theorem tx_len (cs : List Nat) : (tx cs).length = cs.length := by simp [tx, Str.length]
theorem tx_of (z : Str) : tx z.cps.toList = z := by
  cases z
  simp [tx]
theorem len_tx {cs : List Nat} (h : cs.length ≤ sizeLine) : fLen [.str (tx cs)] = some (.int cs.length) := by
  show (if (tx cs).length ≤ sizeLine then some (PyData.int (tx cs).length) else none) = _
  rw [tx_len, if_pos h]
theorem ix_tx {cs : List Nat} {i c : Nat} (h : cs.length ≤ sizeLine) (hc : cs[i]? = some c) : dIx (.str (tx cs)) (.int (i : Int)) = some (.str (sign c)) := by
  show (if (tx cs).length ≤ sizeLine then (atI (tx cs).cps.toList (i : Int)).map (fun c => PyData.str (sign c)) else none) = _
  rw [tx_len, if_pos h, tx_cps, atI_nat hc]
  rfl
theorem in_tx (c : Nat) (cs : List Nat) : dIn (.str (sign c)) (.str (tx cs)) = some (decide (c ∈ cs)) := by
  unfold dIn
  simp [sign]
theorem eq_sign (c d : Nat) : dEq (.str (sign c)) (.str (sign d)) = some (c == d) := by
  show some (sign c == sign d) = _
  congr 1
  by_cases h : c = d
  · subst h; simp
  · rw [beq_false_of_ne h]
    refine beq_false_of_ne fun z => h ?_
    have := congrArg (fun s : Str => s.cps.toList) z
    simpa [sign] using this
theorem ne_sign (c d : Nat) : dNe (.str (sign c)) (.str (sign d)) = some (c != d) := by
  unfold dNe
  rw [eq_sign]
  rfl
end DL

set_option Elab.async false
set_option linter.all false
set_option maxRecDepth 100000
set_option maxHeartbeats 2000000
/-! Dl15: draws in plain words -/
namespace DL
open PySem PySem.Spec PyProof.Rows L2

theorem log2_le64 {n : Nat} (h : n < 2 ^ 64) : n.log2 < 9000 := by
  by_cases h0 : n = 0
  · subst h0
    decide
  · exact Nat.lt_of_lt_of_le ((Nat.log2_lt h0).mpr h) (by decide)
theorem AnyOk.nat {f : List PyData → DS → Option (PyData × DS)} (h : AnyOk f) {n : Nat} {ds : DS} (h0 : 0 < n) (h1 : n < 2 ^ 64) (g : GoodD ds) : ∃ (v : Nat) (ds' : DS), f [.int (n : Int)] ds = some (.int (v : Int), ds') ∧ v < n ∧ GoodD ds' := by
  obtain ⟨v, ds', e, a, b, c⟩ := h (n : Int) ds (by omega) (by simpa using log2_le64 h1) g
  exact ⟨v.toNat, ds', by rw [e, Int.toNat_of_nonneg a], by omega, c⟩
/-- a draw within an expression -/
theorem any_of {f : List PyData → DS → Option (PyData × DS)} (h : AnyOk f) {i n : Nat} {m : M PyData} {env : En} {ds : DS} (he : env[i]? = some .deal) (hm : m env ds = some (.int (n : Int), ds)) (h0 : 0 < n) (h1 : n < 2 ^ 64) (g : GoodD ds) :
    ∃ (v : Nat) (ds' : DS), eCallW f i [m] env ds = some (.int (v : Int), ds') ∧ v < n ∧ GoodD ds' := by
  obtain ⟨v, ds', e, a, b⟩ := h.nat h0 h1 g
  obtain ⟨c, bl, rfl, _⟩ := g
  obtain ⟨c', bl', rfl, r⟩ := b
  exact ⟨v, _, eCallW_of he (mseq1_of hm) e, a, c', bl', rfl, r⟩
def itemsOf : PyData → List PyData
  | .list xs => xs
  | .tuple xs => xs
  | _ => []
/-- _law_of -/
theorem of_ok {f : List PyData → DS → Option (PyData × DS)} (h : AnyOk f) {d : PyData} {xs : List PyData} {ds : DS} (hd : d = .list xs ∨ d = .tuple xs) (h0 : xs ≠ []) (h1 : xs.length < 2 ^ 64) (g : GoodD ds) :
    ∃ x ∈ xs, ∃ ds', runW 2 (sRet (e2 dIx (mVar 1) (eCallW f 0 [eA fLen [mVar 1]]))) [d] ds = some (x, ds') ∧ GoodD ds' := by
  have hp : 0 < xs.length := List.length_pos_iff.mpr h0
  have hlen : fLen [d] = some (.int (xs.length : Int)) := by rcases hd with rfl | rfl <;> rfl
  obtain ⟨v, ds', e, a, b⟩ := any_of h (i := 0) (m := eA fLen [mVar 1]) (env := envW 2 [d]) rfl (eA1_of (x := d) rfl hlen) hp h1 g
  refine ⟨xs[v], List.getElem_mem a, ds', runW_of (env := envW 2 [d]) (sRet_of (e2_of rfl e ?_)), b⟩
  have hv : atI xs (v : Int) = some xs[v] := atI_nat (List.getElem?_eq_getElem a)
  rcases hd with rfl | rfl <;> exact hv
/-- a comprehension whose items are drawn -/
theorem compL_draw {f : PyData → En → Option En} {el : M PyData} {env : En} (P : PyData → Prop) : ∀ (xs : List PyData) (ds : DS), GoodD ds → (∀ x ∈ xs, ∃ env1, f x env = some env1 ∧ ∀ ds, GoodD ds → ∃ y ds', el env1 ds = some (y, ds') ∧ P y ∧ GoodD ds') →
    ∃ ys ds', compL f (mr true) el env xs ds = some (ys, ds') ∧ ys.length = xs.length ∧ (∀ y ∈ ys, P y) ∧ GoodD ds'
  | [], ds, g, _ => ⟨[], ds, rfl, rfl, (fun _ h => nomatch h), g⟩
  | x :: xs, ds, g, h => by
    obtain ⟨env1, h1, h2⟩ := h x List.mem_cons_self
    obtain ⟨y, ds1, h3, h4, h5⟩ := h2 ds g
    obtain ⟨ys, ds2, k1, k2, k3, k4⟩ := compL_draw P xs ds1 h5 fun z hz => h z (List.mem_cons_of_mem _ hz)
    refine ⟨y :: ys, ds2, ?_, by simp [k2], fun z hz => ?_, k4⟩
    · unfold compL
      rw [h1]
      simp only
      show (match el env1 ds with | none => none | some (y, ds2) => _) = _
      rw [h3]
      simp only
      rw [k1]
    · rcases List.mem_cons.mp hz with rfl | hz
      · exact h4
      · exact k3 z hz
end DL

set_option Elab.async false
set_option linter.all false
set_option maxRecDepth 100000
set_option maxHeartbeats 2000000
/-! Dl16: small data: what may be laid, shown, compared -/
namespace DL
open PySem PySem.Spec PyProof.Rows L2

/-- of depth at most h, of weight at most w -/
structure Sm (h w : Nat) (d : PyData) : Prop where
  lay : d.canLay0 = true
  sh : d.showable = true
  it : d.intsShort 13 = true
  dep : d.depth ≤ h
  wt : d.weight ≤ w
structure SmA (h w : Nat) (xs : List PyData) : Prop where
  lay : PyData.canLayAll0 xs = true
  sh : PyData.showableAll xs = true
  it : PyData.intsShortAll 13 xs = true
  dep : PyData.depthAll xs ≤ h
  wt : PyData.weightAll xs ≤ w
theorem Sm.mono {h w h' w' : Nat} {d : PyData} (s : Sm h w d) (e : h ≤ h') (e2 : w ≤ w') : Sm h' w' d := ⟨s.lay, s.sh, s.it, Nat.le_trans s.dep e, Nat.le_trans s.wt e2⟩
theorem SmA.mono {h w h' w' : Nat} {d : List PyData} (s : SmA h w d) (e : h ≤ h') (e2 : w ≤ w') : SmA h' w' d := ⟨s.lay, s.sh, s.it, Nat.le_trans s.dep e, Nat.le_trans s.wt e2⟩
theorem Sm.non : Sm 0 0 .none := ⟨rfl, rfl, rfl, Nat.le_refl _, Nat.le_refl _⟩
theorem Sm.bool (b : Bool) : Sm 0 0 (.bool b) := ⟨rfl, rfl, rfl, Nat.le_refl _, Nat.le_refl _⟩
theorem Sm.int {i : Int} (h : i.natAbs < 10 ^ 12) : Sm 0 40 (.int i) := by
  have hl : i ≠ 0 → i.natAbs.log2 < 40 := fun z => by
    rw [Nat.log2_lt (by omega)]
    have e : (10 : Nat) ^ 12 = 1000000000000 := by decide
    have e2 : (2 : Nat) ^ 40 = 1099511627776 := by decide
    omega
  refine ⟨rfl, ?_, ?_, by simp [PyData.depth], ?_⟩
  · simp only [PyData.showable, decide_eq_true_eq]
    by_cases z : i = 0
    · subst z; decide
    · have := hl z; omega
  · simp only [PyData.intsShort, decide_eq_true_eq]
    exact PyData.shown_int_le h
  · simp only [PyData.weight]
    split
    · omega
    · rename_i z
      have : i ≠ 0 := by simpa using z
      have := hl this
      omega
theorem Sm.nat {i : Nat} (h : i < 10 ^ 12) : Sm 0 40 (.int (i : Int)) := Sm.int (by simpa using h)
theorem Sm.str {z : Str} {n : Nat} (h : ∀ c ∈ z.cps.toList, c < 1114112) (hn : z.length ≤ n) : Sm 0 n (.str z) := by
  refine ⟨?_, rfl, rfl, by simp [PyData.depth], hn⟩
  simp only [PyData.canLay0, PyData.strOk]
  rw [Array.all_eq_true_iff_forall_mem]
  intro c hc
  simpa using h c (Array.mem_toList_iff.mpr hc)
theorem SmA.nil {h : Nat} : SmA h 0 [] := ⟨by simp [PyData.canLayAll0], by simp [PyData.showableAll], by simp [PyData.intsShortAll], by simp [PyData.depthAll], by simp [PyData.weightAll]⟩
theorem SmA.cons {h w n : Nat} {x : PyData} {xs : List PyData} (a : Sm h w x) (b : SmA h n xs) : SmA h (w + 1 + n) (x :: xs) := by
  refine ⟨?_, ?_, ?_, ?_, ?_⟩
  · simp [PyData.canLayAll0, a.lay, b.lay]
  · simp [PyData.showableAll, a.sh, b.sh]
  · simp [PyData.intsShortAll, a.it, b.it]
  · simp only [PyData.depthAll]
    have := a.dep; have := b.dep
    omega
  · simp only [PyData.weightAll]
    have := a.wt; have := b.wt
    omega
theorem SmA.of {h w : Nat} : ∀ {xs : List PyData}, (∀ x ∈ xs, Sm h w x) → SmA h (xs.length * (w + 1)) xs
  | [], _ => SmA.nil.mono (Nat.le_refl _) (Nat.zero_le _)
  | x :: xs, a => (SmA.cons (a x List.mem_cons_self) (SmA.of fun y hy => a y (List.mem_cons_of_mem _ hy))).mono (Nat.le_refl _) (by
      rw [List.length_cons, Nat.succ_mul]
      omega)
theorem SmA.le {h w n : Nat} {xs : List PyData} (a : ∀ x ∈ xs, Sm h w x) (hn : xs.length ≤ n) : SmA h (n * (w + 1)) xs := (SmA.of a).mono (Nat.le_refl _) (Nat.mul_le_mul_right _ hn)
theorem Sm.tup {h w : Nat} {xs : List PyData} (a : SmA h w xs) : Sm (h + 1) w (.tuple xs) := by
  refine ⟨?_, ?_, ?_, ?_, ?_⟩
  · simpa [PyData.canLay0] using a.lay
  · simpa [PyData.showable] using a.sh
  · simpa [PyData.intsShort] using a.it
  · have := a.dep; simp only [PyData.depth]; omega
  · have := a.wt; simpa [PyData.weight] using this
theorem Sm.lst {h w : Nat} {xs : List PyData} (a : SmA h w xs) : Sm (h + 1) w (.list xs) := by
  refine ⟨?_, ?_, ?_, ?_, ?_⟩
  · simpa [PyData.canLay0] using a.lay
  · simpa [PyData.showable] using a.sh
  · simpa [PyData.intsShort] using a.it
  · have := a.dep; simp only [PyData.depth]; omega
  · have := a.wt; simpa [PyData.weight] using this
/-- repr of small data -/
theorem repr_sm {h w : Nat} {d : PyData} (s : Sm h w d) (hh : h ≤ 60) (hw : w ≤ 1000000) : fRepr [d] = some (.str d.shown) := by
  have hw2 : d.weight ≤ 2 ^ 20 := by
    have := s.wt
    have e : (2 : Nat) ^ 20 = 1048576 := by decide
    omega
  have h1 : d.shown.length ≤ sizeLine := PyData.shown_fits (B := 13) (by decide) (by decide) (PyData.leavesShort_of_canLay0 13 d s.lay s.it) hw2
  show (if d.showable = true ∧ d.hasDict = false ∧ d.depth ≤ 60 ∧ d.shown.length ≤ sizeLine then some (PyData.str d.shown) else none) = _
  rw [if_pos ⟨s.sh, PyData.hasDict_of_canLay d s.lay, Nat.le_trans s.dep hh, h1⟩]
theorem lays_sm {h w h' w' : Nat} {d e : PyData} (s : Sm h w d) (s' : Sm h' w' e) (hh : h ≤ 64) : lays d e = true := by
  unfold lays
  rw [s.lay, s'.lay]
  have := s.dep
  simp
  omega
theorem eqvAll_len : ∀ {xs ys : List PyData}, PyData.eqvAll xs ys = true → xs.length = ys.length
  | [], [], _ => rfl
  | [], _ :: _, h => by simp [PyData.eqvAll] at h
  | _ :: _, [], h => by simp [PyData.eqvAll] at h
  | _ :: xs, _ :: ys, h => by
    simp only [PyData.eqvAll, Bool.and_eq_true] at h
    simp [eqvAll_len h.2]
theorem dEq_eqv {d e : PyData} (h : lays d e = true) : dEq d e = some (PyData.eqv d e) := by
  have hg : dEqG d e = some (PyData.eqv d e) := if_pos h
  unfold dEq
  split
  · simp [PyData.eqv]
  · simp [PyData.eqv]
  · simp [PyData.eqv]
  · simp [PyData.eqv]
  · rename_i xs ys
    split
    · rename_i c
      congr 1
      by_cases hl : xs.length = ys.length
      · have h0 : xs.length = 0 := by omega
        have e1 : xs = [] := List.length_eq_zero_iff.mp h0
        have e2 : ys = [] := List.length_eq_zero_iff.mp (by omega)
        subst e1 e2
        simp [PyData.eqv, PyData.eqvAll]
      · rw [decide_eq_false hl]
        cases q : PyData.eqv (.list xs) (.list ys) with
        | false => rfl
        | true => exact absurd (eqvAll_len (by simpa [PyData.eqv] using q)) hl
    · exact hg
  · rename_i xs ys
    split
    · rename_i c
      congr 1
      by_cases hl : xs.length = ys.length
      · have e1 : xs = [] := List.length_eq_zero_iff.mp (by omega)
        have e2 : ys = [] := List.length_eq_zero_iff.mp (by omega)
        subst e1 e2
        simp [PyData.eqv, PyData.eqvAll]
      · rw [decide_eq_false hl]
        cases q : PyData.eqv (.tuple xs) (.tuple ys) with
        | false => rfl
        | true => exact absurd (eqvAll_len (by simpa [PyData.eqv] using q)) hl
    · exact hg
  · exact hg
theorem eqv_self {d : PyData} (h : d.canLay0 = true) : PyData.eqv d d = true := SeqAt.eqv_refl d h
theorem eq_self {h w : Nat} {d : PyData} (s : Sm h w d) (hh : h ≤ 64) : dEq d d = some true := by
  rw [dEq_eqv (lays_sm s s hh), eqv_self s.lay]
theorem ne_self {h w : Nat} {d : PyData} (s : Sm h w d) (hh : h ≤ 64) : dNe d d = some false := by
  unfold dNe
  rw [eq_self s hh]
  rfl
theorem ne_str (z : Str) : dNe (.str z) (.str z) = some false := by
  show some (!(z == z)) = _
  simp
/-- comprehensions over what a list is made of -/
theorem compL_of {α : Type} (φ g : α → PyData) {f : PyData → En → Option En} {t : M Bool} {el : M PyData} {env : En} {ds : DS} : ∀ L : List α, (∀ a ∈ L, ∃ env1, f (φ a) env = some env1 ∧ t env1 ds = some (true, ds) ∧ el env1 ds = some (g a, ds)) → compL f t el env (L.map φ) ds = some (L.map g, ds)
  | [], _ => rfl
  | a :: L, h => by
    obtain ⟨env1, h1, h2, h3⟩ := h a List.mem_cons_self
    rw [List.map_cons]
    unfold compL
    rw [h1]
    simp only
    rw [h2]
    simp only
    rw [h3]
    simp only
    rw [compL_of φ g L fun y hy => h y (List.mem_cons_of_mem _ hy)]
    rfl
theorem compL_if {α : Type} (φ g : α → PyData) (p : α → Bool) {f : PyData → En → Option En} {t : M Bool} {el : M PyData} {env : En} {ds : DS} : ∀ L : List α, (∀ a ∈ L, ∃ env1, f (φ a) env = some env1 ∧ t env1 ds = some (p a, ds) ∧ (p a = true → el env1 ds = some (g a, ds))) → compL f t el env (L.map φ) ds = some ((L.filter p).map g, ds)
  | [], _ => rfl
  | a :: L, h => by
    obtain ⟨env1, h1, h2, h3⟩ := h a List.mem_cons_self
    have ih := compL_if φ g p L fun y hy => h y (List.mem_cons_of_mem _ hy)
    rw [List.map_cons]
    unfold compL
    rw [h1]
    simp only
    rw [h2]
    cases hp : p a with
    | false =>
      simp only
      rw [ih, List.filter_cons_of_neg (by simp [hp])]
    | true =>
      simp only
      rw [h3 hp]
      simp only
      rw [ih, List.filter_cons_of_pos hp]
      rfl
theorem rangeL_nat (n : Nat) : rangeL 0 n = (List.range n).map fun i => .int ((i : Nat) : Int) := by
  unfold rangeL
  exact List.map_congr_left fun i _ => by rw [Int.zero_add]
theorem mRange1_of {m : M PyData} {env : En} {ds ds1 : DS} {n : Nat} (h : m env ds = some (.int (n : Int), ds1)) (hn : n ≤ 16777216) : mRange1 m env ds = some ((List.range n).map fun i => .int ((i : Nat) : Int), ds1) := by
  unfold mRange1
  rw [mb_of h]
  simp only
  rw [if_pos (by omega)]
  show some (rangeL 0 ((n : Int)).toNat, ds1) = _
  rw [Int.toNat_natCast, rangeL_nat]
theorem len_tup {xs : List PyData} : fLen [.tuple xs] = some (.int (xs.length : Int)) := rfl
theorem len_lst {xs : List PyData} : fLen [.list xs] = some (.int (xs.length : Int)) := rfl
theorem ix_tup {xs : List PyData} {i : Nat} {d : PyData} (h : xs[i]? = some d) : dIx (.tuple xs) (.int (i : Int)) = some d := atI_nat h
theorem ix_lst {xs : List PyData} {i : Nat} {d : PyData} (h : xs[i]? = some d) : dIx (.list xs) (.int (i : Int)) = some d := atI_nat h
end DL
namespace DL
open PySem PySem.Spec PyProof.Rows L2
/-! ### slices -/
theorem cut_to {α : Type} (xs : List α) {j : Nat} (h : j ≤ xs.length) : cutL xs none (some (j : Int)) = xs.take j := by
  unfold cutL
  rw [HT.sIx_none, HT.sIx_nat, Nat.min_eq_left h, List.drop_zero, Nat.sub_zero]
theorem cut_from {α : Type} (xs : List α) {i : Nat} (h : i ≤ xs.length) : cutL xs (some (i : Int)) none = xs.drop i := by
  unfold cutL
  rw [HT.sIx_none, HT.sIx_nat, Nat.min_eq_left h, List.take_of_length_le (by rw [List.length_drop]; omega)]
theorem eSl_of {a : M PyData} {lo hi : M (Option Int)} {env : En} {ds ds1 ds2 ds3 : DS} {d z : PyData} {l h : Option Int} (h1 : a env ds = some (d, ds1)) (h2 : lo env ds1 = some (l, ds2)) (h3 : hi env ds2 = some (h, ds3)) (hf : dSl d l h = some z) : eSl a lo hi env ds = some (z, ds3) := by
  unfold eSl
  rw [mb_of h1, mb_of h2, mb_of h3]
  unfold mo
  rw [hf]
  rfl
theorem oPart_of {m : M PyData} {env : En} {ds ds1 : DS} {i : Int} (h : m env ds = some (.int i, ds1)) : oPart m env ds = some (some i, ds1) := by
  unfold oPart
  rw [mb_of h]
  rfl
theorem tx_cut_to {cs : List Nat} {j : Nat} (hl : cs.length ≤ sizeLine) (h : j ≤ cs.length) : dSl (.str (tx cs)) none (some (j : Int)) = some (.str (tx (cs.take j))) := by
  show (if (tx cs).length ≤ sizeLine then some (PyData.str (cutS (tx cs) none (some (j : Int)))) else none) = _
  rw [tx_len, if_pos hl]
  unfold cutS
  rw [tx_len, tx_cps, HT.sIx_nat, HT.sIx_none, Nat.min_eq_left h, List.drop_zero, Nat.sub_zero]
  rfl
theorem tx_cut_from {cs : List Nat} {j : Nat} (hl : cs.length ≤ sizeLine) (h : j ≤ cs.length) : dSl (.str (tx cs)) (some (j : Int)) none = some (.str (tx (cs.drop j))) := by
  show (if (tx cs).length ≤ sizeLine then some (PyData.str (cutS (tx cs) (some (j : Int)) none)) else none) = _
  rw [tx_len, if_pos hl]
  unfold cutS
  rw [tx_len, tx_cps, HT.sIx_nat, HT.sIx_none, Nat.min_eq_left h, List.take_of_length_le (by rw [List.length_drop]; omega)]
  rfl
theorem tx_app (a b : List Nat) : tx a ++ tx b = tx (a ++ b) := by
  show (⟨a.toArray ++ b.toArray⟩ : Str) = ⟨(a ++ b).toArray⟩
  simp
theorem add_tx {a b : List Nat} (h : a.length + b.length ≤ sizeLine) : dAdd (.str (tx a)) (.str (tx b)) = some (.str (tx (a ++ b))) := by
  show fit ((tx a).length + (tx b).length) (PyData.str (tx a ++ tx b)) = _
  rw [tx_len, tx_len, fit_of h, tx_app]
end DL

set_option Elab.async false
set_option linter.all false
set_option maxRecDepth 100000
set_option maxHeartbeats 2000000
/-! Dl17: running the mirrors, by what holds behind -/
namespace DL
open PySem PySem.Spec PyProof.Rows L2
/-- the statement runs, and Q holds behind it -/
def Wp (s : SM) (env : En) (ds : DS) (Q : Out → En → DS → Prop) : Prop := ∃ o env' ds', s env ds = some (o, env', ds') ∧ Q o env' ds'
/-- the expression has a value, and Q holds of it -/
def Wm {α : Type} (m : M α) (env : En) (ds : DS) (Q : α → DS → Prop) : Prop := ∃ x ds', m env ds = some (x, ds') ∧ Q x ds'
def thn (b : SM) (Q : Out → En → DS → Prop) : Out → En → DS → Prop
  | .nx, e, d => Wp b e d Q
  | .rt v, e, d => Q (.rt v) e d
  | .bk, e, d => Q .bk e d
  | .ct, e, d => Q .ct e d
def turnQ (I : En → DS → Prop) (Q : Out → En → DS → Prop) : Out → En → DS → Prop
  | .nx, e, d => I e d
  | .ct, e, d => I e d
  | .bk, e, d => Q .nx e d
  | .rt v, e, d => Q (.rt v) e d
section
variable {α β : Type} {env env1 : En} {ds ds1 : DS} {Q : Out → En → DS → Prop} {a b : SM} {m m1 m2 m3 : M PyData} {t t1 t2' : M Bool} {R : PyData → DS → Prop} {S : Bool → DS → Prop} {d : PyData}
theorem Wm.of {m : M α} {x : α} {R : α → DS → Prop} (h : m env ds = some (x, ds1)) (q : R x ds1) : Wm m env ds R := ⟨x, ds1, h, q⟩
theorem Wm.imp {m : M α} {R R' : α → DS → Prop} (h : Wm m env ds R) (k : ∀ x d, R x d → R' x d) : Wm m env ds R' := let ⟨x, d, e, q⟩ := h; ⟨x, d, e, k x d q⟩
theorem Wp.imp {Q' : Out → En → DS → Prop} (h : Wp a env ds Q) (k : ∀ o e d, Q o e d → Q' o e d) : Wp a env ds Q' := let ⟨o, e, d, w, q⟩ := h; ⟨o, e, d, w, k o e d q⟩
theorem wm_mb {x : M α} {k : α → M β} {R : β → DS → Prop} (h : Wm x env ds fun v d => Wm (k v) env d R) : Wm (mb x k) env ds R := by
  obtain ⟨v, d, e, y, d2, e2, q⟩ := h
  exact ⟨y, d2, by rw [mb_of e, e2], q⟩
theorem wm_mo {x : Option α} {y : α} {R : α → DS → Prop} (h : x = some y) (q : R y ds) : Wm (mo x) env ds R := ⟨y, ds, by subst h; rfl, q⟩
theorem wm_mr {y : α} {R : α → DS → Prop} (q : R y ds) : Wm (mr y) env ds R := ⟨y, ds, rfl, q⟩
theorem wm_e1 {f : PyData → Option PyData} (h : Wm m env ds fun x d => ∃ z, f x = some z ∧ R z d) : Wm (e1 f m) env ds R := wm_mb (h.imp fun _ _ ⟨_, e, q⟩ => wm_mo e q)
theorem wm_e2 {f : PyData → PyData → Option PyData} (h : Wm m1 env ds fun x d => Wm m2 env d fun y d2 => ∃ z, f x y = some z ∧ R z d2) : Wm (e2 f m1 m2) env ds R := wm_mb (h.imp fun _ _ h2 => wm_mb (h2.imp fun _ _ ⟨_, e, q⟩ => wm_mo e q))
theorem wm_t2 {f : PyData → PyData → Option Bool} (h : Wm m1 env ds fun x d => Wm m2 env d fun y d2 => ∃ z, f x y = some z ∧ S z d2) : Wm (t2 f m1 m2) env ds S := wm_mb (h.imp fun _ _ h2 => wm_mb (h2.imp fun _ _ ⟨_, e, q⟩ => wm_mo e q))
theorem wm_bv (h : Wm t env ds fun x d => R (.bool x) d) : Wm (bv t) env ds R := wm_mb (h.imp fun _ _ q => wm_mr q)
theorem wm_vt (h : Wm m env ds fun x d => ∃ z, x = .bool z ∧ S z d) : Wm (vt m) env ds S := wm_mb (h.imp fun _ _ ⟨z, e, q⟩ => wm_mo (by rw [e]; rfl) q)
theorem wm_tAnd (h : Wm t env ds fun x d => if x = true then Wm t1 env d S else S false d) : Wm (DL.tAnd t t1) env ds S := wm_mb (h.imp fun x _ q => by
  cases x with
  | true => exact q
  | false => exact wm_mr q)
theorem wm_tOr (h : Wm t env ds fun x d => if x = true then S true d else Wm t1 env d S) : Wm (DL.tOr t t1) env ds S := wm_mb (h.imp fun x _ q => by
  cases x with
  | true => exact wm_mr q
  | false => exact q)
theorem wm_tNot (h : Wm t env ds fun x d => S (!x) d) : Wm (DL.tNot t) env ds S := wm_mb (h.imp fun _ _ q => wm_mr q)
theorem wm_eIf (h : Wm t env ds fun x d => if x = true then Wm m1 env d R else Wm m2 env d R) : Wm (eIf t m1 m2) env ds R := wm_mb (h.imp fun x _ q => by
  cases x with
  | true => exact q
  | false => exact q)
theorem wm_nil {R : List PyData → DS → Prop} (q : R [] ds) : Wm (mseq []) env ds R := wm_mr q
theorem wm_cons {ms : List (M PyData)} {R : List PyData → DS → Prop} (h : Wm m env ds fun x d => Wm (mseq ms) env d fun xs d2 => R (x :: xs) d2) : Wm (mseq (m :: ms)) env ds R := wm_mb (h.imp fun _ _ h2 => wm_mb (h2.imp fun _ _ q => wm_mr q))
theorem wm_mlst {ml : M (List PyData)} (h : Wm ml env ds fun xs d => R (.list xs) d) : Wm (mlst ml) env ds R := wm_mb (h.imp fun _ _ q => wm_mr q)
theorem wm_mtup {ml : M (List PyData)} (h : Wm ml env ds fun xs d => R (.tuple xs) d) : Wm (mtup ml) env ds R := wm_mb (h.imp fun _ _ q => wm_mr q)
theorem wm_eA {f : List PyData → Option PyData} {ms : List (M PyData)} (h : Wm (mseq ms) env ds fun xs d => ∃ z, f xs = some z ∧ R z d) : Wm (eA f ms) env ds R := wm_mb (h.imp fun _ _ ⟨_, e, q⟩ => wm_mo e q)
theorem wm_eA1 {f : List PyData → Option PyData} (h : Wm m env ds fun x d => ∃ z, f [x] = some z ∧ R z d) : Wm (eA f [m]) env ds R := wm_eA (wm_cons (h.imp fun _ _ q => wm_nil q))
theorem wm_eAN {f : List PyData → Option (List PyData)} {ms : List (M PyData)} {R : List PyData → DS → Prop} (h : Wm (mseq ms) env ds fun xs d => ∃ z, f xs = some z ∧ R z d) : Wm (eAN f ms) env ds R := wm_mb (h.imp fun _ _ ⟨_, e, q⟩ => wm_mo e q)
theorem wm_eAN1 {f : List PyData → Option (List PyData)} {R : List PyData → DS → Prop} (h : Wm m env ds fun x d => ∃ z, f [x] = some z ∧ R z d) : Wm (eAN f [m]) env ds R := wm_eAN (wm_cons (h.imp fun _ _ q => wm_nil q))
theorem wm_mIt {R : List PyData → DS → Prop} (h : Wm m env ds fun x d => ∃ z, itemsD x = some z ∧ R z d) : Wm (mIt m) env ds R := wm_mb (h.imp fun _ _ ⟨_, e, q⟩ => wm_mo e q)
theorem wm_range {R : List PyData → DS → Prop} (h : Wm m env ds fun x d => ∃ n : Nat, x = .int (n : Int) ∧ n ≤ 16777216 ∧ R ((List.range n).map fun i => .int ((i : Nat) : Int)) d) : Wm (mRange1 m) env ds R := by
  obtain ⟨x, d, e, n, rfl, hn, q⟩ := h
  exact ⟨_, d, mRange1_of e hn, q⟩
theorem wm_comp {im : M (List PyData)} {vs : List Nat} {f : PyData → En → Option En} {t : M Bool} {el : M PyData} {R : List PyData → DS → Prop} (h : Wm im env ds fun xs d => ∃ ys d2, compL f t el (wipeE env vs) xs d = some (ys, d2) ∧ R ys d2) : Wm (mComp im vs f t el) env ds R := by
  obtain ⟨xs, d, e, ys, d2, e2, q⟩ := h
  exact ⟨ys, d2, mComp_of e e2, q⟩
theorem wm_call {f : List PyData → Option PyData} {ix : List Nat} {ms mk : List (M PyData)} (h : Wm (mseq ms) env ds fun xs d => Wm (mseq mk) env d fun ys d2 => ∃ z, f (perm ix (xs ++ ys)) = some z ∧ R z d2) : Wm (eCall f ix ms mk) env ds R := by
  obtain ⟨xs, d, e, ys, d2, e2, z, e3, q⟩ := h
  exact ⟨z, d2, eCall_of e e2 e3, q⟩
/-- a draw -/
theorem wm_any {f : List PyData → DS → Option (PyData × DS)} (hf : AnyOk f) {i : Nat} (he : env[i]? = some .deal) (h : Wm m env ds fun x d => GoodD d ∧ ∃ n : Nat, x = .int (n : Int) ∧ 0 < n ∧ n < 2 ^ 64 ∧ ∀ (v : Nat) d2, v < n → GoodD d2 → R (.int (v : Int)) d2) : Wm (eCallW f i [m]) env ds R := by
  obtain ⟨x, d, e, g, n, rfl, h0, h1, q⟩ := h
  obtain ⟨v, d2, e2, h2, g2⟩ := hf.nat h0 h1 g
  obtain ⟨c, bl, rfl, _⟩ := g
  obtain ⟨c', bl', rfl, r⟩ := g2
  exact ⟨_, _, eCallW_of he (mseq1_of e) e2, q v _ h2 ⟨_, _, rfl, r⟩⟩
theorem wm_callW {f : List PyData → DS → Option (PyData × DS)} {i : Nat} {ms : List (M PyData)} (he : env[i]? = some .deal) (h : Wm (mseq ms) env ds fun xs d => GoodD d ∧ ∃ z d2, f xs d = some (z, d2) ∧ GoodD d2 ∧ R z d2) : Wm (eCallW f i ms) env ds R := by
  obtain ⟨x, d, e, g, z, d2, e2, g2, q⟩ := h
  obtain ⟨c, bl, rfl, _⟩ := g
  obtain ⟨c', bl', rfl, r⟩ := g2
  exact ⟨_, _, eCallW_of he e e2, q⟩
/-! ### statements -/
theorem wp_seq (h : Wp a env ds (thn b Q)) : Wp (sSeq a b) env ds Q := by
  obtain ⟨o, e, d, w, q⟩ := h
  cases o with
  | nx =>
    obtain ⟨o2, e2, d2, w2, q2⟩ := q
    exact ⟨o2, e2, d2, by rw [sSeq_nx w, w2], q2⟩
  | rt v => exact ⟨_, e, d, sSeq_rt w, q⟩
  | bk => exact ⟨.bk, e, d, by unfold sSeq; rw [w], q⟩
  | ct => exact ⟨.ct, e, d, by unfold sSeq; rw [w], q⟩
theorem wp_nx (q : Q .nx env ds) : Wp sNx env ds Q := ⟨_, _, _, rfl, q⟩
theorem wp_asg {f : PyData → En → Option En} (h : Wm m env ds fun x d => ∃ env1, f x env = some env1 ∧ Q .nx env1 d) : Wp (sAsg f m) env ds Q := by
  obtain ⟨x, d, e, env1, hf, q⟩ := h
  exact ⟨_, env1, d, sAsg_of e hf, q⟩
theorem wp_ret (h : Wm m env ds fun x d => Q (.rt x) env d) : Wp (sRet m) env ds Q := by
  obtain ⟨x, d, e, q⟩ := h
  exact ⟨_, env, d, sRet_of e, q⟩
theorem wp_drop (h : Wm m env ds fun x d => Q .nx env d) : Wp (sDrop m) env ds Q := by
  obtain ⟨x, d, e, q⟩ := h
  exact ⟨_, env, d, sDrop_of e, q⟩
theorem wp_if (h : Wm t env ds fun x d => if x = true then Wp a env d Q else Wp b env d Q) : Wp (sIf t a b) env ds Q := by
  obtain ⟨x, d, e, q⟩ := h
  cases x with
  | true =>
    obtain ⟨o, e2, d2, w, q⟩ := q
    exact ⟨o, e2, d2, by rw [sIf_t e, w], q⟩
  | false =>
    obtain ⟨o, e2, d2, w, q⟩ := q
    exact ⟨o, e2, d2, by rw [sIf_f e, w], q⟩
theorem wp_no (h : Wm t env ds fun x d => x = false ∧ Wp b env d Q) : Wp (sIf t a b) env ds Q := wp_if (h.imp fun x d ⟨e, q⟩ => by
  rw [e, if_neg Bool.false_ne_true]
  exact q)
theorem wp_new {i : Nat} {ml : M (List PyData)} (h : Wm ml env ds fun xs d => Q .nx (env.set i (.own xs)) d) : Wp (sNew i ml) env ds Q := by
  obtain ⟨x, d, e, q⟩ := h
  exact ⟨.nx, _, d, by unfold sNew; rw [e], q⟩
theorem wp_app {i : Nat} (h : Wm m env ds fun x d => ∃ xs, env[i]? = some (.own xs) ∧ xs.length < sizeLine ∧ Q .nx (env.set i (.own (xs ++ [x]))) d) : Wp (sApp i m) env ds Q := by
  obtain ⟨x, d, e, xs, h1, h2, q⟩ := h
  exact ⟨.nx, _, d, by unfold sApp; rw [e]; simp only; rw [h1]; simp only; rw [if_pos h2], q⟩
theorem wp_ext {i : Nat} (h : Wm m env ds fun x d => ∃ ys xs, x = .list ys ∧ env[i]? = some (.own xs) ∧ xs.length + ys.length ≤ sizeLine ∧ Q .nx (env.set i (.own (xs ++ ys))) d) : Wp (sExt i m) env ds Q := by
  obtain ⟨x, d, e, ys, xs, rfl, h1, h2, q⟩ := h
  exact ⟨.nx, _, d, by unfold sExt; rw [e]; simp only; rw [h1]; simp only; rw [if_pos h2], q⟩
theorem wp_frz {i : Nat} {xs : List PyData} (h1 : env[i]? = some (.own xs)) (q : Q .nx (env.set i (.dat (.list xs))) ds) : Wp (sFrz i) env ds Q :=
  ⟨.nx, _, ds, by unfold sFrz; rw [h1], q⟩
theorem wm_sd {r : List MK} {R : List Slot → DS → Prop} (h : Wm m env ds fun x d => Wm (mslots r) env d fun xs d2 => R (.dat x :: xs) d2) : Wm (mslots (.d m :: r)) env ds R := wm_mb (h.imp fun _ _ h2 => wm_mb (h2.imp fun _ _ q => wm_mr q))
theorem wm_sn {ml : M (List PyData)} {r : List MK} {R : List Slot → DS → Prop} (h : Wm ml env ds fun x d => Wm (mslots r) env d fun xs d2 => R (.own x :: xs) d2) : Wm (mslots (.n ml :: r)) env ds R := wm_mb (h.imp fun _ _ h2 => wm_mb (h2.imp fun _ _ q => wm_mr q))
theorem wm_s0 {R : List Slot → DS → Prop} (q : R [] ds) : Wm (mslots []) env ds R := wm_mr q
theorem wp_par {is : List Nat} {ms : List MK} (h : Wm (mslots ms) env ds fun ss d => Q .nx (setE is ss env) d) : Wp (sPar is ms) env ds Q := by
  obtain ⟨x, d, e, q⟩ := h
  exact ⟨.nx, _, d, sPar_of e, q⟩
theorem wp_forL {f : PyData → En → Option En} (I : List PyData → En → DS → Prop) : ∀ (xs : List PyData) (env : En) (ds : DS), I xs env ds →
    (∀ x xs env ds, I (x :: xs) env ds → ∃ env1, f x env = some env1 ∧ Wp b env1 ds (turnQ (I xs) Q)) → (∀ env ds, I [] env ds → Q .nx env ds) → Wp (sForL f b xs) env ds Q
  | [], env, ds, h, _, hr => ⟨_, _, _, rfl, hr env ds h⟩
  | x :: xs, env, ds, h, st, hr => by
    obtain ⟨env1, h1, o, e, d, w, q⟩ := st x xs env ds h
    cases o with
    | nx =>
      obtain ⟨o2, e2, d2, w2, q2⟩ := wp_forL I xs e d q st hr
      exact ⟨o2, e2, d2, by unfold sForL; rw [h1]; simp only; rw [w]; exact w2, q2⟩
    | ct =>
      obtain ⟨o2, e2, d2, w2, q2⟩ := wp_forL I xs e d q st hr
      exact ⟨o2, e2, d2, by unfold sForL; rw [h1]; simp only; rw [w]; exact w2, q2⟩
    | bk => exact ⟨.nx, e, d, by unfold sForL; rw [h1]; simp only; rw [w], q⟩
    | rt v => exact ⟨.rt v, e, d, by unfold sForL; rw [h1]; simp only; rw [w], q⟩
theorem wp_for {im : M (List PyData)} {f : PyData → En → Option En} (I : List PyData → En → DS → Prop) (h : Wm im env ds fun xs d => I xs env d)
    (st : ∀ x xs env ds, I (x :: xs) env ds → ∃ env1, f x env = some env1 ∧ Wp b env1 ds (turnQ (I xs) Q)) (hr : ∀ env ds, I [] env ds → Q .nx env ds) : Wp (sFor im f b) env ds Q := by
  obtain ⟨xs, d, e, h0⟩ := h
  obtain ⟨o2, e2, d2, w2, q2⟩ := wp_forL I xs env d h0 st hr
  exact ⟨o2, e2, d2, by rw [sFor_of e, w2], q2⟩
/-- .. where each turn is alike -/
theorem wp_each {im : M (List PyData)} {f : PyData → En → Option En} (I : En → DS → Prop) (P : PyData → Prop) (h : Wm im env ds fun xs d => (∀ x ∈ xs, P x) ∧ I env d)
    (st : ∀ x env ds, P x → I env ds → ∃ env1, f x env = some env1 ∧ Wp b env1 ds (turnQ I Q)) (hr : ∀ env ds, I env ds → Q .nx env ds) : Wp (sFor im f b) env ds Q :=
  wp_for (fun xs env ds => (∀ x ∈ xs, P x) ∧ I env ds) h (fun x xs env ds ⟨hp, hi⟩ => by
    obtain ⟨env1, h1, h2⟩ := st x env ds (hp x List.mem_cons_self) hi
    refine ⟨env1, h1, h2.imp fun o e d q => ?_⟩
    cases o with
    | nx => exact ⟨fun y hy => hp y (List.mem_cons_of_mem _ hy), q⟩
    | ct => exact ⟨fun y hy => hp y (List.mem_cons_of_mem _ hy), q⟩
    | bk => exact q
    | rt v => exact q) fun env ds h => hr env ds h.2
theorem wp_while {t : M Bool} {b : SM} {Q : Out → En → DS → Prop} (I : Nat → En → DS → Prop) (st : ∀ n env ds, I n env ds → Wm t env ds fun x d => if x = true then Wp b env d (turnQ (fun e d => ∃ k, k < n ∧ I k e d) Q) else Q .nx env d) :
    ∀ (n : Nat) (env : En) (ds : DS), I n env ds → Wp (sWhile t b) env ds Q
  | n, env, ds, h => by
    obtain ⟨x, d, e, q⟩ := st n env ds h
    cases x with
    | false => exact ⟨.nx, env, d, sWhile_f e, q⟩
    | true =>
      obtain ⟨o, e1, d1, w, q⟩ := q
      cases o with
      | nx =>
        obtain ⟨k, hk, hi⟩ := q
        obtain ⟨o2, e2, d2, w2, q2⟩ := wp_while I st k e1 d1 hi
        exact ⟨o2, e2, d2, by rw [sWhile_eq, e]; simp only; rw [w]; exact w2, q2⟩
      | ct =>
        obtain ⟨k, hk, hi⟩ := q
        obtain ⟨o2, e2, d2, w2, q2⟩ := wp_while I st k e1 d1 hi
        exact ⟨o2, e2, d2, by rw [sWhile_eq, e]; simp only; rw [w]; exact w2, q2⟩
      | bk => exact ⟨.nx, e1, d1, by rw [sWhile_eq, e]; simp only; rw [w], q⟩
      | rt v => exact ⟨.rt v, e1, d1, by rw [sWhile_eq, e]; simp only; rw [w], q⟩
  termination_by n => n
  decreasing_by all_goals assumption
/-! ### defs -/
theorem runD_wp {N : Nat} {s : SM} {xs : List PyData} (h : Wp s (envD N xs) none fun o _ _ => o = .rt d) : runD N s xs = some d := by
  obtain ⟨o, e, ds, w, rfl⟩ := h
  exact runD_of w
theorem runD_wpN {N : Nat} {s : SM} {xs : List PyData} (h : Wp s (envD N xs) none fun o _ _ => o = .rt d ∨ (o = .nx ∧ d = .none)) : runD N s xs = some d := by
  obtain ⟨o, e, ds, w, rfl | ⟨rfl, rfl⟩⟩ := h
  · exact runD_of w
  · unfold runD
    rw [w]
    rfl
theorem runW_wp {N : Nat} {s : SM} {xs : List PyData} {R : PyData → DS → Prop} (h : Wp s (envW N xs) ds fun o _ d => ∃ v, o = .rt v ∧ R v d) : ∃ v ds', runW N s xs ds = some (v, ds') ∧ R v ds' := by
  obtain ⟨o, e, d, w, v, rfl, q⟩ := h
  exact ⟨v, d, runW_of w, q⟩
theorem law_wp {N : Nat} {s : SM} (h : ∀ ds, GoodD ds → Wp s (envL N) ds fun o _ _ => o = .rt (.bool true)) : LawOk N s := fun c g => by
  obtain ⟨o, e, d, w, rfl⟩ := h _ g
  exact ⟨e, d, w⟩
end
end DL

set_option Elab.async false
set_option linter.all false
set_option maxRecDepth 100000
set_option maxHeartbeats 0
namespace K05
open PySem PySem.Spec PyProof.Rows L2 DL
noncomputable section
def topS (i : Nat) : Stmt := PySem.Challenge.pw_givesifgets_k05_tokens_and_their_places.main.body.getD i (.Pass ⟨0, 0, 0, 0⟩)
def c_WORD_SIGNS : PyData := (.str "abcdefghijklmnopqrstuvwxyzABCDEFGHIJKLMNOPQRSTUVWXYZ0123456789_")
abbrev s__law_draw : Stmt := topS 7
abbrev n__law_draw : List Str := ["_law_script", "_law_salt", "_law_cell", "_law_cells", "_law_blend"]
abbrev p__law_draw : List Str := ["_law_script", "_law_salt"]
abbrev s__law_any : Stmt := topS 8
abbrev n__law_any : List Str := ["_law_deal", "_law_bound", "_law_rest"]
abbrev p__law_any : List Str := ["_law_deal", "_law_bound"]
def m__law_any : SM := sSeq (sWhile (DL.tAnd (mCellsNe 0) (mLast0 0)) (sDrop (mPop 0))) (sSeq (sIf (mCellsNe 0) (sSeq (sAsg (tgN 2) (eA fInt [mPop 0])) (sSeq (sDrop (mPush 0 (e2 dFdiv (mVar 2) (mVar 1)))) (sRet (e2 dMod (mVar 2) (mVar 1))))) (sNx)) (sSeq (sSetBl 0 (e2 dMod (eA fInt [e2 dAdd (e2 dMul (mBlend 0) (mr (.int 40693))) (mr (.int 71))]) (mr (.int 2147483647)))) (sRet (e2 dMod (eA fInt [e2 dFdiv (mBlend 0) (mr (.int 64))]) (mVar 1)))))
def w__law_any : List PyData → DS → Option (PyData × DS) := runW 3 m__law_any
abbrev s__law_of : Stmt := topS 9
abbrev n__law_of : List Str := ["_law_deal", "_law_some"]
abbrev p__law_of : List Str := ["_law_deal", "_law_some"]
def m__law_of : SM := sRet (e2 dIx (mVar 1) (eCallW w__law_any 0 [eA fLen [mVar 1]]))
def w__law_of : List PyData → DS → Option (PyData × DS) := runW 2 m__law_of
abbrev s__law_text : Stmt := topS 11
abbrev n__law_text : List Str := ["_law_deal", "_law_some", "_law_turn"]
abbrev p__law_text : List Str := ["_law_deal"]
def m__law_text : SM := sSeq (sAsg (tgN 1) (mlst (mseq [mr (.str "a"), mr (.str "B_7"), mr (.str "kind"), mr (.str "0"), mr (.str "12"), mr (.str "007"), mr (.str "9x"), mr (.str "_"), mr (.str "-"), mr (.str ">"), mr (.str "="), mr (.str ";"), mr (.str ":"), mr (.str "{"), mr (.str "}"), mr (.str "["), mr (.str "("), mr (.str "'"), mr (.str "free"), mr (.str "to")]))) (sSeq (sAsg (tgN 1) (e2 dAdd (mVar 1) (mlst (mseq [mr (.str ","), mr (.str "?"), mr (.str "*"), mr (.str "$"), mr (.str "~"), mr (.str "!"), mr (.str "zZ09"), mr (.str "order:"), mr (.str "::"), mr (.str ";;"), mr (.str " "), mr (.str " "), mr (.str "  "), mr (.str "\n"), mr (.str "\n "), mr (.str "#"), mr (.str "##\n")])))) (sSeq (sAsg (tgN 1) (e2 dAdd (mVar 1) (mlst (mseq [mr (.str "# so : it is"), mr (.str " # a ; 3\n"), mr (.str "#\n#"), mr (.str "|"), mr (.str "&"), mr (.str "+")])))) (sRet (e2 dJoin (mr (.str "")) (mlst (mComp (mRange1 (eCallW w__law_any 0 [mr (.int 24)])) [2] (tgN 2) (mr true) (eCallW w__law_of 0 [mVar 1])))))))
def w__law_text : List PyData → DS → Option (PyData × DS) := runW 3 m__law_text
abbrev s__law_is_letter : Stmt := topS 12
abbrev n__law_is_letter : List Str := ["_law_sign"]
abbrev p__law_is_letter : List Str := ["_law_sign"]
def m__law_is_letter : SM := sRet (vOr (bv (t2 dEq (mVar 0) (mr (.str "_")))) (vOr (bv (t3 dLe dLe (mr (.str "a")) (mVar 0) (mr (.str "z")))) (vOr (bv (t3 dLe dLe (mr (.str "A")) (mVar 0) (mr (.str "Z")))) (bv (t3 dLe dLe (mr (.str "0")) (mVar 0) (mr (.str "9")))))))
def f__law_is_letter : List PyData → Option PyData := runD 1 m__law_is_letter
abbrev s__law_walk : Stmt := topS 13
abbrev n__law_walk : List Str := ["_law_text_here", "_law_found", "_law_state", "_law_at", "_law_sign"]
abbrev p__law_walk : List Str := ["_law_text_here"]
def m__law_walk : SM := sSeq (sPar [1, 2] [.n (mseq []), .d (mr (.str "gap"))]) (sSeq (sFor (mEnumA (mVar 0)) (tgT [tgN 3, tgN 4]) (sIf (t2 dEq (mVar 2) (mr (.str "remark"))) (sAsg (tgN 2) (eIf (t2 dEq (mVar 4) (mr (.str "\n"))) (mr (.str "gap")) (mr (.str "remark")))) (sIf (t2 dEq (mVar 4) (mr (.str "#"))) (sAsg (tgN 2) (mr (.str "remark"))) (sIf (t2 dIn (mVar 4) (mlst (mseq [mr (.str " "), mr (.str "\n")]))) (sAsg (tgN 2) (mr (.str "gap"))) (sIf (DL.tAnd (vt (eCall f__law_is_letter [0] [mVar 4] [])) (t2 dEq (mVar 2) (mr (.str "word")))) (sSetIx 1 (e1 dNeg (mr (.int 1))) (mtup (mseq [e2 dIx (e2 dIx (mMut 1) (e1 dNeg (mr (.int 1)))) (mr (.int 0)), e2 dAdd (e2 dIx (e2 dIx (mMut 1) (e1 dNeg (mr (.int 1)))) (mr (.int 1))) (mVar 4)]))) (sSeq (sApp 1 (mtup (mseq [mVar 3, mVar 4]))) (sAsg (tgN 2) (eIf (vt (eCall f__law_is_letter [0] [mVar 4] [])) (mr (.str "word")) (mr (.str "sign")))))))))) (sSeq (sFrz 1) (sRet (mVar 1))))
def f__law_walk : List PyData → Option PyData := runD 5 m__law_walk
abbrev s_skipped : Stmt := topS 2
abbrev n_skipped : List Str := ["text", "at", "is_remark"]
abbrev p_skipped : List Str := ["text", "at"]
def m_skipped : SM := sSeq (sAsg (tgN 2) (mr (.bool false))) (sSeq (sWhile (DL.tAnd (t2 dLt (mVar 1) (eA fLen [mVar 0])) (DL.tOr (vt (mVar 2)) (t2 dIn (e2 dIx (mVar 0) (mVar 1)) (mr (.str " \n#"))))) (sSeq (sAsg (tgN 2) (vAnd (bv (t2 dNe (e2 dIx (mVar 0) (mVar 1)) (mr (.str "\n")))) (vOr (mVar 2) (bv (t2 dEq (e2 dIx (mVar 0) (mVar 1)) (mr (.str "#"))))))) (sAsg (tgN 1) (e2 dAdd (mVar 1) (mr (.int 1)))))) (sRet (mVar 1)))
def f_skipped : List PyData → Option PyData := runD 3 m_skipped
abbrev s_token_end : Stmt := topS 3
abbrev n_token_end : List Str := ["text", "at", "end"]
abbrev p_token_end : List Str := ["text", "at"]
def m_token_end : SM := sSeq (sAsg (tgN 2) (mVar 1)) (sSeq (sWhile (DL.tAnd (t2 dLt (mVar 2) (eA fLen [mVar 0])) (t2 dIn (e2 dIx (mVar 0) (mVar 2)) (mr c_WORD_SIGNS))) (sAsg (tgN 2) (e2 dAdd (mVar 2) (mr (.int 1))))) (sRet (eA fMax [mVar 2, e2 dAdd (mVar 1) (mr (.int 1))])))
def f_token_end : List PyData → Option PyData := runD 3 m_token_end
abbrev s_token_places : Stmt := topS 4
abbrev n_token_places : List Str := ["text", "found", "at"]
abbrev p_token_places : List Str := ["text"]
def m_token_places : SM := sSeq (sPar [1, 2] [.n (mseq []), .d (eCall f_skipped [0, 1] [mVar 0, mr (.int 0)] [])]) (sSeq (sWhile (t2 dLt (mVar 2) (eA fLen [mVar 0])) (sSeq (sApp 1 (mVar 2)) (sAsg (tgN 2) (eCall f_skipped [0, 1] [mVar 0, eCall f_token_end [0, 1] [mVar 0, mVar 2] []] [])))) (sRet (eA fTuple [mMut 1])))
def f_token_places : List PyData → Option PyData := runD 3 m_token_places
abbrev s_tokens_of : Stmt := topS 5
abbrev n_tokens_of : List Str := ["text", "at"]
abbrev p_tokens_of : List Str := ["text"]
def m_tokens_of : SM := sRet (eA fTuple [mlst (mComp (mIt (eCall f_token_places [0] [mVar 0] [])) [1] (tgN 1) (mr true) (eSl (mVar 0) (oPart (mVar 1)) (oPart (eCall f_token_end [0, 1] [mVar 0, mVar 1] []))))])
def f_tokens_of : List PyData → Option PyData := runD 2 m_tokens_of
abbrev s_law : Stmt := topS 14
abbrev n_law : List Str := ["_law_script", "_law_deal", "_law_text_here", "_law_due", "_law_turn", "_law_tokens", "_law_places", "_law_at", "_law_end", "_law_more", "_law_token", "_law_place"]
abbrev p_law : List Str := ["_law_script"]
abbrev k_law_3 : PySem.Scope := { kind := .function, names := [(".0", .local), ("_law_at", .local), ("sum", .globalImplicit), ("_law_tokens", .cell)], isGenerator := false, isCoroutine := false, more := [] }
def m_law : SM := sSeq (sAsg (tgN 2) (eCallW w__law_text 1 [])) (sSeq (sAsg (tgN 3) (eCall f__law_walk [0] [mVar 2] [])) (sSeq (sPar [5, 6] [.d (eA fTuple [mlst (mComp (mIt (mVar 3)) [7, 10] (tgT [tgN 7, tgN 10]) (mr true) (mVar 10))]), .d (eA fTuple [mlst (mComp (mIt (mVar 3)) [7, 10] (tgT [tgN 7, tgN 10]) (mr true) (mVar 7))])]) (sSeq (sFor (mRange1 (mr (.int 2))) (tgN 4) (sIf (DL.tOr (t2 dNe (eA fRepr [eCall f_tokens_of [0] [] [mVar 2]]) (eA fRepr [mVar 5])) (t2 dNe (eA fRepr [eCall f_token_places [0] [] [mVar 2]]) (eA fRepr [mVar 6]))) (sRet (mr (.bool false))) (sNx))) (sSeq (sIf (DL.tOr (t2 dNe (eCall f_tokens_of [0] [e2 dJoin (mr (.str " ")) (mVar 5)] []) (mVar 5)) (t2 dNe (eCall f_tokens_of [0] [e2 dJoin (mr (.str "\n")) (mVar 5)] []) (mVar 5))) (sRet (mr (.bool false))) (sNx)) (sSeq (sIf (t2 dNe (eCall f_token_places [0] [e2 dJoin (mr (.str " ")) (mVar 5)] []) (eA fTuple [mlst (mComp (mRange1 (eA fLen [mVar 5])) [7] (tgN 7) (mr true) (eA fSum [mlst (mComp (mIt (eSl (mVar 5) (mr none) (oPart (mVar 7)))) [10] (tgN 10) (mr true) (e2 dAdd (eA fLen [mVar 10]) (mr (.int 1))))]))])) (sRet (mr (.bool false))) (sNx)) (sSeq (sIf (t2 dNe (mVar 3) (mlst (mseq []))) (sSeq (sAsg (tgN 7) (eCallW w__law_any 1 [eA fLen [mVar 3]])) (sSeq (sAsg (tgN 8) (e2 dAdd (e2 dIx (e2 dIx (mVar 3) (mVar 7)) (mr (.int 0))) (eA fLen [e2 dIx (e2 dIx (mVar 3) (mVar 7)) (mr (.int 1))]))) (sSeq (sAsg (tgN 9) (e2 dAdd (e2 dAdd (eSl (mVar 2) (mr none) (oPart (mVar 8))) (mr (.str "# : 3 ; xy\n"))) (eSl (mVar 2) (oPart (mVar 8)) (mr none)))) (sIf (DL.tOr (t2 dNe (eCall f_tokens_of [0] [mVar 9] []) (mVar 5)) (t2 dNe (eSl (eCall f_token_places [0] [mVar 9] []) (oPart (e2 dAdd (mVar 7) (mr (.int 1)))) (mr none)) (eA fTuple [mlst (mComp (mIt (eSl (mVar 6) (oPart (e2 dAdd (mVar 7) (mr (.int 1)))) (mr none))) [11] (tgN 11) (mr true) (e2 dAdd (mVar 11) (mr (.int 11))))]))) (sRet (mr (.bool false))) (sNx))))) (sNx)) (sRet (vAnd (bv (t2 dEq (eCall f_tokens_of [0] [mr (.str "")] []) (mtup (mseq [])))) (bv (t2 dEq (eCall f_token_places [0] [mr (.str "# a")] []) (mtup (mseq []))))))))))))
end
end K05

set_option Elab.async false
set_option linter.all false
set_option maxRecDepth 100000
set_option maxHeartbeats 0
/-! derivations -/
namespace K05
open PySem PySem.Spec PyProof.Rows L2 DL
theorem S__law_draw : FnScope n__law_draw p__law_draw (defScope s__law_draw) := ⟨rfl, rfl, rfl, by decide +kernel, rfl, by decide +kernel, by decide +kernel⟩
theorem S__law_any : FnScope n__law_any p__law_any (defScope s__law_any) := ⟨rfl, rfl, rfl, by decide +kernel, rfl, by decide +kernel, by decide +kernel⟩
theorem S__law_of : FnScope n__law_of p__law_of (defScope s__law_of) := ⟨rfl, rfl, rfl, by decide +kernel, rfl, by decide +kernel, by decide +kernel⟩
theorem S__law_text : FnScope n__law_text p__law_text (defScope s__law_text) := ⟨rfl, rfl, rfl, by decide +kernel, rfl, by decide +kernel, by decide +kernel⟩
theorem S__law_is_letter : FnScope n__law_is_letter p__law_is_letter (defScope s__law_is_letter) := ⟨rfl, rfl, rfl, by decide +kernel, rfl, by decide +kernel, by decide +kernel⟩
theorem S__law_walk : FnScope n__law_walk p__law_walk (defScope s__law_walk) := ⟨rfl, rfl, rfl, by decide +kernel, rfl, by decide +kernel, by decide +kernel⟩
theorem S_skipped : FnScope n_skipped p_skipped (defScope s_skipped) := ⟨rfl, rfl, rfl, by decide +kernel, rfl, by decide +kernel, by decide +kernel⟩
theorem S_token_end : FnScope n_token_end p_token_end (defScope s_token_end) := ⟨rfl, rfl, rfl, by decide +kernel, rfl, by decide +kernel, by decide +kernel⟩
theorem S_token_places : FnScope n_token_places p_token_places (defScope s_token_places) := ⟨rfl, rfl, rfl, by decide +kernel, rfl, by decide +kernel, by decide +kernel⟩
theorem S_tokens_of : FnScope n_tokens_of p_tokens_of (defScope s_tokens_of) := ⟨rfl, rfl, rfl, by decide +kernel, rfl, by decide +kernel, by decide +kernel⟩
theorem S_law : FnScope n_law p_law (defScope s_law) := ⟨rfl, rfl, rfl, by decide +kernel, rfl, by decide +kernel, by decide +kernel⟩
theorem b__law_any_2 : BindsK "_law_any" s__law_any p__law_any 2 [] [0, 1] := fun _ _ _ _ _ _ us ws h1 h2 => match us, h1, ws, h2 with | [_, _], _, [], _ => rfl
theorem b__law_of_2 : BindsK "_law_of" s__law_of p__law_of 2 [] [0, 1] := fun _ _ _ _ _ _ us ws h1 h2 => match us, h1, ws, h2 with | [_, _], _, [], _ => rfl
theorem b__law_is_letter_1 : BindsK "_law_is_letter" s__law_is_letter p__law_is_letter 1 [] [0] := fun _ _ _ _ _ _ us ws h1 h2 => match us, h1, ws, h2 with | [_], _, [], _ => rfl
theorem b_skipped_2 : BindsK "skipped" s_skipped p_skipped 2 [] [0, 1] := fun _ _ _ _ _ _ us ws h1 h2 => match us, h1, ws, h2 with | [_, _], _, [], _ => rfl
theorem b_token_end_2 : BindsK "token_end" s_token_end p_token_end 2 [] [0, 1] := fun _ _ _ _ _ _ us ws h1 h2 => match us, h1, ws, h2 with | [_, _], _, [], _ => rfl
theorem b_token_places_1 : BindsK "token_places" s_token_places p_token_places 1 [] [0] := fun _ _ _ _ _ _ us ws h1 h2 => match us, h1, ws, h2 with | [_], _, [], _ => rfl
theorem b__law_text_1 : BindsK "_law_text" s__law_text p__law_text 1 [] [0] := fun _ _ _ _ _ _ us ws h1 h2 => match us, h1, ws, h2 with | [_], _, [], _ => rfl
theorem b__law_walk_1 : BindsK "_law_walk" s__law_walk p__law_walk 1 [] [0] := fun _ _ _ _ _ _ us ws h1 h2 => match us, h1, ws, h2 with | [_], _, [], _ => rfl
theorem b_tokens_of_0_text : BindsK "tokens_of" s_tokens_of p_tokens_of 0 ["text"] [0] := fun _ _ _ _ _ _ us ws h1 h2 => match us, h1, ws, h2 with | [], _, [_], _ => rfl
theorem b_token_places_0_text : BindsK "token_places" s_token_places p_token_places 0 ["text"] [0] := fun _ _ _ _ _ _ us ws h1 h2 => match us, h1, ws, h2 with | [], _, [_], _ => rfl
theorem b_tokens_of_1 : BindsK "tokens_of" s_tokens_of p_tokens_of 1 [] [0] := fun _ _ _ _ _ _ us ws h1 h2 => match us, h1, ws, h2 with | [_], _, [], _ => rfl
theorem b__law_draw_2 : BindsK "_law_draw" s__law_draw p__law_draw 2 [] [0, 1] := fun _ _ _ _ _ _ us ws h1 h2 => match us, h1, ws, h2 with | [_, _], _, [], _ => rfl
section
variable {P : Program} {w : World} {K : PySem.W.Frag} {mg : Str → Option Value} {base : Heap} {f : Addr} {fd : FuncData}
theorem ok__law_draw (F : Fun K "_law_draw" "_law_draw" s__law_draw f fd) (z_abs : mg "abs" = none) (z_int : mg "int" = none) : FnG P w K mg base CX0 1 f fd p__law_draw (spDraw K) := by
  refine draw_ok (N := n__law_draw) F S__law_draw rfl rfl fun cdv A outer s H E ns hG hr => ?_
  have hN := S__law_draw.nd
  exact pss_cons (by exact ps_setLc (i := 3) (own := [("_law_cell", 2)]) rfl hN rfl rfl rfl (by exact di_scr ns) (blkOk_by (N := n__law_draw) (sc := defScope s__law_draw) (own := [("_law_cell", 2)]) (by decide +kernel)) (fun _ _ _ _ _ => by exact pg_name (i := 2) hN rfl (by first | exact Or.inl rfl | exact Or.inr rfl)) (fun _ _ _ _ _ => by exact dts_nil) (fun _ _ _ _ _ => by exact dx_callB call_abs o_abs rfl z_abs rfl (by exact dab_cons (by exact rb (by exact dx_callTy call_int1 o_intOf rfl z_int rfl (by exact dab_cons (by exact rb (by exact dx_var (i := 2))) dab_nil))) dab_nil)))     (by exact pss_cons (by exact ds_set (i := 4) hN (by exact dx_bin op_addM o_add (by exact rb dx_int) (by exact rb (by exact dx_bin op_mulW o_mul (by exact rb dx_int) (by exact rb (by exact dx_var (i := 1)))))))     (by exact pss_cons (by exact ds_for PassesOwn.never rfl (by exact di_seq (by exact dx_var (i := 3))) (by exact pg_name (i := 2) hN rfl (by first | exact Or.inl rfl | exact Or.inr rfl)) (by exact dss_one (by exact ds_set (i := 4) hN (by exact dx_bin op_mod o_mod (by exact rb (by exact dx_callTy call_int1 o_intOf rfl z_int rfl (by exact dab_cons (by exact rb (by exact dx_bin op_addM o_add (by exact rb (by exact dx_bin op_addM o_add (by exact rb (by exact dx_bin op_mulW o_mul (by exact rb (by exact dx_var (i := 4))) (by exact rb dx_int))) (by exact rb (by exact dx_bin op_mod o_mod (by exact rb (by exact dx_var (i := 2))) (by exact rb dx_int))))) (by exact rb dx_int))) dab_nil))) (by exact rb dx_int)))) tg_name)     (by exact pss_one (by exact ps_rret (by exact dn_rev (by exact rb (by exact frz (by exact dn_comp (own := [("_law_cell", 2)]) rfl hN (by exact di_seq (by exact dx_var (i := 3))) (blkOk_by (N := n__law_draw) (sc := defScope s__law_draw) (own := [("_law_cell", 2)]) (by decide +kernel)) (fun _ _ _ _ _ => by exact pg_name (i := 2) hN rfl (by first | exact Or.inl rfl | exact Or.inr rfl)) (fun _ _ _ _ _ => by exact dts_one (by exact dt_cmp op_geM o_ge (by exact rb (by exact dx_var (i := 2))) (by exact rb (by exact dx_bin op_pow o_pow (by exact rb dx_int) (by exact rb dx_int))))) (fun _ _ _ _ _ => by exact dx_var (i := 2)) tg_name (by decide))))) (by exact dx_var (i := 4))))))
theorem ok__law_any (F : Fun K "_law_any" "_law_any" s__law_any f fd) (z_int : mg "int" = none) : FnG P w K mg base CX0 1 f fd p__law_any (spW K 2 w__law_any) := by
  refine (fnW (N := n__law_any) (ps := p__law_any) (m := m__law_any) F S__law_any (by decide) fun cdv A outer s H E hG hr => ?_)
  have hN := S__law_any.nd
  have hu64 := hu64 hr
  have hu66 := hu66 hr
  have hu0 := hu0 hr
  exact dss_cons (by exact ds_while PassesOwn.never (by exact PW.pt (by exact dw_and (by exact dt_cellsNe hu0 pe_q) (by exact dw_and1 (by exact dt_last0 pe_q)))) (by exact dss_one (by exact ds_expr (by exact dx_qpop (i := 0) pe_q)))) (by exact dss_cons (by exact ds_if (by exact dt_cellsNe hu0 pe_q) (by exact dss_cons (by exact ds_set (i := 2) hN (by exact dx_callTy call_int1 o_intOf rfl z_int rfl (by exact dab_cons (by exact rb (by exact dx_qpop (i := 0) pe_q)) (dab_nil)))) (by exact dss_cons (by exact ds_expr (by exact dx_qpush (i := 0) pe_q (by exact dx_bin op_fdivW o_fdiv (by exact rb (by exact dx_var (i := 2))) (by exact rb (by exact dx_var (i := 1)))))) (by exact dss_one (by exact ds_ret (by exact dx_bin op_mod o_mod (by exact rb (by exact dx_var (i := 2))) (by exact rb (by exact dx_var (i := 1)))))))) (by exact dss_nil)) (by exact dss_cons (by exact ds_setbl (by exact ps_asg (by exact dx_bin op_mod o_mod (by exact rb (by exact dx_callTy call_int1 o_intOf rfl z_int rfl (by exact dab_cons (by exact rb (by exact dx_bin op_addM o_add (by exact rb (by exact dx_bin op_mulW o_mul (by exact rb (by exact dx_blend (i := 0))) (by exact rb (by exact dx_int)))) (by exact rb (by exact dx_int)))) (dab_nil)))) (by exact rb (by exact dx_int))) (by exact pg_sub (pe_var (i := 0) rfl (by first | exact Or.inl rfl | exact Or.inr (Or.inl rfl))) pe_int set_list))) (by exact dss_one (by exact ds_ret (by exact dx_bin op_mod o_mod (by exact rb (by exact dx_callTy call_int1 o_intOf rfl z_int rfl (by exact dab_cons (by exact rb (by exact dx_bin op_fdivW o_fdiv (by exact rb (by exact dx_blend (i := 0))) (by exact rb (by exact dx_int)))) (dab_nil)))) (by exact rb (by exact dx_var (i := 1))))))))
theorem ok__law_of (F : Fun K "_law_of" "_law_of" s__law_of f fd) (C__law_any : Cal P w K mg base "_law_any" s__law_any 1 p__law_any (spW K 2 w__law_any)) (z_len : mg "len" = none) : FnG P w K mg base CX0 2 f fd p__law_of (spW K 2 w__law_of) := by
  refine (fnW (N := n__law_of) (ps := p__law_of) (m := m__law_of) F S__law_of (by decide) fun cdv A outer s H E hG hr => ?_)
  have hN := S__law_of.nd
  have hu64 := hu64 hr
  have hu66 := hu66 hr
  have hu0 := hu0 hr
  exact dss_one (by exact ds_ret (by exact dx_ix (by exact rb (by exact dx_var (i := 1))) (by exact rb (by exact dx_callW (ps := p__law_any) (by exact pe_cal (n := 2) (ks := []) (ix := [0, 1]) C__law_any hG hr (by decide) rfl b__law_any_2 (pa_cons (pe_var (i := 0) rfl (by first | exact Or.inl rfl | exact Or.inr (Or.inl rfl) | exact Or.inr (Or.inr rfl))) (by exact da_cons (by exact dx_callB call_len o_len rfl z_len rfl (by exact dab_cons (by exact rb (by exact dx_var (i := 1))) (dab_nil))) (da_nil))) pk_nil)))))
theorem ok__law_text (F : Fun K "_law_text" "_law_text" s__law_text f fd) (C__law_any : Cal P w K mg base "_law_any" s__law_any 1 p__law_any (spW K 2 w__law_any)) (C__law_of : Cal P w K mg base "_law_of" s__law_of 2 p__law_of (spW K 2 w__law_of)) (z_range : mg "range" = none) : FnG P w K mg base CX0 3 f fd p__law_text (spW K 1 w__law_text) := by
  refine (fnW (N := n__law_text) (ps := p__law_text) (m := m__law_text) F S__law_text (by decide) fun cdv A outer s H E hG hr => ?_)
  have hN := S__law_text.nd
  have hu64 := hu64 hr
  have hu66 := hu66 hr
  have hu0 := hu0 hr
  exact dss_cons (by exact ds_set (i := 1) hN (by exact frz (by exact dn_lst (by exact da_cons (by exact dx_str) (by exact da_cons (by exact dx_str) (by exact da_cons (by exact dx_str) (by exact da_cons (by exact dx_str) (by exact da_cons (by exact dx_str) (by exact da_cons (by exact dx_str) (by exact da_cons (by exact dx_str) (by exact da_cons (by exact dx_str) (by exact da_cons (by exact dx_str) (by exact da_cons (by exact dx_str) (by exact da_cons (by exact dx_str) (by exact da_cons (by exact dx_str) (by exact da_cons (by exact dx_str) (by exact da_cons (by exact dx_str) (by exact da_cons (by exact dx_str) (by exact da_cons (by exact dx_str) (by exact da_cons (by exact dx_str) (by exact da_cons (by exact dx_str) (by exact da_cons (by exact dx_str) (by exact da_cons (by exact dx_str) (da_nil)))))))))))))))))))))))) (by exact dss_cons (by exact ds_set (i := 1) hN (by exact dx_bin op_addM o_add (by exact rb (by exact dx_var (i := 1))) (by exact rb (by exact frz (by exact dn_lst (by exact da_cons (by exact dx_str) (by exact da_cons (by exact dx_str) (by exact da_cons (by exact dx_str) (by exact da_cons (by exact dx_str) (by exact da_cons (by exact dx_str) (by exact da_cons (by exact dx_str) (by exact da_cons (by exact dx_str) (by exact da_cons (by exact dx_str) (by exact da_cons (by exact dx_str) (by exact da_cons (by exact dx_str) (by exact da_cons (by exact dx_str) (by exact da_cons (by exact dx_str) (by exact da_cons (by exact dx_str) (by exact da_cons (by exact dx_str) (by exact da_cons (by exact dx_str) (by exact da_cons (by exact dx_str) (by exact da_cons (by exact dx_str) (da_nil))))))))))))))))))))))) (by exact dss_cons (by exact ds_set (i := 1) hN (by exact dx_bin op_addM o_add (by exact rb (by exact dx_var (i := 1))) (by exact rb (by exact frz (by exact dn_lst (by exact da_cons (by exact dx_str) (by exact da_cons (by exact dx_str) (by exact da_cons (by exact dx_str) (by exact da_cons (by exact dx_str) (by exact da_cons (by exact dx_str) (by exact da_cons (by exact dx_str) (da_nil)))))))))))) (by exact dss_one (by exact ds_ret (by exact dx_join (by exact dx_str) (by exact frz (by exact dn_comp (own := [("_law_turn", 2)]) rfl hN (by exact di_range1 rfl z_range (by exact dx_callW (ps := p__law_any) (by exact pe_cal (n := 2) (ks := []) (ix := [0, 1]) C__law_any hG hr (by decide) rfl b__law_any_2 (pa_cons (pe_var (i := 0) rfl (by first | exact Or.inl rfl | exact Or.inr (Or.inl rfl) | exact Or.inr (Or.inr rfl))) (by exact da_cons (by exact dx_int) (da_nil))) pk_nil))) (blkOk_by (N := n__law_text) (sc := defScope s__law_text) (own := [("_law_turn", 2)]) (by decide +kernel)) (fun _ _ _ _ _ => by exact pg_name (i := 2) hN rfl (by first | exact Or.inl rfl | exact Or.inr rfl)) (fun _ _ _ _ _ => by exact dts_nil) (fun _ _ _ _ _ => by exact dx_callW (ps := p__law_of) (by exact pe_cal (n := 2) (ks := []) (ix := [0, 1]) C__law_of hG hr (by decide) rfl b__law_of_2 (pa_cons (pe_var (i := 0) rfl (by first | exact Or.inl rfl | exact Or.inr (Or.inl rfl) | exact Or.inr (Or.inr rfl))) (by exact da_cons (by exact dx_var (i := 1)) (da_nil))) pk_nil)) (tg_name) (by decide))))))))
theorem ok__law_is_letter (F : Fun K "_law_is_letter" "_law_is_letter" s__law_is_letter f fd)  : FnG P w K mg base CX0 1 f fd p__law_is_letter (spD K 1 f__law_is_letter) := by
  refine (fnD (N := n__law_is_letter) (ps := p__law_is_letter) (m := m__law_is_letter) F S__law_is_letter (by decide) fun cdv A outer s H E hG hr => ?_)
  have hN := S__law_is_letter.nd
  have hu64 := hu64 hr
  have hu66 := hu66 hr
  have hu0 := hu0 hr
  exact dss_one (by exact ds_ret (by exact dx_or (by exact dx_cmp (op_eqA hu64) o_eq (by exact rb (by exact dx_var (i := 0))) (by exact rb (by exact dx_str))) (by exact dx_or (by exact dx_chain op_leM op_leM o_le o_le (by exact rb (by exact dx_str)) (by exact rb (by exact dx_var (i := 0))) (by exact rb (by exact dx_str))) (by exact dx_or (by exact dx_chain op_leM op_leM o_le o_le (by exact rb (by exact dx_str)) (by exact rb (by exact dx_var (i := 0))) (by exact rb (by exact dx_str))) (by exact dx_one (by exact dx_chain op_leM op_leM o_le o_le (by exact rb (by exact dx_str)) (by exact rb (by exact dx_var (i := 0))) (by exact rb (by exact dx_str))))))))
theorem ok__law_walk (F : Fun K "_law_walk" "_law_walk" s__law_walk f fd) (C__law_is_letter : Cal P w K mg base "_law_is_letter" s__law_is_letter 1 p__law_is_letter (spD K 1 f__law_is_letter)) (z_enumerate : mg "enumerate" = none) : FnG P w K mg base CX0 2 f fd p__law_walk (spD K 1 f__law_walk) := by
  refine (fnD (N := n__law_walk) (ps := p__law_walk) (m := m__law_walk) F S__law_walk (by decide) fun cdv A outer s H E hG hr => ?_)
  have hN := S__law_walk.nd
  have hu64 := hu64 hr
  have hu66 := hu66 hr
  have hu0 := hu0 hr
  exact dss_cons (by exact ds_par2 (by exact ps_par (i := 1) (j := 2) rfl hN rfl rfl (by decide) rfl rfl (by exact dam_n (by exact dn_lst (da_nil)) (by exact dam_d (by exact dx_str) (by exact dam_nil))) rfl)) (by exact dss_cons (by exact ds_for PassesOwn.never rfl (by exact di_enumA rfl z_enumerate (by exact dx_var (i := 0))) (by exact pg_tup rfl (by exact pgs_cons (by exact pg_name (i := 3) hN rfl (by first | exact Or.inl rfl | exact Or.inr rfl)) (by exact pgs_cons (by exact pg_name (i := 4) hN rfl (by first | exact Or.inl rfl | exact Or.inr rfl)) (by exact pgs_nil)))) (by exact dss_one (by exact ds_if (by exact dt_cmp (op_eqA hu64) o_eq (by exact rb (by exact dx_var (i := 2))) (by exact rb (by exact dx_str))) (by exact dss_one (by exact ds_set (i := 2) hN (by exact dx_if (by exact dt_cmp (op_eqA hu64) o_eq (by exact rb (by exact dx_var (i := 4))) (by exact rb (by exact dx_str))) (by exact dx_str) (by exact dx_str)))) (by exact dss_one (by exact ds_if (by exact dt_cmp (op_eqA hu64) o_eq (by exact rb (by exact dx_var (i := 4))) (by exact rb (by exact dx_str))) (by exact dss_one (by exact ds_set (i := 2) hN (by exact dx_str))) (by exact dss_one (by exact ds_if (by exact dt_cmp (op_inA hu66) o_in (by exact rb (by exact dx_var (i := 4))) (by exact rb (by exact frz (by exact dn_lst (by exact da_cons (by exact dx_str) (by exact da_cons (by exact dx_str) (da_nil))))))) (by exact dss_one (by exact ds_set (i := 2) hN (by exact dx_str))) (by exact dss_one (by exact ds_if (by exact PW.pt (by exact dw_and (by exact dt_val (by exact dx_call (ps := p__law_is_letter) (by exact pe_cal (n := 1) (ks := []) (ix := [0]) C__law_is_letter hG hr (by decide) rfl b__law_is_letter_1 (by exact da_cons (by exact dx_var (i := 4)) (da_nil)) (dk_nil)))) (by exact dw_and1 (by exact dt_cmp (op_eqA hu64) o_eq (by exact rb (by exact dx_var (i := 2))) (by exact rb (by exact dx_str)))))) (by exact dss_one (by exact ds_setix (by exact ps_asg (by exact dx_tup (by exact da_cons (by exact dx_ix (by exact rb (by exact dx_ix (db_mut (i := 1)) (by exact rb (by exact dx_neg (by exact dx_int))))) (by exact rb (by exact dx_int))) (by exact da_cons (by exact dx_bin op_addM o_add (by exact rb (by exact dx_ix (by exact rb (by exact dx_ix (db_mut (i := 1)) (by exact rb (by exact dx_neg (by exact dx_int))))) (by exact rb (by exact dx_int)))) (by exact rb (by exact dx_var (i := 4)))) (da_nil)))) (by exact pg_sub (pe_var (i := 1) rfl (by first | exact Or.inl rfl | exact Or.inr (Or.inl rfl))) (by exact dx_neg (by exact dx_int)) set_list)))) (by exact dss_cons (by exact ds_app (by exact ps_expr (by exact pe_bm PySem.F.plainAttrs_list PySem.F.slot_list_append PySem.F.type_list_append mt_append (pe_var (i := 1) rfl (by first | exact Or.inl rfl | exact Or.inr (Or.inl rfl) | exact Or.inr (Or.inr rfl))) (pa_cons (by exact dx_tup (by exact da_cons (by exact dx_var (i := 3)) (by exact da_cons (by exact dx_var (i := 4)) (da_nil)))) pa_nil)))) (by exact dss_one (by exact ds_set (i := 2) hN (by exact dx_if (by exact dt_val (by exact dx_call (ps := p__law_is_letter) (by exact pe_cal (n := 1) (ks := []) (ix := [0]) C__law_is_letter hG hr (by decide) rfl b__law_is_letter_1 (by exact da_cons (by exact dx_var (i := 4)) (da_nil)) (dk_nil)))) (by exact dx_str) (by exact dx_str))))))))))))) (tg_tup (tgs_cons (tg_name) (tgs_cons (tg_name) (tgs_nil))) rfl)) (by exact dss_frz 1 (by exact dss_one (by exact ds_ret (by exact dx_var (i := 1))))))
theorem ok_skipped (F : Fun K "skipped" "skipped" s_skipped f fd) (z_len : mg "len" = none) : FnG P w K mg base CX0 1 f fd p_skipped (spD K 2 f_skipped) := by
  refine (fnD (N := n_skipped) (ps := p_skipped) (m := m_skipped) F S_skipped (by decide) fun cdv A outer s H E hG hr => ?_)
  have hN := S_skipped.nd
  have hu64 := hu64 hr
  have hu66 := hu66 hr
  have hu0 := hu0 hr
  exact dss_cons (by exact ds_set (i := 2) hN (by exact dx_bool)) (by exact dss_cons (by exact ds_while PassesOwn.never (by exact PW.pt (by exact dw_and (by exact dt_cmp (op_ltM hu0) o_lt (by exact rb (by exact dx_var (i := 1))) (by exact rb (by exact dx_callB call_len o_len rfl z_len rfl (by exact dab_cons (by exact rb (by exact dx_var (i := 0))) (dab_nil))))) (by exact dw_and1 (by exact PW.pt (by exact dw_or (by exact dt_val (by exact dx_var (i := 2))) (by exact dw_or1 (by exact dt_cmp (op_inA hu66) o_in (by exact rb (by exact dx_ix (by exact rb (by exact dx_var (i := 0))) (by exact rb (by exact dx_var (i := 1))))) (by exact rb (by exact dx_str))))))))) (by exact dss_cons (by exact ds_set (i := 2) hN (by exact dx_and (by exact dx_cmp (op_neA hu64) o_ne (by exact rb (by exact dx_ix (by exact rb (by exact dx_var (i := 0))) (by exact rb (by exact dx_var (i := 1))))) (by exact rb (by exact dx_str))) (by exact dx_one (by exact dx_or (by exact dx_var (i := 2)) (by exact dx_one (by exact dx_cmp (op_eqA hu64) o_eq (by exact rb (by exact dx_ix (by exact rb (by exact dx_var (i := 0))) (by exact rb (by exact dx_var (i := 1))))) (by exact rb (by exact dx_str)))))))) (by exact dss_one (by exact ds_set (i := 1) hN (by exact dx_bin op_addM o_add (by exact rb (by exact dx_var (i := 1))) (by exact rb (by exact dx_int))))))) (by exact dss_one (by exact ds_ret (by exact dx_var (i := 1)))))
theorem ok_token_end (F : Fun K "token_end" "token_end" s_token_end f fd) (z_len : mg "len" = none) (z_max : mg "max" = none) {v_WORD_SIGNS : V} {u_WORD_SIGNS : Value} (hc_WORD_SIGNS : mg "WORD_SIGNS" = some u_WORD_SIGNS) (rv_WORD_SIGNS : RelV v_WORD_SIGNS u_WORD_SIGNS) (dv_WORD_SIGNS : ∀ F, Dv K F v_WORD_SIGNS c_WORD_SIGNS) : FnG P w K mg base CX0 1 f fd p_token_end (spD K 2 f_token_end) := by
  refine (fnD (N := n_token_end) (ps := p_token_end) (m := m_token_end) F S_token_end (by decide) fun cdv A outer s H E hG hr => ?_)
  have hN := S_token_end.nd
  have hu64 := hu64 hr
  have hu66 := hu66 hr
  have hu0 := hu0 hr
  exact dss_cons (by exact ds_set (i := 2) hN (by exact dx_var (i := 1))) (by exact dss_cons (by exact ds_while PassesOwn.never (by exact PW.pt (by exact dw_and (by exact dt_cmp (op_ltM hu0) o_lt (by exact rb (by exact dx_var (i := 2))) (by exact rb (by exact dx_callB call_len o_len rfl z_len rfl (by exact dab_cons (by exact rb (by exact dx_var (i := 0))) (dab_nil))))) (by exact dw_and1 (by exact dt_cmp (op_inA hu66) o_in (by exact rb (by exact dx_ix (by exact rb (by exact dx_var (i := 0))) (by exact rb (by exact dx_var (i := 2))))) (by exact rb (by exact dx_glob rfl hc_WORD_SIGNS rv_WORD_SIGNS dv_WORD_SIGNS)))))) (by exact dss_one (by exact ds_set (i := 2) hN (by exact dx_bin op_addM o_add (by exact rb (by exact dx_var (i := 2))) (by exact rb (by exact dx_int)))))) (by exact dss_one (by exact ds_ret (by exact dx_callB (call_maxA rfl) o_max rfl z_max rfl (by exact dab_cons (by exact rb (by exact dx_var (i := 2))) (by exact dab_cons (by exact rb (by exact dx_bin op_addM o_add (by exact rb (by exact dx_var (i := 1))) (by exact rb (by exact dx_int)))) (dab_nil)))))))
theorem ok_token_places (F : Fun K "token_places" "token_places" s_token_places f fd) (C_skipped : Cal P w K mg base "skipped" s_skipped 1 p_skipped (spD K 2 f_skipped)) (C_token_end : Cal P w K mg base "token_end" s_token_end 1 p_token_end (spD K 2 f_token_end)) (z_len : mg "len" = none) (z_tuple : mg "tuple" = none) : FnG P w K mg base CX0 2 f fd p_token_places (spD K 1 f_token_places) := by
  refine (fnD (N := n_token_places) (ps := p_token_places) (m := m_token_places) F S_token_places (by decide) fun cdv A outer s H E hG hr => ?_)
  have hN := S_token_places.nd
  have hu64 := hu64 hr
  have hu66 := hu66 hr
  have hu0 := hu0 hr
  exact dss_cons (by exact ds_par2 (by exact ps_par (i := 1) (j := 2) rfl hN rfl rfl (by decide) rfl rfl (by exact dam_n (by exact dn_lst (da_nil)) (by exact dam_d (by exact dx_call (ps := p_skipped) (by exact pe_cal (n := 2) (ks := []) (ix := [0, 1]) C_skipped hG hr (by decide) rfl b_skipped_2 (by exact da_cons (by exact dx_var (i := 0)) (by exact da_cons (by exact dx_int) (da_nil))) (dk_nil))) (by exact dam_nil))) rfl)) (by exact dss_cons (by exact ds_while PassesOwn.never (by exact dt_cmp (op_ltM hu0) o_lt (by exact rb (by exact dx_var (i := 2))) (by exact rb (by exact dx_callB call_len o_len rfl z_len rfl (by exact dab_cons (by exact rb (by exact dx_var (i := 0))) (dab_nil))))) (by exact dss_cons (by exact ds_app (by exact ps_expr (by exact pe_bm PySem.F.plainAttrs_list PySem.F.slot_list_append PySem.F.type_list_append mt_append (pe_var (i := 1) rfl (by first | exact Or.inl rfl | exact Or.inr (Or.inl rfl) | exact Or.inr (Or.inr rfl))) (pa_cons (by exact dx_var (i := 2)) pa_nil)))) (by exact dss_one (by exact ds_set (i := 2) hN (by exact dx_call (ps := p_skipped) (by exact pe_cal (n := 2) (ks := []) (ix := [0, 1]) C_skipped hG hr (by decide) rfl b_skipped_2 (by exact da_cons (by exact dx_var (i := 0)) (by exact da_cons (by exact dx_call (ps := p_token_end) (by exact pe_cal (n := 2) (ks := []) (ix := [0, 1]) C_token_end hG hr (by decide) rfl b_token_end_2 (by exact da_cons (by exact dx_var (i := 0)) (by exact da_cons (by exact dx_var (i := 2)) (da_nil))) (dk_nil))) (da_nil))) (dk_nil))))))) (by exact dss_one (by exact ds_ret (by exact dx_callTy call_tuple_of o_tuple rfl z_tuple rfl (by exact dab_cons (db_mut (i := 1)) (dab_nil))))))
theorem ok_tokens_of (F : Fun K "tokens_of" "tokens_of" s_tokens_of f fd) (C_token_places : Cal P w K mg base "token_places" s_token_places 2 p_token_places (spD K 1 f_token_places)) (C_token_end : Cal P w K mg base "token_end" s_token_end 1 p_token_end (spD K 2 f_token_end)) (z_tuple : mg "tuple" = none) : FnG P w K mg base CX0 3 f fd p_tokens_of (spD K 1 f_tokens_of) := by
  refine (fnD (N := n_tokens_of) (ps := p_tokens_of) (m := m_tokens_of) F S_tokens_of (by decide) fun cdv A outer s H E hG hr => ?_)
  have hN := S_tokens_of.nd
  have hu64 := hu64 hr
  have hu66 := hu66 hr
  have hu0 := hu0 hr
  exact dss_one (by exact ds_ret (by exact dx_callTy call_tuple_of o_tuple rfl z_tuple rfl (by exact dab_cons (by exact rb (by exact frz (by exact dn_comp (own := [("at", 1)]) rfl hN (by exact di_seq (by exact dx_call (ps := p_token_places) (by exact pe_cal (n := 1) (ks := []) (ix := [0]) C_token_places hG hr (by decide) rfl b_token_places_1 (by exact da_cons (by exact dx_var (i := 0)) (da_nil)) (dk_nil)))) (blkOk_by (N := n_tokens_of) (sc := defScope s_tokens_of) (own := [("at", 1)]) (by decide +kernel)) (fun _ _ _ _ _ => by exact pg_name (i := 1) hN rfl (by first | exact Or.inl rfl | exact Or.inr rfl)) (fun _ _ _ _ _ => by exact dts_nil) (fun _ _ _ _ _ => by exact dx_sl (by exact rb (by exact dx_var (i := 0))) (do_some (by exact dx_var (i := 1))) (do_some (by exact dx_call (ps := p_token_end) (by exact pe_cal (n := 2) (ks := []) (ix := [0, 1]) C_token_end hG hr (by decide) rfl b_token_end_2 (by exact da_cons (by exact dx_var (i := 0)) (by exact da_cons (by exact dx_var (i := 1)) (da_nil))) (dk_nil))))) (tg_name) (by decide)))) (dab_nil))))
theorem ok_law (F : Fun K "law" "law" s_law f fd) (C__law_text : Cal P w K mg base "_law_text" s__law_text 3 p__law_text (spW K 1 w__law_text)) (C__law_walk : Cal P w K mg base "_law_walk" s__law_walk 2 p__law_walk (spD K 1 f__law_walk)) (C_tokens_of : Cal P w K mg base "tokens_of" s_tokens_of 3 p_tokens_of (spD K 1 f_tokens_of)) (C_token_places : Cal P w K mg base "token_places" s_token_places 2 p_token_places (spD K 1 f_token_places)) (C__law_any : Cal P w K mg base "_law_any" s__law_any 1 p__law_any (spW K 2 w__law_any)) (z_len : mg "len" = none) (z_range : mg "range" = none) (z_repr : mg "repr" = none) (z_sum : mg "sum" = none) (z_tuple : mg "tuple" = none) (C__law_draw : Cal P w K mg base "_law_draw" s__law_draw 1 p__law_draw (spDraw K)) (hm : LawOk 12 m_law) : FnG P w K mg base CX0 4 f fd p_law (spLaw K) := by
  refine law_ok (N := n_law) (salt := 5) F S_law rfl (by decide) (by decide) (by decide) hm fun cdv A outer s H E hG hr => ?_
  have hN := S_law.nd
  have hu64 := hu64 hr
  have hu66 := hu66 hr
  have hu0 := hu0 hr
  exact pss_cons (by exact ps_set (i := 1) hN rfl (by first | exact Or.inl rfl | exact Or.inr rfl) (by exact pe_cal (n := 2) (ks := []) (ix := [0, 1]) C__law_draw hG hr (by decide) rfl b__law_draw_2 (pa_cons (pe_var (i := 0) rfl (by first | exact Or.inl rfl | exact Or.inr (Or.inl rfl) | exact Or.inr (Or.inr rfl))) (pa_cons pe_int pa_nil)) pk_nil)) (by exact dss_cons (by exact ds_set (i := 2) hN (by exact dx_callW (ps := p__law_text) (by exact pe_cal (n := 1) (ks := []) (ix := [0]) C__law_text hG hr (by decide) rfl b__law_text_1 (pa_cons (pe_var (i := 1) rfl (by first | exact Or.inl rfl | exact Or.inr (Or.inl rfl) | exact Or.inr (Or.inr rfl))) (da_nil)) pk_nil))) (by exact dss_cons (by exact ds_set (i := 3) hN (by exact dx_call (ps := p__law_walk) (by exact pe_cal (n := 1) (ks := []) (ix := [0]) C__law_walk hG hr (by decide) rfl b__law_walk_1 (by exact da_cons (by exact dx_var (i := 2)) (da_nil)) (dk_nil)))) (by exact dss_cons (by exact ds_parT2 (by exact ps_asg (by exact pe_tup (by exact dam_d (by exact dx_callTy call_tuple_of o_tuple rfl z_tuple rfl (by exact dab_cons (by exact rb (by exact frz (by exact dn_comp (own := [("_law_at", 7), ("_law_token", 10)]) rfl hN (by exact di_seq (by exact dx_var (i := 3))) (blkOk_by (N := n_law) (sc := defScope s_law) (own := [("_law_at", 7), ("_law_token", 10)]) (by decide +kernel)) (fun _ _ _ _ _ => by exact pg_tup rfl (by exact pgs_cons (by exact pg_name (i := 7) hN rfl (by first | exact Or.inl rfl | exact Or.inr rfl)) (by exact pgs_cons (by exact pg_name (i := 10) hN rfl (by first | exact Or.inl rfl | exact Or.inr rfl)) (by exact pgs_nil)))) (fun _ _ _ _ _ => by exact dts_nil) (fun _ _ _ _ _ => by exact dx_var (i := 10)) (tg_tup (tgs_cons (tg_name) (tgs_cons (tg_name) (tgs_nil))) rfl) (by decide)))) (dab_nil))) (by exact dam_d (by exact dx_callTy call_tuple_of o_tuple rfl z_tuple rfl (by exact dab_cons (by exact rb (by exact frz (by exact dn_comp (own := [("_law_at", 7), ("_law_token", 10)]) rfl hN (by exact di_seq (by exact dx_var (i := 3))) (blkOk_by (N := n_law) (sc := defScope s_law) (own := [("_law_at", 7), ("_law_token", 10)]) (by decide +kernel)) (fun _ _ _ _ _ => by exact pg_tup rfl (by exact pgs_cons (by exact pg_name (i := 7) hN rfl (by first | exact Or.inl rfl | exact Or.inr rfl)) (by exact pgs_cons (by exact pg_name (i := 10) hN rfl (by first | exact Or.inl rfl | exact Or.inr rfl)) (by exact pgs_nil)))) (fun _ _ _ _ _ => by exact dts_nil) (fun _ _ _ _ _ => by exact dx_var (i := 7)) (tg_tup (tgs_cons (tg_name) (tgs_cons (tg_name) (tgs_nil))) rfl) (by decide)))) (dab_nil))) (by exact dam_nil)))) (by exact pg_tup rfl (by exact pgs_cons (by exact pg_name (i := 5) hN rfl (by first | exact Or.inl rfl | exact Or.inr rfl)) (by exact pgs_cons (by exact pg_name (i := 6) hN rfl (by first | exact Or.inl rfl | exact Or.inr rfl)) (by exact pgs_nil)))))) (by exact dss_cons (by exact ds_for PassesOwn.never rfl (by exact di_range1 rfl z_range (by exact dx_int)) (by exact pg_name (i := 4) hN rfl (by first | exact Or.inl rfl | exact Or.inr rfl)) (by exact dss_one (by exact ds_if (by exact PW.pt (by exact dw_or (by exact dt_cmp (op_neA hu64) o_ne (by exact rb (by exact dx_callB (call_reprM hG hu64) o_repr rfl z_repr rfl (by exact dab_cons (by exact rb (by exact dx_call0 (ps := p_tokens_of) (by exact pe_cal0 (ks := ["text"]) (ix := [0]) C_tokens_of hG hr (by decide) rfl b_tokens_of_0_text (by exact dk_cons (by exact dx_var (i := 2)) (dk_nil))))) (dab_nil)))) (by exact rb (by exact dx_callB (call_reprM hG hu64) o_repr rfl z_repr rfl (by exact dab_cons (by exact rb (by exact dx_var (i := 5))) (dab_nil))))) (by exact dw_or1 (by exact dt_cmp (op_neA hu64) o_ne (by exact rb (by exact dx_callB (call_reprM hG hu64) o_repr rfl z_repr rfl (by exact dab_cons (by exact rb (by exact dx_call0 (ps := p_token_places) (by exact pe_cal0 (ks := ["text"]) (ix := [0]) C_token_places hG hr (by decide) rfl b_token_places_0_text (by exact dk_cons (by exact dx_var (i := 2)) (dk_nil))))) (dab_nil)))) (by exact rb (by exact dx_callB (call_reprM hG hu64) o_repr rfl z_repr rfl (by exact dab_cons (by exact rb (by exact dx_var (i := 6))) (dab_nil)))))))) (by exact dss_one (by exact ds_ret (by exact dx_bool))) (by exact dss_nil))) (tg_name)) (by exact dss_cons (by exact ds_if (by exact PW.pt (by exact dw_or (by exact dt_cmp (op_neA hu64) o_ne (by exact rb (by exact dx_call (ps := p_tokens_of) (by exact pe_cal (n := 1) (ks := []) (ix := [0]) C_tokens_of hG hr (by decide) rfl b_tokens_of_1 (by exact da_cons (by exact dx_join (by exact dx_str) (by exact dx_var (i := 5))) (da_nil)) (dk_nil)))) (by exact rb (by exact dx_var (i := 5)))) (by exact dw_or1 (by exact dt_cmp (op_neA hu64) o_ne (by exact rb (by exact dx_call (ps := p_tokens_of) (by exact pe_cal (n := 1) (ks := []) (ix := [0]) C_tokens_of hG hr (by decide) rfl b_tokens_of_1 (by exact da_cons (by exact dx_join (by exact dx_str) (by exact dx_var (i := 5))) (da_nil)) (dk_nil)))) (by exact rb (by exact dx_var (i := 5))))))) (by exact dss_one (by exact ds_ret (by exact dx_bool))) (by exact dss_nil)) (by exact dss_cons (by exact ds_if (by exact dt_cmp (op_neA hu64) o_ne (by exact rb (by exact dx_call (ps := p_token_places) (by exact pe_cal (n := 1) (ks := []) (ix := [0]) C_token_places hG hr (by decide) rfl b_token_places_1 (by exact da_cons (by exact dx_join (by exact dx_str) (by exact dx_var (i := 5))) (da_nil)) (dk_nil)))) (by exact rb (by exact dx_callTy call_tuple_of o_tuple rfl z_tuple rfl (by exact dab_cons (by exact rb (by exact frz (by exact dn_comp (own := [("_law_at", 7)]) rfl hN (by exact di_range1 rfl z_range (by exact dx_callB call_len o_len rfl z_len rfl (by exact dab_cons (by exact rb (by exact dx_var (i := 5))) (dab_nil)))) (blkOk_by (N := n_law) (sc := defScope s_law) (own := [("_law_at", 7)]) (by decide +kernel)) (fun _ _ _ _ _ => by exact pg_name (i := 7) hN rfl (by first | exact Or.inl rfl | exact Or.inr rfl)) (fun _ _ _ _ _ => by exact dts_nil) (fun _ _ _ _ _ => by exact dx_callB (cr_sum rfl) o_sum rfl z_sum rfl (by exact dab_cons (by exact rb (by exact frz (by exact dn_comp (own := [("_law_token", 10)]) rfl hN (by exact di_seq (by exact dx_sl (by exact rb (by exact dx_var (i := 5))) (do_none) (do_some (by exact dx_var (i := 7))))) (blkOk_by (N := n_law) (sc := k_law_3) (own := [("_law_token", 10)]) (by decide +kernel)) (fun _ _ _ _ _ => by exact pg_name (i := 10) hN rfl (by first | exact Or.inl rfl | exact Or.inr rfl)) (fun _ _ _ _ _ => by exact dts_nil) (fun _ _ _ _ _ => by exact dx_bin op_addM o_add (by exact rb (by exact dx_callB call_len o_len rfl z_len rfl (by exact dab_cons (by exact rb (by exact dx_var (i := 10))) (dab_nil)))) (by exact rb (by exact dx_int))) (tg_name) (by decide)))) (dab_nil))) (tg_name) (by decide)))) (dab_nil))))) (by exact dss_one (by exact ds_ret (by exact dx_bool))) (by exact dss_nil)) (by exact dss_cons (by exact ds_if (by exact dt_cmp (op_neA hu64) o_ne (by exact rb (by exact dx_var (i := 3))) (by exact rb (by exact frz (by exact dn_lst (da_nil))))) (by exact dss_cons (by exact ds_set (i := 7) hN (by exact dx_callW (ps := p__law_any) (by exact pe_cal (n := 2) (ks := []) (ix := [0, 1]) C__law_any hG hr (by decide) rfl b__law_any_2 (pa_cons (pe_var (i := 1) rfl (by first | exact Or.inl rfl | exact Or.inr (Or.inl rfl) | exact Or.inr (Or.inr rfl))) (by exact da_cons (by exact dx_callB call_len o_len rfl z_len rfl (by exact dab_cons (by exact rb (by exact dx_var (i := 3))) (dab_nil))) (da_nil))) pk_nil))) (by exact dss_cons (by exact ds_set (i := 8) hN (by exact dx_bin op_addM o_add (by exact rb (by exact dx_ix (by exact rb (by exact dx_ix (by exact rb (by exact dx_var (i := 3))) (by exact rb (by exact dx_var (i := 7))))) (by exact rb (by exact dx_int)))) (by exact rb (by exact dx_callB call_len o_len rfl z_len rfl (by exact dab_cons (by exact rb (by exact dx_ix (by exact rb (by exact dx_ix (by exact rb (by exact dx_var (i := 3))) (by exact rb (by exact dx_var (i := 7))))) (by exact rb (by exact dx_int)))) (dab_nil)))))) (by exact dss_cons (by exact ds_set (i := 9) hN (by exact dx_bin op_addM o_add (by exact rb (by exact dx_bin op_addM o_add (by exact rb (by exact dx_sl (by exact rb (by exact dx_var (i := 2))) (do_none) (do_some (by exact dx_var (i := 8))))) (by exact rb (by exact dx_str)))) (by exact rb (by exact dx_sl (by exact rb (by exact dx_var (i := 2))) (do_some (by exact dx_var (i := 8))) (do_none))))) (by exact dss_one (by exact ds_if (by exact PW.pt (by exact dw_or (by exact dt_cmp (op_neA hu64) o_ne (by exact rb (by exact dx_call (ps := p_tokens_of) (by exact pe_cal (n := 1) (ks := []) (ix := [0]) C_tokens_of hG hr (by decide) rfl b_tokens_of_1 (by exact da_cons (by exact dx_var (i := 9)) (da_nil)) (dk_nil)))) (by exact rb (by exact dx_var (i := 5)))) (by exact dw_or1 (by exact dt_cmp (op_neA hu64) o_ne (by exact rb (by exact dx_sl (by exact rb (by exact dx_call (ps := p_token_places) (by exact pe_cal (n := 1) (ks := []) (ix := [0]) C_token_places hG hr (by decide) rfl b_token_places_1 (by exact da_cons (by exact dx_var (i := 9)) (da_nil)) (dk_nil)))) (do_some (by exact dx_bin op_addM o_add (by exact rb (by exact dx_var (i := 7))) (by exact rb (by exact dx_int)))) (do_none))) (by exact rb (by exact dx_callTy call_tuple_of o_tuple rfl z_tuple rfl (by exact dab_cons (by exact rb (by exact frz (by exact dn_comp (own := [("_law_place", 11)]) rfl hN (by exact di_seq (by exact dx_sl (by exact rb (by exact dx_var (i := 6))) (do_some (by exact dx_bin op_addM o_add (by exact rb (by exact dx_var (i := 7))) (by exact rb (by exact dx_int)))) (do_none))) (blkOk_by (N := n_law) (sc := defScope s_law) (own := [("_law_place", 11)]) (by decide +kernel)) (fun _ _ _ _ _ => by exact pg_name (i := 11) hN rfl (by first | exact Or.inl rfl | exact Or.inr rfl)) (fun _ _ _ _ _ => by exact dts_nil) (fun _ _ _ _ _ => by exact dx_bin op_addM o_add (by exact rb (by exact dx_var (i := 11))) (by exact rb (by exact dx_int))) (tg_name) (by decide)))) (dab_nil)))))))) (by exact dss_one (by exact ds_ret (by exact dx_bool))) (by exact dss_nil)))))) (by exact dss_nil)) (by exact dss_one (by exact ds_ret (by exact dx_and (by exact dx_cmp (op_eqA hu64) o_eq (by exact rb (by exact dx_call (ps := p_tokens_of) (by exact pe_cal (n := 1) (ks := []) (ix := [0]) C_tokens_of hG hr (by decide) rfl b_tokens_of_1 (by exact da_cons (by exact dx_str) (da_nil)) (dk_nil)))) (by exact rb (by exact dx_tup (da_nil)))) (by exact dx_one (by exact dx_cmp (op_eqA hu64) o_eq (by exact rb (by exact dx_call (ps := p_token_places) (by exact pe_cal (n := 1) (ks := []) (ix := [0]) C_token_places hG hr (by decide) rfl b_token_places_1 (by exact da_cons (by exact dx_str) (da_nil)) (dk_nil)))) (by exact rb (by exact dx_tup (da_nil)))))))))))))))
end
theorem all_mk {l : PySem.W.OpenLaw} {w : World} {K : PySem.W.Frag} {h : Heap} {mg : Str → Option Value} {fa : Addr} {f0 : Addr} {od0 an0 : Option Addr} {sl0 : Array (Option Value)} {oc0 kV0 dc0 pm0 cd0 ct0 : Value} {f1 : Addr} {od1 an1 : Option Addr} {sl1 : Array (Option Value)} {oc1 kV1 dc1 pm1 cd1 ct1 : Value} {f2 : Addr} {od2 an2 : Option Addr} {sl2 : Array (Option Value)} {oc2 kV2 dc2 pm2 cd2 ct2 : Value} {f3 : Addr} {od3 an3 : Option Addr} {sl3 : Array (Option Value)} {oc3 kV3 dc3 pm3 cd3 ct3 : Value} {f4 : Addr} {od4 an4 : Option Addr} {sl4 : Array (Option Value)} {oc4 kV4 dc4 pm4 cd4 ct4 : Value} {f5 : Addr} {od5 an5 : Option Addr} {sl5 : Array (Option Value)} {oc5 kV5 dc5 pm5 cd5 ct5 : Value} {f6 : Addr} {od6 an6 : Option Addr} {sl6 : Array (Option Value)} {oc6 kV6 dc6 pm6 cd6 ct6 : Value} {f7 : Addr} {od7 an7 : Option Addr} {sl7 : Array (Option Value)} {oc7 kV7 dc7 pm7 cd7 ct7 : Value} {f8 : Addr} {od8 an8 : Option Addr} {sl8 : Array (Option Value)} {oc8 kV8 dc8 pm8 cd8 ct8 : Value} {f9 : Addr} {od9 an9 : Option Addr} {sl9 : Array (Option Value)} {oc9 kV9 dc9 pm9 cd9 ct9 : Value} {f10 : Addr} {od10 an10 : Option Addr} {sl10 : Array (Option Value)} {oc10 kV10 dc10 pm10 cd10 ct10 : Value} {t_WORD_SIGNS : Tok} (X : K.In h) (G : h.Ns mainGlobals mg) (hfa : mg "law" = some (.ref fa)) (a0 : PySem.W.nsIn K mainGlobals "_law_draw" = some (some (.ref f0))) (l0 : K.lookup f0 = some ⟨oc0, od0, .func (PySem.W.fnOf "_law_draw" "_law_draw" (defArgs s__law_draw) (defBody s__law_draw) (defScope s__law_draw) .none kV0 dc0 pm0 an0 cd0 ct0), sl0⟩) (c0 : PySem.W.codeIn K cd0 "_law_draw" = true) (k0 : PySem.W.keepIn K (.ref f0) = true) (a1 : PySem.W.nsIn K mainGlobals "_law_any" = some (some (.ref f1))) (l1 : K.lookup f1 = some ⟨oc1, od1, .func (PySem.W.fnOf "_law_any" "_law_any" (defArgs s__law_any) (defBody s__law_any) (defScope s__law_any) .none kV1 dc1 pm1 an1 cd1 ct1), sl1⟩) (c1 : PySem.W.codeIn K cd1 "_law_any" = true) (k1 : PySem.W.keepIn K (.ref f1) = true) (a2 : PySem.W.nsIn K mainGlobals "_law_of" = some (some (.ref f2))) (l2 : K.lookup f2 = some ⟨oc2, od2, .func (PySem.W.fnOf "_law_of" "_law_of" (defArgs s__law_of) (defBody s__law_of) (defScope s__law_of) .none kV2 dc2 pm2 an2 cd2 ct2), sl2⟩) (c2 : PySem.W.codeIn K cd2 "_law_of" = true) (k2 : PySem.W.keepIn K (.ref f2) = true) (a3 : PySem.W.nsIn K mainGlobals "_law_text" = some (some (.ref f3))) (l3 : K.lookup f3 = some ⟨oc3, od3, .func (PySem.W.fnOf "_law_text" "_law_text" (defArgs s__law_text) (defBody s__law_text) (defScope s__law_text) .none kV3 dc3 pm3 an3 cd3 ct3), sl3⟩) (c3 : PySem.W.codeIn K cd3 "_law_text" = true) (k3 : PySem.W.keepIn K (.ref f3) = true) (a4 : PySem.W.nsIn K mainGlobals "_law_is_letter" = some (some (.ref f4))) (l4 : K.lookup f4 = some ⟨oc4, od4, .func (PySem.W.fnOf "_law_is_letter" "_law_is_letter" (defArgs s__law_is_letter) (defBody s__law_is_letter) (defScope s__law_is_letter) .none kV4 dc4 pm4 an4 cd4 ct4), sl4⟩) (c4 : PySem.W.codeIn K cd4 "_law_is_letter" = true) (k4 : PySem.W.keepIn K (.ref f4) = true) (a5 : PySem.W.nsIn K mainGlobals "_law_walk" = some (some (.ref f5))) (l5 : K.lookup f5 = some ⟨oc5, od5, .func (PySem.W.fnOf "_law_walk" "_law_walk" (defArgs s__law_walk) (defBody s__law_walk) (defScope s__law_walk) .none kV5 dc5 pm5 an5 cd5 ct5), sl5⟩) (c5 : PySem.W.codeIn K cd5 "_law_walk" = true) (k5 : PySem.W.keepIn K (.ref f5) = true) (a6 : PySem.W.nsIn K mainGlobals "skipped" = some (some (.ref f6))) (l6 : K.lookup f6 = some ⟨oc6, od6, .func (PySem.W.fnOf "skipped" "skipped" (defArgs s_skipped) (defBody s_skipped) (defScope s_skipped) .none kV6 dc6 pm6 an6 cd6 ct6), sl6⟩) (c6 : PySem.W.codeIn K cd6 "skipped" = true) (k6 : PySem.W.keepIn K (.ref f6) = true) (a7 : PySem.W.nsIn K mainGlobals "token_end" = some (some (.ref f7))) (l7 : K.lookup f7 = some ⟨oc7, od7, .func (PySem.W.fnOf "token_end" "token_end" (defArgs s_token_end) (defBody s_token_end) (defScope s_token_end) .none kV7 dc7 pm7 an7 cd7 ct7), sl7⟩) (c7 : PySem.W.codeIn K cd7 "token_end" = true) (k7 : PySem.W.keepIn K (.ref f7) = true) (a8 : PySem.W.nsIn K mainGlobals "token_places" = some (some (.ref f8))) (l8 : K.lookup f8 = some ⟨oc8, od8, .func (PySem.W.fnOf "token_places" "token_places" (defArgs s_token_places) (defBody s_token_places) (defScope s_token_places) .none kV8 dc8 pm8 an8 cd8 ct8), sl8⟩) (c8 : PySem.W.codeIn K cd8 "token_places" = true) (k8 : PySem.W.keepIn K (.ref f8) = true) (a9 : PySem.W.nsIn K mainGlobals "tokens_of" = some (some (.ref f9))) (l9 : K.lookup f9 = some ⟨oc9, od9, .func (PySem.W.fnOf "tokens_of" "tokens_of" (defArgs s_tokens_of) (defBody s_tokens_of) (defScope s_tokens_of) .none kV9 dc9 pm9 an9 cd9 ct9), sl9⟩) (c9 : PySem.W.codeIn K cd9 "tokens_of" = true) (k9 : PySem.W.keepIn K (.ref f9) = true) (a10 : PySem.W.nsIn K mainGlobals "law" = some (some (.ref f10))) (l10 : K.lookup f10 = some ⟨oc10, od10, .func (PySem.W.fnOf "law" "law" (defArgs s_law) (defBody s_law) (defScope s_law) .none kV10 dc10 pm10 an10 cd10 ct10), sl10⟩) (c10 : PySem.W.codeIn K cd10 "law" = true) (k10 : PySem.W.keepIn K (.ref f10) = true) (zz_abs : PySem.W.nsIn K mainGlobals "abs" = some none) (zz_enumerate : PySem.W.nsIn K mainGlobals "enumerate" = some none) (zz_int : PySem.W.nsIn K mainGlobals "int" = some none) (zz_len : PySem.W.nsIn K mainGlobals "len" = some none) (zz_max : PySem.W.nsIn K mainGlobals "max" = some none) (zz_range : PySem.W.nsIn K mainGlobals "range" = some none) (zz_repr : PySem.W.nsIn K mainGlobals "repr" = some none) (zz_sum : PySem.W.nsIn K mainGlobals "sum" = some none) (zz_tuple : PySem.W.nsIn K mainGlobals "tuple" = some none) (gc_WORD_SIGNS : PySem.W.nsIn K mainGlobals "WORD_SIGNS" = some (some (.str "abcdefghijklmnopqrstuvwxyzABCDEFGHIJKLMNOPQRSTUVWXYZ0123456789_" t_WORD_SIGNS))) (hm : LawOk 12 m_law) :
    ∃ fd : FuncData, (∀ (s : Shared) (v : Value), BindsTo s fd ⟨[v], []⟩ [("_law_script", v)]) ∧ ∀ base : Heap, K.In base → base.Ns mainGlobals mg → FnG l.prog w K mg base CX0 4 fa fd ["_law_script"] (spLaw K) := by
  have e := hfa.symm.trans (PySem.W.mg_of X G a10)
  cases e
  have F__law_draw := fun_mk (st := s__law_draw) l0 c0 k0
  have F__law_any := fun_mk (st := s__law_any) l1 c1 k1
  have F__law_of := fun_mk (st := s__law_of) l2 c2 k2
  have F__law_text := fun_mk (st := s__law_text) l3 c3 k3
  have F__law_is_letter := fun_mk (st := s__law_is_letter) l4 c4 k4
  have F__law_walk := fun_mk (st := s__law_walk) l5 c5 k5
  have F_skipped := fun_mk (st := s_skipped) l6 c6 k6
  have F_token_end := fun_mk (st := s_token_end) l7 c7 k7
  have F_token_places := fun_mk (st := s_token_places) l8 c8 k8
  have F_tokens_of := fun_mk (st := s_tokens_of) l9 c9 k9
  have F_law := fun_mk (st := s_law) l10 c10 k10
  have z_abs := PySem.W.mg_none_of X G zz_abs
  have z_enumerate := PySem.W.mg_none_of X G zz_enumerate
  have z_int := PySem.W.mg_none_of X G zz_int
  have z_len := PySem.W.mg_none_of X G zz_len
  have z_max := PySem.W.mg_none_of X G zz_max
  have z_range := PySem.W.mg_none_of X G zz_range
  have z_repr := PySem.W.mg_none_of X G zz_repr
  have z_sum := PySem.W.mg_none_of X G zz_sum
  have z_tuple := PySem.W.mg_none_of X G zz_tuple
  have hc_WORD_SIGNS := PySem.W.mg_of X G gc_WORD_SIGNS
  refine ⟨PySem.W.fnOf "law" "law" (defArgs s_law) (defBody s_law) (defScope s_law) .none kV10 dc10 pm10 an10 cd10 ct10, fun s v => .of_eq rfl, fun base _ _ => ?_⟩
  have rv_WORD_SIGNS : RelV (V.str "abcdefghijklmnopqrstuvwxyzABCDEFGHIJKLMNOPQRSTUVWXYZ0123456789_") (.str "abcdefghijklmnopqrstuvwxyzABCDEFGHIJKLMNOPQRSTUVWXYZ0123456789_" t_WORD_SIGNS) := ⟨t_WORD_SIGNS, rfl⟩
  have dv_WORD_SIGNS : ∀ F, Dv K F (V.str "abcdefghijklmnopqrstuvwxyzABCDEFGHIJKLMNOPQRSTUVWXYZ0123456789_") c_WORD_SIGNS := fun _ => .str _
  have C__law_draw := Cal.of F__law_draw (PySem.W.mg_of X G a0) (ok__law_draw (P := l.prog) (w := w) (base := base) F__law_draw z_abs z_int)
  have C__law_any := Cal.of F__law_any (PySem.W.mg_of X G a1) (ok__law_any (P := l.prog) (w := w) (base := base) F__law_any z_int)
  have C__law_of := Cal.of F__law_of (PySem.W.mg_of X G a2) (ok__law_of (P := l.prog) (w := w) (base := base) F__law_of C__law_any z_len)
  have C__law_text := Cal.of F__law_text (PySem.W.mg_of X G a3) (ok__law_text (P := l.prog) (w := w) (base := base) F__law_text C__law_any C__law_of z_range)
  have C__law_is_letter := Cal.of F__law_is_letter (PySem.W.mg_of X G a4) (ok__law_is_letter (P := l.prog) (w := w) (base := base) F__law_is_letter )
  have C__law_walk := Cal.of F__law_walk (PySem.W.mg_of X G a5) (ok__law_walk (P := l.prog) (w := w) (base := base) F__law_walk C__law_is_letter z_enumerate)
  have C_skipped := Cal.of F_skipped (PySem.W.mg_of X G a6) (ok_skipped (P := l.prog) (w := w) (base := base) F_skipped z_len)
  have C_token_end := Cal.of F_token_end (PySem.W.mg_of X G a7) (ok_token_end (P := l.prog) (w := w) (base := base) F_token_end z_len z_max hc_WORD_SIGNS rv_WORD_SIGNS dv_WORD_SIGNS)
  have C_token_places := Cal.of F_token_places (PySem.W.mg_of X G a8) (ok_token_places (P := l.prog) (w := w) (base := base) F_token_places C_skipped C_token_end z_len z_tuple)
  have C_tokens_of := Cal.of F_tokens_of (PySem.W.mg_of X G a9) (ok_tokens_of (P := l.prog) (w := w) (base := base) F_tokens_of C_token_places C_token_end z_tuple)
  exact ok_law F_law C__law_text C__law_walk C_tokens_of C_token_places C__law_any z_len z_range z_repr z_sum z_tuple C__law_draw hm
end K05

set_option Elab.async false
set_option linter.all false
/-! k05's plain law: tokens of a list of signs -/
namespace K05
/-- a sign of a word -/
def isW (c : Nat) : Bool := c == 95 || (decide (97 ≤ c) && decide (c ≤ 122)) || (decide (65 ≤ c) && decide (c ≤ 90)) || (decide (48 ≤ c) && decide (c ≤ 57))
def isGap (c : Nat) : Bool := c == 32 || c == 10 || c == 35
/-- how many signs are skipped; r: within a remark -/
def skipN : Bool → List Nat → Nat
  | _, [] => 0
  | r, c :: cs => if r || isGap c then skipN (c != 10 && (r || c == 35)) cs + 1 else 0
def wordN : List Nat → Nat
  | [] => 0
  | c :: cs => if isW c then wordN cs + 1 else 0
def tokN (cs : List Nat) : Nat := max (wordN cs) 1
theorem skipN_le : ∀ (cs : List Nat) (r : Bool), skipN r cs ≤ cs.length
  | [], _ => Nat.le_refl _
  | c :: cs, r => by
    unfold skipN
    split
    · have := skipN_le cs (c != 10 && (r || c == 35))
      simp
      omega
    · exact Nat.zero_le _
theorem wordN_le : ∀ cs : List Nat, wordN cs ≤ cs.length
  | [] => Nat.le_refl _
  | c :: cs => by
    unfold wordN
    have := wordN_le cs
    split <;> simp <;> omega
/-- the tokens and their places; r: within a remark -/
def T (r : Bool) (off : Nat) (cs : List Nat) : List (Nat × List Nat) :=
  match h : cs.drop (skipN r cs) with
  | [] => []
  | c :: rest => (off + skipN r cs, (c :: rest).take (tokN (c :: rest))) :: T false (off + skipN r cs + tokN (c :: rest)) ((c :: rest).drop (tokN (c :: rest)))
termination_by cs.length
decreasing_by
  have h1 : (c :: rest).length ≤ cs.length := by
    rw [← h, List.length_drop]
    omega
  have h2 : 1 ≤ tokN (c :: rest) := Nat.le_max_right _ _
  rw [List.length_drop]
  simp only [List.length_cons] at h1 ⊢
  omega
theorem T_nil {r : Bool} {off : Nat} {cs : List Nat} (h : cs.drop (skipN r cs) = []) : T r off cs = [] := by
  rw [T]
  split
  · rfl
  · rename_i e
    rw [h] at e
    cases e
theorem T_cons {r : Bool} {off : Nat} {cs : List Nat} {c : Nat} {rest : List Nat} (h : cs.drop (skipN r cs) = c :: rest) : T r off cs = (off + skipN r cs, (c :: rest).take (tokN (c :: rest))) :: T false (off + skipN r cs + tokN (c :: rest)) ((c :: rest).drop (tokN (c :: rest))) := by
  rw [T]
  split
  · rename_i e
    rw [h] at e
    cases e
  · rename_i e
    rw [h] at e
    injection e with e1 e2
    subst e1; subst e2
    rfl
theorem T_empty (r : Bool) (off : Nat) : T r off [] = [] := T_nil rfl
/-- one sign that is skipped -/
theorem T_skip {r : Bool} {off c : Nat} {cs : List Nat} (h : (r || isGap c) = true) : T r off (c :: cs) = T (c != 10 && (r || c == 35)) (off + 1) cs := by
  have e : skipN r (c :: cs) = skipN (c != 10 && (r || c == 35)) cs + 1 := by
    rw [skipN, if_pos h]
  cases q : cs.drop (skipN (c != 10 && (r || c == 35)) cs) with
  | nil => rw [T_nil q, T_nil (by rw [e, List.drop_succ_cons]; exact q)]
  | cons d rest =>
    rw [T_cons q, T_cons (by rw [e, List.drop_succ_cons]; exact q), e]
    have : off + (skipN (c != 10 && (r || c == 35)) cs + 1) = off + 1 + skipN (c != 10 && (r || c == 35)) cs := by omega
    rw [this]
/-- one sign that begins a token -/
theorem T_tok {off c : Nat} {cs : List Nat} (h : isGap c = false) : T false off (c :: cs) = (off, (c :: cs).take (tokN (c :: cs))) :: T false (off + tokN (c :: cs)) ((c :: cs).drop (tokN (c :: cs))) := by
  have e : skipN false (c :: cs) = 0 := by
    rw [skipN, if_neg (by simp [h])]
  have q : (c :: cs).drop (skipN false (c :: cs)) = c :: cs := by rw [e]; rfl
  rw [T_cons q, e]
  rfl
/-- places shift -/
theorem T_shift (k : Nat) : ∀ (n : Nat) (r : Bool) (off : Nat) (cs : List Nat), cs.length ≤ n → T r (off + k) cs = (T r off cs).map fun p => (p.1 + k, p.2)
  | n, r, off, cs, hn => by
    cases q : cs.drop (skipN r cs) with
    | nil => rw [T_nil q, T_nil q]; rfl
    | cons c rest =>
      have h1 : (c :: rest).length ≤ cs.length := by
        rw [← q, List.length_drop]
        omega
      have h2 : 1 ≤ tokN (c :: rest) := Nat.le_max_right _ _
      have h3 : ((c :: rest).drop (tokN (c :: rest))).length < n := by
        rw [List.length_drop]
        simp only [List.length_cons] at h1 ⊢
        omega
      rw [T_cons q, T_cons q, List.map_cons]
      have e1 : off + k + skipN r cs = off + skipN r cs + k := by omega
      have e2 : off + k + skipN r cs + tokN (c :: rest) = off + skipN r cs + tokN (c :: rest) + k := by omega
      rw [e2, T_shift k (n - 1) false _ _ (by omega), e1]
  termination_by n => n
  decreasing_by omega
/-- what a token is -/
def Tok (t : List Nat) : Prop := (t ≠ [] ∧ ∀ c ∈ t, isW c = true) ∨ ∃ c, t = [c] ∧ isGap c = false ∧ isW c = false
theorem isW_gap {c : Nat} (h : isW c = true) : isGap c = false := by
  unfold isW at h
  unfold isGap
  simp only [Bool.or_eq_true, Bool.and_eq_true, decide_eq_true_eq, beq_iff_eq, Bool.or_eq_false_iff, beq_eq_false_iff_ne] at h ⊢
  omega
theorem wordN_all : ∀ (t rest : List Nat), (∀ c ∈ t, isW c = true) → wordN (t ++ rest) = t.length + wordN rest
  | [], _, _ => by simp
  | c :: t, rest, h => by
    rw [List.cons_append, wordN, if_pos (h c List.mem_cons_self), wordN_all t rest fun d hd => h d (List.mem_cons_of_mem _ hd), List.length_cons]
    omega
theorem wordN_take : ∀ (cs : List Nat), ∀ c ∈ cs.take (wordN cs), isW c = true
  | [], c, h => by simp [wordN] at h
  | d :: cs, c, h => by
    unfold wordN at h
    split at h
    · rename_i hd
      rw [List.take_succ_cons] at h
      rcases List.mem_cons.mp h with rfl | h
      · exact hd
      · exact wordN_take cs c h
    · simp at h
/-- a token ahead of what does not go on with it -/
theorem tok_head {t rest : List Nat} (h : Tok t) (hr : (∀ c ∈ t, isW c = true) → ∀ c cs, rest = c :: cs → isW c = false) : ∃ c cs, t ++ rest = c :: cs ∧ isGap c = false ∧ tokN (t ++ rest) = t.length := by
  rcases h with ⟨hne, hall⟩ | ⟨c, rfl, hg, hW⟩
  · have hw : wordN rest = 0 := by
      cases rest with
      | nil => rfl
      | cons c cs => rw [wordN, if_neg (by simp [hr hall c cs rfl])]
    cases t with
    | nil => exact absurd rfl hne
    | cons c t =>
      refine ⟨c, t ++ rest, rfl, isW_gap (hall c List.mem_cons_self), ?_⟩
      unfold tokN
      rw [wordN_all _ _ hall, hw]
      simp
  · refine ⟨c, rest, rfl, hg, ?_⟩
    unfold tokN
    rw [List.singleton_append, wordN, if_neg (by simp [hW])]
    rfl
theorem T_one {off : Nat} {t rest : List Nat} (h : Tok t) (hr : (∀ c ∈ t, isW c = true) → ∀ c cs, rest = c :: cs → isW c = false) : T false off (t ++ rest) = (off, t) :: T false (off + t.length) rest := by
  obtain ⟨c, cs, e, hg, hn⟩ := tok_head h hr
  rw [e, T_tok hg, ← e, hn, List.take_left, List.drop_left]
theorem skip_head : ∀ (cs : List Nat) (r : Bool) {c : Nat} {rest : List Nat}, cs.drop (skipN r cs) = c :: rest → isGap c = false
  | [], r, c, rest, h => by cases h
  | d :: cs, r, c, rest, h => by
    unfold skipN at h
    split at h
    · rw [List.drop_succ_cons] at h
      exact skip_head cs _ h
    · rename_i hn
      rw [List.drop_zero] at h
      injection h with h1 h2
      subst h1
      simp only [Bool.or_eq_true, not_or, Bool.not_eq_true] at hn
      exact hn.2
theorem skip_pre {X : List Nat} : ∀ (cs : List Nat) (r : Bool) (off : Nat), cs.drop (skipN r cs) ≠ [] → T r off (cs.take (skipN r cs) ++ X) = T false (off + skipN r cs) X
  | [], r, off, h => by simp [skipN] at h
  | d :: cs, r, off, h => by
    by_cases hd : (r || isGap d) = true
    · have e : skipN r (d :: cs) = skipN (d != 10 && (r || d == 35)) cs + 1 := by rw [skipN, if_pos hd]
      rw [e, List.drop_succ_cons] at h
      rw [e, List.take_succ_cons, List.cons_append, T_skip hd, skip_pre cs _ (off + 1) h]
      congr 1
      omega
    · have e : skipN r (d :: cs) = 0 := by rw [skipN, if_neg hd]
      simp only [Bool.or_eq_true, not_or, Bool.not_eq_true] at hd
      rw [e, hd.1]
      rfl
theorem wordN_next : ∀ (cs : List Nat) {c : Nat} {rest : List Nat}, cs.drop (wordN cs) = c :: rest → isW c = false
  | [], _, _, h => by cases h
  | d :: cs, c, rest, h => by
    unfold wordN at h
    split at h
    · rw [List.drop_succ_cons] at h
      exact wordN_next cs h
    · rename_i hn
      rw [List.drop_zero] at h
      injection h with h1 h2
      subst h1
      simpa using hn
/-- a token at the head: what it is, and what may follow it -/
theorem tok_at {c : Nat} {rest : List Nat} (h : isGap c = false) : Tok ((c :: rest).take (tokN (c :: rest))) ∧ (tokN (c :: rest) ≤ (c :: rest).length) ∧
    ((∀ d ∈ (c :: rest).take (tokN (c :: rest)), isW d = true) → ∀ d ds, (c :: rest).drop (tokN (c :: rest)) = d :: ds → isW d = false) := by
  by_cases hW : isW c = true
  · have hp : 1 ≤ wordN (c :: rest) := by rw [wordN, if_pos hW]; omega
    have e : tokN (c :: rest) = wordN (c :: rest) := Nat.max_eq_left hp
    rw [e]
    refine ⟨.inl ⟨fun z => ?_, wordN_take _⟩, wordN_le _, fun _ d ds q => wordN_next _ q⟩
    have := congrArg List.length z
    rw [List.length_take, List.length_nil] at this
    simp only [List.length_cons] at this
    omega
  · have e0 : wordN (c :: rest) = 0 := by rw [wordN, if_neg hW]
    have e : tokN (c :: rest) = 1 := by unfold tokN; rw [e0]; rfl
    rw [e]
    refine ⟨.inr ⟨c, rfl, h, by simpa using hW⟩, by simp, fun q => ?_⟩
    exact absurd (q c (by simp)) hW
/-- T's tokens are tokens -/
theorem T_toks : ∀ (n : Nat) (r : Bool) (off : Nat) (cs : List Nat), cs.length ≤ n → ∀ p ∈ T r off cs, Tok p.2
  | n, r, off, cs, hn, p, hp => by
    cases q : cs.drop (skipN r cs) with
    | nil => rw [T_nil q] at hp; cases hp
    | cons c rest =>
      have h1 : (c :: rest).length ≤ cs.length := by
        rw [← q, List.length_drop]
        omega
      have h2 : 1 ≤ tokN (c :: rest) := Nat.le_max_right _ _
      have h3 : ((c :: rest).drop (tokN (c :: rest))).length < n := by
        rw [List.length_drop]
        simp only [List.length_cons] at h1 ⊢
        omega
      rw [T_cons q] at hp
      rcases List.mem_cons.mp hp with rfl | hp
      · exact (tok_at (skip_head cs r q)).1
      · exact T_toks (n - 1) false _ _ (by omega) p hp
  termination_by n => n
  decreasing_by omega
/-! ### put together -/
def joinL (sep : Nat) : List (List Nat) → List Nat
  | [] => []
  | [t] => t
  | t :: u :: ts => t ++ sep :: joinL sep (u :: ts)
def placesL (off : Nat) : List (List Nat) → List (Nat × List Nat)
  | [] => []
  | t :: ts => (off, t) :: placesL (off + t.length + 1) ts
theorem T_join {sep : Nat} (hs : sep = 32 ∨ sep = 10) : ∀ (ts : List (List Nat)) (off : Nat), (∀ t ∈ ts, Tok t) → T false off (joinL sep ts) = placesL off ts
  | [], off, _ => T_empty _ _
  | [t], off, h => by
    have := T_one (off := off) (rest := []) (h t List.mem_cons_self) (fun _ c cs e => by cases e)
    rw [List.append_nil, T_empty] at this
    exact this
  | t :: u :: ts, off, h => by
    have hsW : isW sep = false := by rcases hs with rfl | rfl <;> decide
    have hsg : (false || isGap sep) = true := by rcases hs with rfl | rfl <;> decide
    have hst : (sep != 10 && (false || sep == 35)) = false := by rcases hs with rfl | rfl <;> decide
    have := T_one (off := off) (rest := sep :: joinL sep (u :: ts)) (h t List.mem_cons_self) (fun _ c cs e => by cases e; exact hsW)
    rw [T_skip hsg, hst, T_join hs (u :: ts) _ fun x hx => h x (List.mem_cons_of_mem _ hx)] at this
    exact this
theorem placesL_snd : ∀ (ts : List (List Nat)) (off : Nat), (placesL off ts).map (·.2) = ts
  | [], _ => rfl
  | t :: ts, off => by rw [placesL, List.map_cons, placesL_snd ts]
theorem placesL_len : ∀ (ts : List (List Nat)) (off : Nat), (placesL off ts).length = ts.length
  | [], _ => rfl
  | t :: ts, off => by rw [placesL, List.length_cons, placesL_len ts, List.length_cons]
theorem placesL_get : ∀ (ts : List (List Nat)) (off i : Nat), i < ts.length → (placesL off ts)[i]?.map (·.1) = some (off + ((ts.take i).map fun t => t.length + 1).sum)
  | [], _, i, h => by simp at h
  | t :: ts, off, 0, _ => by simp [placesL]
  | t :: ts, off, i + 1, h => by
    rw [placesL, List.getElem?_cons_succ, placesL_get ts _ i (by simpa using h)]
    simp
    omega

/-! ### a remark behind a token -/
def Rm : List Nat := [35, 32, 58, 32, 51, 32, 59, 32, 120, 121, 10]
theorem T_remark (off : Nat) (more : List Nat) : T false off (Rm ++ more) = T false (off + 11) more := by
  unfold Rm
  simp only [List.cons_append, List.nil_append]
  repeat rw [T_skip (by rfl)]
  rfl
theorem T_more : ∀ (n : Nat) (r : Bool) (off : Nat) (cs : List Nat), cs.length ≤ n → ∀ (i : Nat) (p : Nat) (t : List Nat), (T r off cs)[i]? = some (p, t) →
    off ≤ p ∧ p + t.length ≤ off + cs.length ∧ 1 ≤ t.length ∧ T r off (cs.take (p + t.length - off) ++ (Rm ++ cs.drop (p + t.length - off))) = (T r off cs).take (i + 1) ++ ((T r off cs).drop (i + 1)).map fun q => (q.1 + 11, q.2)
  | n, r, off, cs, hn, i, p, t, hi => by
    cases q : cs.drop (skipN r cs) with
    | nil => rw [T_nil q] at hi; cases hi
    | cons c rest =>
      have h1 : (c :: rest).length + skipN r cs = cs.length := by
        have := skipN_le cs r
        rw [← q, List.length_drop]
        omega
      obtain ⟨hT, hle, hnx⟩ := tok_at (rest := rest) (skip_head cs r q)
      have h2 : 1 ≤ tokN (c :: rest) := Nat.le_max_right _ _
      have hne : cs.drop (skipN r cs) ≠ [] := by rw [q]; exact fun z => nomatch z
      have hlt : ((c :: rest).take (tokN (c :: rest))).length = tokN (c :: rest) := by rw [List.length_take]; omega
      rw [T_cons q] at hi
      -- cs in three parts
      have hcs : cs = cs.take (skipN r cs) ++ ((c :: rest).take (tokN (c :: rest)) ++ (c :: rest).drop (tokN (c :: rest))) := by
        rw [List.take_append_drop, ← q, List.take_append_drop]
      have hk : (cs.take (skipN r cs)).length = skipN r cs := by rw [List.length_take]; have := skipN_le cs r; omega
      generalize hA : cs.take (skipN r cs) = A at hcs hk
      generalize hm : (c :: rest).take (tokN (c :: rest)) = tk at *
      generalize hd : (c :: rest).drop (tokN (c :: rest)) = more at *
      have hml : more.length < n := by
        rw [← hd, List.length_drop]
        omega
      have hcl : cs.length = skipN r cs + tk.length + more.length := by
        rw [← hd, List.length_drop]
        omega
      cases i with
      | zero =>
        rw [List.getElem?_cons_zero] at hi
        injection hi with hi
        injection hi with e1 e2
        subst e1 e2
        have e : off + skipN r cs + tk.length - off = skipN r cs + tk.length := by omega
        refine ⟨by omega, by omega, by omega, ?_⟩
        rw [e, T_cons q, hm, hd]
        have t1 : cs.take (skipN r cs + tk.length) = cs.take (skipN r cs) ++ tk := by
          rw [hA]
          conv => lhs; rw [← hk, hcs, ← List.append_assoc, ← List.length_append, List.take_left]
        have t2 : cs.drop (skipN r cs + tk.length) = more := by
          conv => lhs; rw [← hk, hcs, ← List.append_assoc, ← List.length_append, List.drop_left]
        rw [t1, t2, List.append_assoc, skip_pre cs r off hne, T_one hT (fun _ d ds e => by
          have : d = 35 := by
            simp only [Rm, List.cons_append] at e
            injection e with e _
            exact e.symm
          subst this
          decide), T_remark, T_shift 11 more.length false _ more (Nat.le_refl _)]
        rw [hlt]
        rfl
      | succ i =>
        rw [List.getElem?_cons_succ] at hi
        obtain ⟨g1, g2, g3, g4⟩ := T_more (n - 1) false (off + skipN r cs + tokN (c :: rest)) more (by omega) i p t hi
        have e : p + t.length - off = skipN r cs + tk.length + (p + t.length - (off + skipN r cs + tokN (c :: rest))) := by omega
        refine ⟨by omega, by omega, g3, ?_⟩
        have gp : 1 ≤ p + t.length - (off + skipN r cs + tokN (c :: rest)) := by omega
        rw [e]
        generalize p + t.length - (off + skipN r cs + tokN (c :: rest)) = e' at g4 gp
        rw [T_cons q, hm, hd]
        have t1 : cs.take (skipN r cs + tk.length + e') = cs.take (skipN r cs) ++ (tk ++ more.take e') := by
          rw [hA]
          conv => lhs; rw [← hk, hcs, ← List.append_assoc, ← List.length_append, List.take_length_add_append]
          rw [List.append_assoc]
        have t2 : cs.drop (skipN r cs + tk.length + e') = more.drop e' := by
          conv => lhs; rw [← hk, hcs, ← List.append_assoc, ← List.length_append, List.drop_length_add_append]
        rw [t1, t2, List.append_assoc, List.append_assoc, skip_pre cs r off hne, T_one hT (fun hall d ds e => by
          cases hmo : more with
          | nil =>
            rw [hmo] at hi
            rw [T_empty] at hi
            cases hi
          | cons m0 ms =>
            rw [hmo] at e
            obtain ⟨e0, rfl⟩ : ∃ e0, e' = e0 + 1 := ⟨e' - 1, by omega⟩
            rw [List.take_succ_cons, List.cons_append] at e
            injection e with e _
            subst e
            exact hnx hall m0 ms hmo), hlt, g4]
        rfl
  termination_by n => n
  decreasing_by omega
end K05

set_option Elab.async false
set_option linter.all false
set_option maxRecDepth 100000
set_option maxHeartbeats 2000000
namespace K05
open PySem PySem.Spec PyProof.Rows L2 DL
theorem str_gap : (" \n#" : Str) = tx [32, 10, 35] := by decide +kernel
theorem str_nl : ("\n" : Str) = sign 10 := by decide +kernel
theorem str_hash : ("#" : Str) = sign 35 := by decide +kernel
theorem str_sp : (" " : Str) = sign 32 := by decide +kernel
theorem gap_mem (c : Nat) : decide (c ∈ [32, 10, 35]) = isGap c := by
  rw [Bool.eq_iff_iff]
  unfold isGap
  simp [or_assoc]
/-! ### skipped -/
def skC : M Bool := DL.tAnd (t2 dLt (mVar 1) (eA fLen [mVar 0])) (DL.tOr (vt (mVar 2)) (t2 dIn (e2 dIx (mVar 0) (mVar 1)) (mr (.str " \n#"))))
def skB : SM := sSeq (sAsg (tgN 2) (vAnd (bv (t2 dNe (e2 dIx (mVar 0) (mVar 1)) (mr (.str "\n")))) (vOr (mVar 2) (bv (t2 dEq (e2 dIx (mVar 0) (mVar 1)) (mr (.str "#"))))))) (sAsg (tgN 1) (e2 dAdd (mVar 1) (mr (.int 1))))
def skE (cs : List Nat) (i : Nat) (r : Bool) : En := [.dat (.str (tx cs)), .dat (.int (i : Int)), .dat (.bool r)]
theorem skip_loop (cs : List Nat) (hl : cs.length ≤ sizeLine) : ∀ (n i : Nat) (r : Bool), cs.length - i ≤ n → i ≤ cs.length → ∃ r', sWhile skC skB (skE cs i r) none = some (.nx, skE cs (i + skipN r (cs.drop i)) r', none)
  | n, i, r, hn, hi => by
    have hlen : eA fLen [mVar 0] (skE cs i r) none = some (.int cs.length, none) := eA1_of rfl (len_tx hl)
    have h1 : t2 dLt (mVar 1) (eA fLen [mVar 0]) (skE cs i r) none = some (decide (i < cs.length), none) := t2_of rfl hlen (by show some (decide ((i : Int) < (cs.length : Int))) = _; simp)
    by_cases hlt : i < cs.length
    · have hc : cs[i]? = some cs[i] := List.getElem?_eq_getElem hlt
      have hd : cs.drop i = cs[i] :: cs.drop (i + 1) := List.drop_eq_getElem_cons hlt
      generalize cs[i] = c at hc hd
      have hix : e2 dIx (mVar 0) (mVar 1) (skE cs i r) none = some (.str (sign c), none) := e2_of rfl rfl (ix_tx hl hc)
      have h2 : DL.tOr (vt (mVar 2)) (t2 dIn (e2 dIx (mVar 0) (mVar 1)) (mr (.str " \n#"))) (skE cs i r) none = some (r || isGap c, none) :=
        tOr_of (vt_of rfl) fun _ => t2_of hix rfl (by rw [str_gap, in_tx, gap_mem])
      have h3 : skC (skE cs i r) none = some (r || isGap c, none) := by
        unfold skC
        rw [tAnd_t (by rw [h1, decide_eq_true hlt])]
        exact h2
      cases hg : (r || isGap c) with
      | false =>
        refine ⟨r, ?_⟩
        rw [sWhile_f (by rw [h3, hg])]
        rw [hd, skipN, if_neg (by rw [hg]; exact Bool.false_ne_true)]
        rfl
      | true =>
        have hb : skB (skE cs i r) none = some (.nx, skE cs (i + 1) (c != 10 && (r || c == 35)), none) := by
          unfold skB
          have e1 : vAnd (bv (t2 dNe (e2 dIx (mVar 0) (mVar 1)) (mr (.str "\n")))) (vOr (mVar 2) (bv (t2 dEq (e2 dIx (mVar 0) (mVar 1)) (mr (.str "#"))))) (skE cs i r) none = some (.bool (c != 10 && (r || c == 35)), none) :=
            vAnd_b (bv_of (t2_of hix rfl (by rw [str_nl]; exact ne_sign c 10))) fun _ => vOr_b rfl fun _ => bv_of (t2_of hix rfl (by rw [str_hash]; exact eq_sign c 35))
          rw [sSeq_nx (sAsg_of e1 rfl)]
          exact sAsg_of (e2_of rfl rfl rfl) (by show some _ = some _; simp [skE])
        rw [sWhile_t (by rw [h3, hg]) hb]
        obtain ⟨r', h⟩ := skip_loop cs hl (n - 1) (i + 1) (c != 10 && (r || c == 35)) (by omega) hlt
        refine ⟨r', ?_⟩
        have e : i + (skipN (c != 10 && (r || c == 35)) (cs.drop (i + 1)) + 1) = i + 1 + skipN (c != 10 && (r || c == 35)) (cs.drop (i + 1)) := by omega
        rw [h, hd, skipN, if_pos hg, e]
    · refine ⟨r, ?_⟩
      have h3 : skC (skE cs i r) none = some (false, none) := by
        unfold skC
        exact tAnd_f (by rw [h1, decide_eq_false hlt])
      rw [sWhile_f h3, List.drop_eq_nil_of_le (by omega)]
      rfl
  termination_by n i => cs.length - i
  decreasing_by omega
theorem f_skipped_eq {cs : List Nat} (hl : cs.length ≤ sizeLine) {i : Nat} (hi : i ≤ cs.length) : f_skipped [.str (tx cs), .int (i : Int)] = some (.int ((i + skipN false (cs.drop i) : Nat) : Int)) := by
  obtain ⟨r', h⟩ := skip_loop cs hl _ i false (Nat.le_refl _) hi
  refine runD_of (env := skE cs (i + skipN false (cs.drop i)) r') (ds' := none) ?_
  unfold m_skipped
  have e : envD 3 [PyData.str (tx cs), .int (i : Int)] = [.dat (.str (tx cs)), .dat (.int (i : Int)), .emp] := rfl
  rw [e, sSeq_nx (sAsg_of (d := .bool false) rfl rfl)]
  show sSeq (sWhile skC skB) (sRet (mVar 1)) (skE cs i false) none = _
  rw [sSeq_nx h]
  exact sRet_of rfl
/-! ### token_end -/
def WL : List Nat := (List.range 26).map (97 + ·) ++ (List.range 26).map (65 + ·) ++ (List.range 10).map (48 + ·) ++ [95]
theorem str_word : c_WORD_SIGNS = .str (tx WL) := by
  unfold c_WORD_SIGNS
  congr 1
theorem word_mem (c : Nat) : decide (c ∈ WL) = isW c := by
  by_cases h : c < 123
  · have all : ∀ c < 123, decide (c ∈ WL) = isW c := by decide +kernel
    exact all c h
  · have h1 : ∀ d ∈ WL, d < 123 := by decide +kernel
    have h2 : isW c = false := by
      unfold isW
      simp only [Bool.or_eq_false_iff, Bool.and_eq_false_iff, decide_eq_false_iff_not, beq_eq_false_iff_ne]
      omega
    rw [h2]
    exact decide_eq_false fun z => h (h1 c z)
def teC : M Bool := DL.tAnd (t2 dLt (mVar 2) (eA fLen [mVar 0])) (t2 dIn (e2 dIx (mVar 0) (mVar 2)) (mr c_WORD_SIGNS))
def teB : SM := sAsg (tgN 2) (e2 dAdd (mVar 2) (mr (.int 1)))
def teE (cs : List Nat) (k i : Nat) : En := [.dat (.str (tx cs)), .dat (.int (k : Int)), .dat (.int (i : Int))]
theorem end_loop (cs : List Nat) (hl : cs.length ≤ sizeLine) (k : Nat) : ∀ (n i : Nat), cs.length - i ≤ n → i ≤ cs.length → sWhile teC teB (teE cs k i) none = some (.nx, teE cs k (i + wordN (cs.drop i)), none)
  | n, i, hn, hi => by
    have hlen : eA fLen [mVar 0] (teE cs k i) none = some (.int cs.length, none) := eA1_of rfl (len_tx hl)
    have h1 : t2 dLt (mVar 2) (eA fLen [mVar 0]) (teE cs k i) none = some (decide (i < cs.length), none) := t2_of rfl hlen (by show some (decide ((i : Int) < (cs.length : Int))) = _; simp)
    by_cases hlt : i < cs.length
    · have hc : cs[i]? = some cs[i] := List.getElem?_eq_getElem hlt
      have hd : cs.drop i = cs[i] :: cs.drop (i + 1) := List.drop_eq_getElem_cons hlt
      generalize cs[i] = c at hc hd
      have hix : e2 dIx (mVar 0) (mVar 2) (teE cs k i) none = some (.str (sign c), none) := e2_of rfl rfl (ix_tx hl hc)
      have h3 : teC (teE cs k i) none = some (isW c, none) := by
        unfold teC
        rw [tAnd_t (by rw [h1, decide_eq_true hlt])]
        exact t2_of hix rfl (by rw [str_word, in_tx, word_mem])
      cases hg : isW c with
      | false =>
        rw [sWhile_f (by rw [h3, hg]), hd, wordN, if_neg (by rw [hg]; exact Bool.false_ne_true)]
        rfl
      | true =>
        have hb : teB (teE cs k i) none = some (.nx, teE cs k (i + 1), none) := sAsg_of (e2_of rfl rfl rfl) (by show some _ = some _; simp [teE])
        have e : i + (wordN (cs.drop (i + 1)) + 1) = i + 1 + wordN (cs.drop (i + 1)) := by omega
        rw [sWhile_t (by rw [h3, hg]) hb, end_loop cs hl k (n - 1) (i + 1) (by omega) hlt, hd, wordN, if_pos hg, e]
    · have h3 : teC (teE cs k i) none = some (false, none) := by
        unfold teC
        exact tAnd_f (by rw [h1, decide_eq_false hlt])
      rw [sWhile_f h3, List.drop_eq_nil_of_le (by omega)]
      rfl
  termination_by n i => cs.length - i
  decreasing_by omega
theorem f_end_eq {cs : List Nat} (hl : cs.length ≤ sizeLine) {i : Nat} (hi : i ≤ cs.length) : f_token_end [.str (tx cs), .int (i : Int)] = some (.int ((i + tokN (cs.drop i) : Nat) : Int)) := by
  have h := end_loop cs hl i _ i (Nat.le_refl _) hi
  refine runD_of (env := teE cs i (i + wordN (cs.drop i))) (ds' := none) ?_
  unfold m_token_end
  have e : envD 3 [PyData.str (tx cs), .int (i : Int)] = [.dat (.str (tx cs)), .dat (.int (i : Int)), .emp] := rfl
  rw [e, sSeq_nx (sAsg_of (d := .int (i : Int)) rfl rfl)]
  show sSeq (sWhile teC teB) (sRet (eA fMax [mVar 2, e2 dAdd (mVar 1) (mr (.int 1))])) (teE cs i i) none = _
  rw [sSeq_nx h]
  refine sRet_of (eA_of (mseq2_of rfl (e2_of rfl rfl rfl)) ?_)
  have e : (if ((i : Int) + 1) > ((i + wordN (cs.drop i) : Nat) : Int) then ((i : Int) + 1) else ((i + wordN (cs.drop i) : Nat) : Int)) = ((i + tokN (cs.drop i) : Nat) : Int) := by
    unfold tokN
    rw [Nat.max_def]
    split <;> split <;> omega
  show some (PyData.int (if ((i : Int) + 1) > ((i + wordN (cs.drop i) : Nat) : Int) then ((i : Int) + 1) else ((i + wordN (cs.drop i) : Nat) : Int))) = _
  rw [e]
/-! ### token_places -/
theorem skip_mono {cs : List Nat} (r : Bool) (i : Nat) (hi : i ≤ cs.length) : i + skipN r (cs.drop i) ≤ cs.length := by
  have := skipN_le (cs.drop i) r
  rw [List.length_drop] at this
  omega
def tpC : M Bool := t2 dLt (mVar 2) (eA fLen [mVar 0])
noncomputable def tpB : SM := sSeq (sApp 1 (mVar 2)) (sAsg (tgN 2) (eCall f_skipped [0, 1] [mVar 0, eCall f_token_end [0, 1] [mVar 0, mVar 2] []] []))
def tpE (cs : List Nat) (acc : List Nat) (i : Nat) : En := [.dat (.str (tx cs)), .own (acc.map fun (k : Nat) => .int (k : Int)), .dat (.int (i : Int))]
theorem places_loop (cs : List Nat) (hl : cs.length < sizeLine) : ∀ (n i : Nat) (acc : List Nat), cs.length - i ≤ n → i ≤ cs.length → acc.length + (cs.length - i) < sizeLine → ∃ j, sWhile tpC tpB (tpE cs acc (i + skipN false (cs.drop i))) none = some (.nx, tpE cs (acc ++ (T false i (cs.drop i)).map (·.1)) j, none)
  | n, i, acc, hn, hi, ha => by
    have hk := skip_mono false i hi
    have hl' : cs.length ≤ sizeLine := Nat.le_of_lt hl
    generalize hK : i + skipN false (cs.drop i) = k at hk
    have hlen : eA fLen [mVar 0] (tpE cs acc k) none = some (.int cs.length, none) := eA1_of rfl (len_tx hl')
    have h1 : tpC (tpE cs acc k) none = some (decide (k < cs.length), none) := t2_of rfl hlen (by show some (decide ((k : Int) < (cs.length : Int))) = _; simp)
    have hdd : (cs.drop i).drop (skipN false (cs.drop i)) = cs.drop k := by rw [List.drop_drop, hK]
    by_cases hlt : k < cs.length
    · have hd : cs.drop k = cs[k] :: cs.drop (k + 1) := List.drop_eq_getElem_cons hlt
      have hT := T_cons (off := i) (hdd.trans hd)
      rw [← hd, hK] at hT
      have htn : k + tokN (cs.drop k) ≤ cs.length := by
        have := (tok_at (rest := cs.drop (k + 1)) (skip_head _ _ (hdd.trans hd))).2.1
        rw [← hd, List.length_drop] at this
        omega
      have hpos : 1 ≤ tokN (cs.drop k) := Nat.le_max_right _ _
      have hb : tpB (tpE cs acc k) none = some (.nx, tpE cs (acc ++ [k]) (k + tokN (cs.drop k) + skipN false (cs.drop (k + tokN (cs.drop k)))), none) := by
        unfold tpB
        have e1 : sApp 1 (mVar 2) (tpE cs acc k) none = some (.nx, tpE cs (acc ++ [k]) k, none) := by
          show (if (acc.map fun (k : Nat) => PyData.int (k : Int)).length < sizeLine then some (Out.nx, _, none) else none) = _
          rw [if_pos (by rw [List.length_map]; omega)]
          simp [tpE]
        rw [sSeq_nx e1]
        have e2 : eCall f_token_end [0, 1] [mVar 0, mVar 2] [] (tpE cs (acc ++ [k]) k) none = some (.int ((k + tokN (cs.drop k) : Nat) : Int), none) :=
          eCall_of (mseq2_of rfl rfl) rfl (f_end_eq hl' hk)
        exact sAsg_of (eCall_of (mseq2_of rfl e2) rfl (f_skipped_eq hl' htn)) rfl
      obtain ⟨j, hj⟩ := places_loop cs hl (n - 1) (k + tokN (cs.drop k)) (acc ++ [k]) (by omega) htn (by rw [List.length_append, List.length_singleton]; omega)
      refine ⟨j, ?_⟩
      rw [sWhile_t (by rw [h1, decide_eq_true hlt]) hb, hj, hT, List.map_cons, List.append_assoc, List.singleton_append]
      rw [List.drop_drop]
    · refine ⟨k, ?_⟩
      rw [sWhile_f (by rw [h1, decide_eq_false hlt]), T_nil (by rw [hdd]; exact List.drop_eq_nil_of_le (by omega))]
      simp
  termination_by n i => cs.length - i
  decreasing_by omega
def intsD (ns : List Nat) : List PyData := ns.map fun (k : Nat) => .int (k : Int)
theorem f_places_eq {cs : List Nat} (hl : cs.length < sizeLine) : f_token_places [.str (tx cs)] = some (.tuple (intsD ((T false 0 cs).map (·.1)))) := by
  obtain ⟨j, h⟩ := places_loop cs hl _ 0 [] (Nat.le_refl _) (Nat.zero_le _) (by simpa using hl)
  refine runD_of (env := tpE cs ((T false 0 cs).map (·.1)) j) (ds' := none) ?_
  unfold m_token_places
  have e : envD 3 [PyData.str (tx cs)] = [.dat (.str (tx cs)), .emp, .emp] := rfl
  have e2 : eCall f_skipped [0, 1] [mVar 0, mr (.int 0)] [] [.dat (.str (tx cs)), .emp, .emp] none = some (.int ((0 + skipN false (cs.drop 0) : Nat) : Int), none) :=
    eCall_of (mseq2_of rfl rfl) rfl (f_skipped_eq (Nat.le_of_lt hl) (Nat.zero_le _))
  have e3 : sPar [1, 2] [.n (mseq []), .d (eCall f_skipped [0, 1] [mVar 0, mr (.int 0)] [])] [.dat (.str (tx cs)), .emp, .emp] none = some (.nx, tpE cs [] (0 + skipN false (cs.drop 0)), none) := by
    rw [sPar_of (mslots_n (xs := []) rfl (mslots_d e2 rfl))]
    rfl
  rw [e, sSeq_nx e3]
  show sSeq (sWhile tpC tpB) (sRet (eA fTuple [mMut 1])) _ none = _
  rw [sSeq_nx h]
  exact sRet_of (eA1_of rfl rfl)
/-! ### tokens_of -/
def strsD (ts : List (List Nat)) : List PyData := ts.map fun t => .str (tx t)
theorem cut_tx {cs : List Nat} {i j : Nat} (hl : cs.length ≤ sizeLine) (hi : i ≤ cs.length) (hj : j ≤ cs.length) : dSl (.str (tx cs)) (some (i : Int)) (some (j : Int)) = some (.str (tx ((cs.drop i).take (j - i)))) := by
  show (if (tx cs).length ≤ sizeLine then some (PyData.str (cutS (tx cs) (some (i : Int)) (some (j : Int)))) else none) = _
  rw [tx_len, if_pos hl]
  unfold cutS
  rw [tx_len, tx_cps, HT.sIx_nat, HT.sIx_nat, Nat.min_eq_left hi, Nat.min_eq_left hj]
  rfl
theorem T_at : ∀ (n : Nat) (r : Bool) (off : Nat) (cs : List Nat), cs.length ≤ n → ∀ p ∈ T r off cs, off ≤ p.1 ∧ p.1 + p.2.length ≤ off + cs.length ∧ tokN (cs.drop (p.1 - off)) = p.2.length ∧ (cs.drop (p.1 - off)).take p.2.length = p.2
  | n, r, off, cs, hn, p, hp => by
    cases q : cs.drop (skipN r cs) with
    | nil => rw [T_nil q] at hp; cases hp
    | cons c rest =>
      have h1 : (c :: rest).length + skipN r cs = cs.length := by
        have := skipN_le cs r
        rw [← q, List.length_drop]
        omega
      have hle := (tok_at (rest := rest) (skip_head cs r q)).2.1
      have h2 : 1 ≤ tokN (c :: rest) := Nat.le_max_right _ _
      have h3 : ((c :: rest).drop (tokN (c :: rest))).length + tokN (c :: rest) = (c :: rest).length := by
        rw [List.length_drop]
        omega
      rw [T_cons q] at hp
      rcases List.mem_cons.mp hp with rfl | hp
      · have hlt : ((c :: rest).take (tokN (c :: rest))).length = tokN (c :: rest) := by rw [List.length_take]; omega
        have e : off + skipN r cs - off = skipN r cs := by omega
        simp only
        rw [hlt, e, q]
        exact ⟨by omega, by omega, rfl, rfl⟩
      · obtain ⟨g1, g2, g3, g4⟩ := T_at (n - 1) false _ _ (by omega) p hp
        have e : (c :: rest).drop (tokN (c :: rest)) = cs.drop (skipN r cs + tokN (c :: rest)) := by rw [← q, List.drop_drop]
        have e2 : ((c :: rest).drop (tokN (c :: rest))).drop (p.1 - (off + skipN r cs + tokN (c :: rest))) = cs.drop (p.1 - off) := by
          rw [e, List.drop_drop]
          congr 1
          omega
        rw [e2] at g3 g4
        exact ⟨by omega, by omega, g3, g4⟩
  termination_by n => n
  decreasing_by omega
theorem f_tokens_eq {cs : List Nat} (hl : cs.length < sizeLine) : f_tokens_of [.str (tx cs)] = some (.tuple (strsD ((T false 0 cs).map (·.2)))) := by
  have hl' : cs.length ≤ sizeLine := Nat.le_of_lt hl
  refine runD_of (env := [.dat (.str (tx cs)), .emp]) (ds' := none) ?_
  unfold m_tokens_of
  have e : envD 2 [PyData.str (tx cs)] = [.dat (.str (tx cs)), .emp] := rfl
  rw [e]
  have e1 : mIt (eCall f_token_places [0] [mVar 0] []) [.dat (.str (tx cs)), .emp] none = some (intsD ((T false 0 cs).map (·.1)), none) :=
    mIt_of (eCall_of (mseq1_of rfl) rfl (f_places_eq hl)) rfl
  have e2 : ∀ (ps : List (Nat × List Nat)), (∀ p ∈ ps, p ∈ T false 0 cs) → compL (tgN 1) (mr true) (eSl (mVar 0) (oPart (mVar 1)) (oPart (eCall f_token_end [0, 1] [mVar 0, mVar 1] []))) [.dat (.str (tx cs)), .emp] (intsD (ps.map (·.1))) none = some (strsD (ps.map (·.2)), none) := by
    intro ps
    induction ps with
    | nil => intro _; rfl
    | cons p ps ih =>
      intro h
      obtain ⟨g1, g2, g3, g4⟩ := T_at _ false 0 cs (Nat.le_refl _) p (h p List.mem_cons_self)
      rw [Nat.sub_zero] at g3 g4
      have el : eSl (mVar 0) (oPart (mVar 1)) (oPart (eCall f_token_end [0, 1] [mVar 0, mVar 1] [])) [.dat (.str (tx cs)), .dat (.int (p.1 : Int))] none = some (.str (tx p.2), none) := by
        have q1 : eCall f_token_end [0, 1] [mVar 0, mVar 1] [] [.dat (.str (tx cs)), .dat (.int (p.1 : Int))] none = some (.int ((p.1 + tokN (cs.drop p.1) : Nat) : Int), none) :=
          eCall_of (mseq2_of rfl rfl) rfl (f_end_eq hl' (by omega))
        have q2 : oPart (eCall f_token_end [0, 1] [mVar 0, mVar 1] []) [.dat (.str (tx cs)), .dat (.int (p.1 : Int))] none = some (some ((p.1 + tokN (cs.drop p.1) : Nat) : Int), none) := by
          unfold oPart
          rw [mb_of q1]
          rfl
        have q3 : oPart (mVar 1) [.dat (.str (tx cs)), .dat (.int (p.1 : Int))] none = some (some (p.1 : Int), none) := rfl
        unfold eSl
        rw [mb_of (x := .str (tx cs)) (ds1 := none) rfl, mb_of q3, mb_of q2]
        unfold mo
        rw [cut_tx hl' (by omega) (by rw [g3]; omega), g3, Nat.add_sub_cancel_left, g4]
        rfl
      show compL _ _ _ _ (.int (p.1 : Int) :: intsD (ps.map (·.1))) none = _
      unfold compL
      show (match (eSl (mVar 0) (oPart (mVar 1)) (oPart (eCall f_token_end [0, 1] [mVar 0, mVar 1] [])) [.dat (.str (tx cs)), .dat (.int (p.1 : Int))] none) with | none => none | some (y, ds1) => _) = _
      rw [el]
      simp only
      rw [ih fun q hq => h q (List.mem_cons_of_mem _ hq)]
      rfl
  exact sRet_of (eA1_of (mlst_of (mComp_of e1 (e2 _ fun p hp => hp))) rfl)
/-! ### the law's own walk -/
theorem sign_lt (a b : Nat) : decide ((sign a).cps.toList < (sign b).cps.toList) = decide (a < b) := by
  congr 1
  show ([a] < [b]) = (a < b)
  rw [List.cons_lt_cons_iff]
  simp
theorem le_sign (a b : Nat) : dLe (.str (sign a)) (.str (sign b)) = some (decide (a ≤ b)) := by
  show some (!decide ((sign b).cps.toList < (sign a).cps.toList)) = _
  rw [sign_lt]
  congr 1
  by_cases h : a ≤ b
  · rw [decide_eq_true h, decide_eq_false (by omega)]; rfl
  · rw [decide_eq_false h, decide_eq_true (by omega)]; rfl
theorem t3_of {f g : PyData → PyData → Option Bool} {m1 m2 m3 : M PyData} {env : En} {ds : DS} {x y z : PyData} {u v : Bool} (h1 : m1 env ds = some (x, ds)) (h2 : m2 env ds = some (y, ds)) (hf : f x y = some u) (h3 : m3 env ds = some (z, ds)) (hg : g y z = some v) : t3 f g m1 m2 m3 env ds = some (u && v, ds) := by
  unfold t3
  rw [mb_of h1, mb_of h2]
  unfold mo
  rw [hf]
  rw [mb_of (x := u) (ds1 := ds) rfl]
  cases u with
  | true =>
    rw [if_pos rfl, mb_of h3]
    rw [hg]
    rfl
  | false => rfl
theorem f_letter_eq (c : Nat) : f__law_is_letter [.str (sign c)] = some (.bool (isW c)) := by
  refine runD_of (env := [.dat (.str (sign c))]) (ds' := none) ?_
  unfold m__law_is_letter
  have e : envD 1 [PyData.str (sign c)] = [.dat (.str (sign c))] := rfl
  rw [e]
  have a1 : ("_" : Str) = sign 95 := by decide +kernel
  have a2 : ("a" : Str) = sign 97 := by decide +kernel
  have a3 : ("z" : Str) = sign 122 := by decide +kernel
  have a4 : ("A" : Str) = sign 65 := by decide +kernel
  have a5 : ("Z" : Str) = sign 90 := by decide +kernel
  have a6 : ("0" : Str) = sign 48 := by decide +kernel
  have a7 : ("9" : Str) = sign 57 := by decide +kernel
  rw [a1, a2, a3, a4, a5, a6, a7]
  have r := fun (a b : Nat) => bv_of (t3_of (f := dLe) (g := dLe) (m1 := mr (.str (sign a))) (m2 := mVar 0) (m3 := mr (.str (sign b))) (env := [.dat (.str (sign c))]) (ds := none) rfl rfl (le_sign a c) rfl (le_sign c b))
  have h := vOr_b (bv_of (t2_of (m1 := mVar 0) (m2 := mr (.str (sign 95))) (env := [.dat (.str (sign c))]) (ds := none) rfl rfl (eq_sign c 95))) fun _ => vOr_b (r 97 122) fun _ => vOr_b (r 65 90) fun _ => r 48 57
  refine sRet_of ?_
  rw [h]
  unfold isW
  simp [Bool.or_assoc]
inductive Wst where
  | gap | remark | word | sign
def wS : Wst → PyData
  | .gap => .str "gap"
  | .remark => .str "remark"
  | .word => .str "word"
  | .sign => .str "sign"
def tksD (acc : List (Nat × List Nat)) : List PyData := acc.map fun p => .tuple [.int (p.1 : Int), .str (tx p.2)]
noncomputable def wkB : SM := sIf (t2 dEq (mVar 2) (mr (.str "remark"))) (sAsg (tgN 2) (eIf (t2 dEq (mVar 4) (mr (.str "\n"))) (mr (.str "gap")) (mr (.str "remark")))) (sIf (t2 dEq (mVar 4) (mr (.str "#"))) (sAsg (tgN 2) (mr (.str "remark"))) (sIf (t2 dIn (mVar 4) (mlst (mseq [mr (.str " "), mr (.str "\n")]))) (sAsg (tgN 2) (mr (.str "gap"))) (sIf (DL.tAnd (vt (eCall f__law_is_letter [0] [mVar 4] [])) (t2 dEq (mVar 2) (mr (.str "word")))) (sSetIx 1 (e1 dNeg (mr (.int 1))) (mtup (mseq [e2 dIx (e2 dIx (mMut 1) (e1 dNeg (mr (.int 1)))) (mr (.int 0)), e2 dAdd (e2 dIx (e2 dIx (mMut 1) (e1 dNeg (mr (.int 1)))) (mr (.int 1))) (mVar 4)]))) (sSeq (sApp 1 (mtup (mseq [mVar 3, mVar 4]))) (sAsg (tgN 2) (eIf (vt (eCall f__law_is_letter [0] [mVar 4] [])) (mr (.str "word")) (mr (.str "sign"))))))))
def wE (z : PyData) (acc : List (Nat × List Nat)) (st : Wst) (i c : Nat) : En := [.dat z, .own (tksD acc), .dat (wS st), .dat (.int (i : Int)), .dat (.str (sign c))]
theorem eq_remark (st : Wst) : dEq (wS st) (.str "remark") = some (match st with | .remark => true | _ => false) := by
  cases st <;> decide +kernel
theorem eq_word (st : Wst) : dEq (wS st) (.str "word") = some (match st with | .word => true | _ => false) := by
  cases st <;> decide +kernel
theorem in_gap (c : Nat) (hc : PyData.canLay0 (.str (sign c)) = true) : dIn (.str (sign c)) (.list [.str " ", .str "\n"]) = some (c == 32 || c == 10) := by
  rw [str_sp, str_nl]
  have h2 : PyData.canLayAll0 [.str (sign 32), .str (sign 10)] = true := by decide +kernel
  have h1 : (PyData.str (sign c)).depth ≤ 64 := by
    unfold PyData.depth
    decide
  show (if (PyData.str (sign c)).canLay0 = true ∧ (PyData.str (sign c)).depth ≤ 64 ∧ PyData.canLayAll0 [.str (sign 32), .str (sign 10)] = true then some ([PyData.str (sign 32), .str (sign 10)].any fun y => PyData.eqv y (.str (sign c))) else none) = _
  rw [if_pos ⟨hc, h1, h2⟩]
  have e : ∀ a : Nat, PyData.eqv (.str (sign a)) (.str (sign c)) = (c == a) := fun a => by
    have := eq_sign a c
    unfold PyData.eqv
    have h3 : (sign a == sign c) = (a == c) := Option.some.inj this
    rw [h3]
    exact Bool.beq_comm
  simp [e]
/-- one turn in a remark -/
theorem wk_remark (z : PyData) (acc : List (Nat × List Nat)) (i c : Nat) : wkB (wE z acc .remark i c) none = some (.nx, wE z acc (if c = 10 then .gap else .remark) i c, none) := by
  unfold wkB
  rw [sIf_t (t2_of rfl rfl (eq_remark .remark))]
  have h : t2 dEq (mVar 4) (mr (.str "\n")) (wE z acc .remark i c) none = some (c == 10, none) := t2_of rfl rfl (by rw [str_nl]; exact eq_sign c 10)
  by_cases hc : c = 10
  · refine sAsg_of (d := .str "gap") ?_ (by rw [if_pos hc]; rfl)
    rw [eIf_of h]
    subst hc
    rfl
  · refine sAsg_of (d := .str "remark") ?_ (by rw [if_neg hc]; rfl)
    rw [eIf_of h, if_neg (by simpa using hc)]
    rfl
/-- elsewhere: a sign that is no token's -/
theorem wk_gap (z : PyData) (acc : List (Nat × List Nat)) (st : Wst) (hst : st ≠ .remark) (i c : Nat) (hs : PyData.canLay0 (.str (sign c)) = true) (hc : isGap c = true) : wkB (wE z acc st i c) none = some (.nx, wE z acc (if c = 35 then .remark else .gap) i c, none) := by
  unfold wkB
  rw [sIf_f (t2_of rfl rfl (by rw [show _ = _ from eq_remark st]; cases st <;> first | rfl | exact absurd rfl hst))]
  have h35 : t2 dEq (mVar 4) (mr (.str "#")) (wE z acc st i c) none = some (c == 35, none) := t2_of rfl rfl (by rw [str_hash]; exact eq_sign c 35)
  by_cases h : c = 35
  · rw [sIf_t (by rw [h35, h]; rfl), if_pos h]
    exact sAsg_of rfl rfl
  · rw [sIf_f (by rw [h35, beq_false_of_ne h]), if_neg h]
    have hin : t2 dIn (mVar 4) (mlst (mseq [mr (.str " "), mr (.str "\n")])) (wE z acc st i c) none = some (c == 32 || c == 10, none) := t2_of rfl rfl (in_gap c hs)
    have hc2 : (c == 32 || c == 10) = true := by
      unfold isGap at hc
      simpa [h] using hc
    rw [sIf_t (by rw [hin, hc2])]
    exact sAsg_of rfl rfl
theorem wk_pre (z : PyData) (acc : List (Nat × List Nat)) (st : Wst) (hst : st ≠ .remark) (i c : Nat) (hs : PyData.canLay0 (.str (sign c)) = true) (hc : isGap c = false) : wkB (wE z acc st i c) none = sIf (DL.tAnd (vt (eCall f__law_is_letter [0] [mVar 4] [])) (t2 dEq (mVar 2) (mr (.str "word")))) (sSetIx 1 (e1 dNeg (mr (.int 1))) (mtup (mseq [e2 dIx (e2 dIx (mMut 1) (e1 dNeg (mr (.int 1)))) (mr (.int 0)), e2 dAdd (e2 dIx (e2 dIx (mMut 1) (e1 dNeg (mr (.int 1)))) (mr (.int 1))) (mVar 4)]))) (sSeq (sApp 1 (mtup (mseq [mVar 3, mVar 4]))) (sAsg (tgN 2) (eIf (vt (eCall f__law_is_letter [0] [mVar 4] [])) (mr (.str "word")) (mr (.str "sign"))))) (wE z acc st i c) none := by
  unfold wkB
  have hc' : c ≠ 35 ∧ (c == 32 || c == 10) = false := by
    unfold isGap at hc
    simp only [Bool.or_eq_false_iff, beq_eq_false_iff_ne] at hc ⊢
    exact ⟨hc.2, hc.1⟩
  rw [sIf_f (t2_of rfl rfl (by rw [show _ = _ from eq_remark st]; cases st <;> first | rfl | exact absurd rfl hst))]
  have h35 : t2 dEq (mVar 4) (mr (.str "#")) (wE z acc st i c) none = some (c == 35, none) := t2_of rfl rfl (by rw [str_hash]; exact eq_sign c 35)
  rw [sIf_f (by rw [h35, beq_false_of_ne hc'.1])]
  have hin : t2 dIn (mVar 4) (mlst (mseq [mr (.str " "), mr (.str "\n")])) (wE z acc st i c) none = some (c == 32 || c == 10, none) := t2_of rfl rfl (in_gap c hs)
  rw [sIf_f (by rw [hin, hc'.2])]
theorem letter_at (z : PyData) (acc : List (Nat × List Nat)) (st : Wst) (i c : Nat) : vt (eCall f__law_is_letter [0] [mVar 4] []) (wE z acc st i c) none = some (isW c, none) := vt_of (eCall_of (mseq1_of rfl) rfl (f_letter_eq c))
/-- a token begins -/
theorem wk_new (z : PyData) (acc : List (Nat × List Nat)) (st : Wst) (hst : st ≠ .remark) (i c : Nat) (hs : PyData.canLay0 (.str (sign c)) = true) (hc : isGap c = false) (hw : isW c = false ∨ st ≠ .word) (hl : acc.length < sizeLine) : wkB (wE z acc st i c) none = some (.nx, wE z (acc ++ [(i, [c])]) (if isW c = true then .word else .sign) i c, none) := by
  rw [wk_pre z acc st hst i c hs hc]
  have hf : DL.tAnd (vt (eCall f__law_is_letter [0] [mVar 4] [])) (t2 dEq (mVar 2) (mr (.str "word"))) (wE z acc st i c) none = some (false, none) := by
    have := tAnd_of (t1 := t2 dEq (mVar 2) (mr (.str "word"))) (letter_at z acc st i c) fun _ => t2_of rfl rfl (eq_word st)
    rw [this]
    rcases hw with hw | hw
    · rw [hw]; rfl
    · cases st <;> first | exact absurd rfl hw | (simp)
  rw [sIf_f hf]
  have ha : sApp 1 (mtup (mseq [mVar 3, mVar 4])) (wE z acc st i c) none = some (.nx, wE z (acc ++ [(i, [c])]) st i c, none) := by
    show (if (tksD acc).length < sizeLine then some (Out.nx, _, none) else none) = _
    rw [if_pos (by unfold tksD; rw [List.length_map]; exact hl)]
    simp [wE, tksD, sign, tx]
  rw [sSeq_nx ha]
  cases hW : isW c with
  | true =>
    refine sAsg_of (d := .str "word") ?_ rfl
    rw [eIf_of (letter_at _ _ _ _ _), hW]
    rfl
  | false =>
    refine sAsg_of (d := .str "sign") ?_ rfl
    rw [eIf_of (letter_at _ _ _ _ _), hW]
    rfl
/-- a word goes on -/
theorem wk_word (z : PyData) (acc : List (Nat × List Nat)) (p : Nat) (w : List Nat) (i c : Nat) (hs : PyData.canLay0 (.str (sign c)) = true) (hW : isW c = true) (hl : w.length + 1 ≤ sizeLine) : wkB (wE z (acc ++ [(p, w)]) .word i c) none = some (.nx, wE z (acc ++ [(p, w ++ [c])]) .word i c, none) := by
  rw [wk_pre z _ .word (fun z => nomatch z) i c hs (isW_gap hW)]
  have ht : DL.tAnd (vt (eCall f__law_is_letter [0] [mVar 4] [])) (t2 dEq (mVar 2) (mr (.str "word"))) (wE z (acc ++ [(p, w)]) .word i c) none = some (true, none) := by
    rw [tAnd_t (by rw [letter_at, hW])]
    exact t2_of rfl rfl (eq_word .word)
  rw [sIf_t ht]
  have hlast : atI (tksD (acc ++ [(p, w)])) (-1) = some (.tuple [.int (p : Int), .str (tx w)]) := by
    have hlen : (tksD (acc ++ [(p, w)])).length = acc.length + 1 := by simp [tksD]
    unfold atI ixN
    rw [hlen, if_neg (by omega), if_pos (by omega)]
    show (tksD (acc ++ [(p, w)]))[((-1 : Int) + ((acc.length + 1 : Nat) : Int)).toNat]? = _
    rw [show ((-1 : Int) + ((acc.length + 1 : Nat) : Int)).toNat = acc.length by omega]
    simp [tksD]
  have hix : e2 dIx (mMut 1) (e1 dNeg (mr (.int 1))) (wE z (acc ++ [(p, w)]) .word i c) none = some (.tuple [.int (p : Int), .str (tx w)], none) :=
    e2_of (x := .list (tksD (acc ++ [(p, w)]))) rfl (e1_of (x := .int 1) rfl rfl) hlast
  have hv : mtup (mseq [e2 dIx (e2 dIx (mMut 1) (e1 dNeg (mr (.int 1)))) (mr (.int 0)), e2 dAdd (e2 dIx (e2 dIx (mMut 1) (e1 dNeg (mr (.int 1)))) (mr (.int 1))) (mVar 4)]) (wE z (acc ++ [(p, w)]) .word i c) none = some (.tuple [.int (p : Int), .str (tx (w ++ [c]))], none) := by
    refine mtup_of (mseq2_of (e2_of hix rfl rfl) (e2_of (e2_of hix rfl rfl) rfl ?_))
    show fit ((tx w).length + (sign c).length) (PyData.str (tx w ++ sign c)) = _
    rw [tx_len, show (sign c).length = 1 from rfl, fit_of hl]
    congr 2
    show Str.mk _ = Str.mk _
    simp [tx, sign]
  unfold sSetIx
  rw [hv]
  show (match ixN (tksD (acc ++ [(p, w)])).length (-1) with | some j => some (Out.nx, (wE z (acc ++ [(p, w)]) .word i c).set 1 (.own ((tksD (acc ++ [(p, w)])).set j (.tuple [.int (p : Int), .str (tx (w ++ [c]))]))), none) | none => none) = _
  have hj : ixN (tksD (acc ++ [(p, w)])).length (-1) = some acc.length := by
    have hlen : (tksD (acc ++ [(p, w)])).length = acc.length + 1 := by simp [tksD]
    unfold ixN
    rw [hlen, if_neg (by omega), if_pos (by omega)]
    congr 1
    omega
  rw [hj]
  simp [wE, tksD]
def Res (st : Wst) (acc : List (Nat × List Nat)) (off : Nat) (cs : List Nat) (res : List (Nat × List Nat)) : Prop := match st with
  | .remark => res = acc ++ T true off cs
  | .gap => res = acc ++ T false off cs
  | .sign => res = acc ++ T false off cs
  | .word => ∃ acc0 p w, acc = acc0 ++ [(p, w)] ∧ w.length + cs.length < sizeLine ∧ res = acc0 ++ [(p, w ++ cs.take (wordN cs))] ++ T false (off + wordN cs) (cs.drop (wordN cs))
theorem walk_turn {z : PyData} {st : Wst} {acc : List (Nat × List Nat)} {off c : Nat} {cs : List Nat} {res : List (Nat × List Nat)} (hR : Res st acc off (c :: cs) res) (hs : PyData.canLay0 (.str (sign c)) = true) (hl : acc.length + (cs.length + 1) < sizeLine) :
    ∃ st2 acc2, wkB (wE z acc st off c) none = some (.nx, wE z acc2 st2 off c, none) ∧ Res st2 acc2 (off + 1) cs res ∧ acc2.length ≤ acc.length + 1 := by
  -- a new token
  have new : ∀ st, st ≠ .remark → isGap c = false → (isW c = false ∨ st ≠ .word) → res = acc ++ T false off (c :: cs) → ∃ st2 acc2, wkB (wE z acc st off c) none = some (.nx, wE z acc2 st2 off c, none) ∧ Res st2 acc2 (off + 1) cs res ∧ acc2.length ≤ acc.length + 1 := fun st h1 hg hw hres => by
    refine ⟨_, _, wk_new z acc st h1 off c hs hg hw (by omega), ?_, by simp⟩
    rw [T_tok hg] at hres
    cases hW : isW c with
    | true =>
      have e : tokN (c :: cs) = wordN cs + 1 := by
        unfold tokN
        rw [wordN, if_pos hW]
        exact Nat.max_eq_left (by omega)
      rw [if_pos rfl]
      refine ⟨acc, off, [c], rfl, by simp; omega, ?_⟩
      rw [hres, e, List.take_succ_cons, List.drop_succ_cons, List.append_assoc, show off + (wordN cs + 1) = off + 1 + wordN cs by omega]
      rfl
    | false =>
      have e : tokN (c :: cs) = 1 := by
        unfold tokN
        rw [wordN, if_neg (by rw [hW]; exact Bool.false_ne_true)]
        rfl
      rw [if_neg Bool.false_ne_true]
      show res = acc ++ [(off, [c])] ++ T false (off + 1) cs
      rw [hres, e, List.append_assoc]
      rfl
  -- a gap
  have gap : ∀ st, st ≠ .remark → isGap c = true → res = acc ++ T false off (c :: cs) → ∃ st2 acc2, wkB (wE z acc st off c) none = some (.nx, wE z acc2 st2 off c, none) ∧ Res st2 acc2 (off + 1) cs res ∧ acc2.length ≤ acc.length + 1 := fun st h1 hg hres => by
    refine ⟨_, _, wk_gap z acc st h1 off c hs hg, ?_, by omega⟩
    rw [T_skip (by simpa using hg)] at hres
    by_cases h : c = 35
    · subst h
      rw [if_pos rfl]
      exact hres
    · rw [if_neg h]
      have e : (c != 10 && (false || c == 35)) = false := by simp [h]
      rw [e] at hres
      exact hres
  cases st with
  | remark =>
    refine ⟨_, _, wk_remark z acc off c, ?_, by omega⟩
    have hres : res = acc ++ T true off (c :: cs) := hR
    rw [T_skip rfl] at hres
    by_cases h : c = 10
    · subst h
      rw [if_pos rfl]
      exact hres
    · rw [if_neg h]
      have e : (c != 10 && (true || c == 35)) = true := by simp [h]
      rw [e] at hres
      exact hres
  | gap =>
    cases hg : isGap c with
    | true => exact gap _ (fun z => nomatch z) hg hR
    | false => exact new _ (fun z => nomatch z) hg (.inr fun z => nomatch z) hR
  | sign =>
    cases hg : isGap c with
    | true => exact gap _ (fun z => nomatch z) hg hR
    | false => exact new _ (fun z => nomatch z) hg (.inr fun z => nomatch z) hR
  | word =>
    obtain ⟨acc0, p, w, rfl, hw, hres⟩ := hR
    cases hW : isW c with
    | true =>
      refine ⟨_, _, wk_word z acc0 p w off c hs hW (by simp at hw; omega), ⟨acc0, p, w ++ [c], rfl, by simp at hw ⊢; omega, ?_⟩, by simp⟩
      rw [hres, wordN, if_pos hW, List.take_succ_cons, List.drop_succ_cons, show off + (wordN cs + 1) = off + 1 + wordN cs by omega]
      simp
    | false =>
      have h0 : wordN (c :: cs) = 0 := by rw [wordN, if_neg (by rw [hW]; exact Bool.false_ne_true)]
      rw [h0] at hres
      have hres2 : res = acc0 ++ [(p, w)] ++ T false off (c :: cs) := by simpa using hres
      cases hg : isGap c with
      | true => exact gap _ (fun z => nomatch z) hg hres2
      | false => exact new _ (fun z => nomatch z) hg (.inl hW) hres2
theorem walk_loop (z : PyData) : ∀ (cs : List Nat) (off : Nat) (st : Wst) (acc : List (Nat × List Nat)) (s3 s4 : Slot) (res : List (Nat × List Nat)), Res st acc off cs res → (∀ c ∈ cs, PyData.canLay0 (.str (sign c)) = true) → acc.length + cs.length < sizeLine →
    ∃ st2 u3 u4, sForL (tgT [tgN 3, tgN 4]) wkB (pairsFrom off (cs.map fun c => .str (sign c))) [.dat z, .own (tksD acc), .dat (wS st), s3, s4] none = some (.nx, [.dat z, .own (tksD res), .dat (wS st2), u3, u4], none)
  | [], off, st, acc, s3, s4, res, hR, _, _ => by
    have e : res = acc := by
      cases st with
      | word =>
        obtain ⟨acc0, p, w, rfl, _, h⟩ := hR
        rw [h]
        simp [wordN, T_empty]
      | gap => have h : res = acc ++ T false off [] := hR; rw [h, T_empty, List.append_nil]
      | sign => have h : res = acc ++ T false off [] := hR; rw [h, T_empty, List.append_nil]
      | remark => have h : res = acc ++ T true off [] := hR; rw [h, T_empty, List.append_nil]
    subst e
    exact ⟨st, s3, s4, rfl⟩
  | c :: cs, off, st, acc, s3, s4, res, hR, hs, hl => by
    obtain ⟨st2, acc2, h1, h2, h3⟩ := walk_turn (z := z) hR (hs c List.mem_cons_self) (by simpa using hl)
    obtain ⟨st3, u3, u4, h4⟩ := walk_loop z cs (off + 1) st2 acc2 (.dat (.int (off : Int))) (.dat (.str (sign c))) res h2 (fun d hd => hs d (List.mem_cons_of_mem _ hd)) (by simp only [List.length_cons] at hl; omega)
    refine ⟨st3, u3, u4, ?_⟩
    rw [List.map_cons, pairsFrom]
    unfold sForL
    show (match wkB (wE z acc st off c) none with | some (.nx, env2, ds2) => _ | some (.ct, env2, ds2) => _ | some (.bk, env2, ds2) => _ | some (.rt d, env2, ds2) => _ | none => _) = _
    rw [h1]
    exact h4
theorem f_walk_eq {cs : List Nat} (hl : cs.length < sizeLine) (hs : ∀ c ∈ cs, PyData.canLay0 (.str (sign c)) = true) : f__law_walk [.str (tx cs)] = some (.list (tksD (T false 0 cs))) := by
  obtain ⟨st2, u3, u4, h⟩ := walk_loop (.str (tx cs)) cs 0 .gap [] .emp .emp (T false 0 cs) (by show _ = [] ++ _; rfl) hs (by simpa using hl)
  refine runD_of (env := [.dat (.str (tx cs)), .dat (.list (tksD (T false 0 cs))), .dat (wS st2), u3, u4]) (ds' := none) ?_
  unfold m__law_walk
  have e : envD 5 [PyData.str (tx cs)] = [.dat (.str (tx cs)), .emp, .emp, .emp, .emp] := rfl
  have e3 : sPar [1, 2] [.n (mseq []), .d (mr (.str "gap"))] [.dat (.str (tx cs)), .emp, .emp, .emp, .emp] none = some (.nx, [.dat (.str (tx cs)), .own (tksD []), .dat (wS .gap), .emp, .emp], none) := by
    rw [sPar_of (mslots_n (xs := []) rfl (mslots_d (d := .str "gap") rfl rfl))]
    rfl
  rw [e, sSeq_nx e3]
  have e4 : mEnumA (mVar 0) [.dat (.str (tx cs)), .own (tksD []), .dat (wS .gap), .emp, .emp] none = some (pairsFrom 0 (cs.map fun c => .str (sign c)), none) := by
    unfold mEnumA
    rw [mb_of (x := .str (tx cs)) (ds1 := none) rfl]
    show Option.map (fun y => (y, none)) (Option.map (pairsFrom 0) (if (tx cs).length ≤ sizeLine then some (signsOf (tx cs)) else none)) = _
    rw [tx_len, if_pos (Nat.le_of_lt hl)]
    simp [signsOf]
  show sSeq (sFor (mEnumA (mVar 0)) (tgT [tgN 3, tgN 4]) wkB) (sSeq (sFrz 1) (sRet (mVar 1))) _ none = _
  rw [sSeq_nx (by rw [sFor_of e4]; exact h)]
  rfl
end K05

set_option Elab.async false
set_option linter.all false
set_option maxRecDepth 100000
set_option maxHeartbeats 2000000
namespace K05
open PySem PySem.Spec PyProof.Rows L2 DL
theorem any5 : AnyOk w__law_any := any_ok
/-- a short text of plain signs -/
def plainT : PyData → Bool
  | .str z => decide (z.cps.toList.length ≤ 12) && z.cps.toList.all (· < 128)
  | _ => false
def some1 : List PyData := [.str "a", .str "B_7", .str "kind", .str "0", .str "12", .str "007", .str "9x", .str "_", .str "-", .str ">", .str "=", .str ";", .str ":", .str "{", .str "}", .str "[", .str "(", .str "'", .str "free", .str "to"]
def some2 : List PyData := [.str ",", .str "?", .str "*", .str "$", .str "~", .str "!", .str "zZ09", .str "order:", .str "::", .str ";;", .str " ", .str " ", .str "  ", .str "\n", .str "\n ", .str "#", .str "##\n"]
def some3 : List PyData := [.str "# so : it is", .str " # a ; 3\n", .str "#\n#", .str "|", .str "&", .str "+"]
theorem plain_all : ∀ d ∈ some1 ++ some2 ++ some3, plainT d = true := by
  have h : (some1 ++ some2 ++ some3).all plainT = true := by decide +kernel
  exact List.all_eq_true.mp h
theorem of5 {d : PyData} {xs : List PyData} {ds : DS} (hd : d = .list xs) (h0 : xs ≠ []) (h1 : xs.length < 2 ^ 64) (g : GoodD ds) : ∃ x ∈ xs, ∃ ds', w__law_of [d] ds = some (x, ds') ∧ GoodD ds' := of_ok any5 (.inl hd) h0 h1 g
theorem joined : ∀ (ys : List PyData), (∀ y ∈ ys, plainT y = true) → ∃ cs : List (List Nat), ys = strsD cs ∧ (cs.map List.length).sum ≤ 12 * ys.length ∧ ∀ t ∈ cs, ∀ c ∈ t, c < 128
  | [], _ => ⟨[], rfl, by simp, fun _ h => nomatch h⟩
  | y :: ys, h => by
    obtain ⟨cs, e, h1, h2⟩ := joined ys fun z hz => h z (List.mem_cons_of_mem _ hz)
    have hy := h y List.mem_cons_self
    cases y with
    | str z =>
      simp only [plainT, Bool.and_eq_true, decide_eq_true_eq, List.all_eq_true] at hy
      refine ⟨z.cps.toList :: cs, ?_, ?_, fun t ht c hc => ?_⟩
      · rw [e]
        show PyData.str z :: strsD cs = .str (tx z.cps.toList) :: strsD cs
        rw [tx_of]
      · simp only [List.map_cons, List.sum_cons, List.length_cons]
        omega
      · rcases List.mem_cons.mp ht with rfl | ht
        · exact hy.2 c hc
        · exact h2 t ht c hc
    | _ => simp [plainT] at hy
theorem join_nil : ∀ cs : List (List Nat), TL.joinL [] cs = cs.flatten
  | [] => rfl
  | [p] => by simp [TL.joinL]
  | p :: q :: r => by rw [TL.joinL, join_nil (q :: r)]; simp
theorem strsOf_D (cs : List (List Nat)) : strsOf (strsD cs) = some (cs.map tx) := by
  have : strsD cs = (cs.map tx).map .str := by simp [strsD]
  rw [this]
  exact strsOf_map _
theorem join_D (sep : Str) (a : List Nat) (hs : sep = tx a) (cs : List (List Nat)) (d : PyData) (hd : d = .list (strsD cs) ∨ d = .tuple (strsD cs)) (hz : (cs.map List.length).sum + cs.length * a.length ≤ 16777216) : dJoin (.str sep) d = some (.str (tx (TL.joinL a cs))) := by
  have e1 : ((cs.map tx).map (·.length)).sum = (cs.map List.length).sum := by
    rw [List.map_map]
    congr 1
  have e2 : Txt.join sep (cs.map tx) = tx (TL.joinL a cs) := by
    rw [hs]
    exact SX.join_S a cs
  have e3 : ((cs.map tx).map (·.length)).sum + (cs.map tx).length * sep.length ≤ 16777216 := by
    rw [e1, List.length_map, hs, tx_len]
    exact hz
  rcases hd with rfl | rfl
  · show (match strsOf (strsD cs) with | some ys => if (ys.map fun y : Str => y.length).sum + ys.length * sep.length ≤ 16777216 then some (PyData.str (Txt.join sep ys)) else none | none => none) = _
    rw [strsOf_D]
    simp only
    rw [if_pos e3, e2]
  · show (match strsOf (strsD cs) with | some ys => if (ys.map fun y : Str => y.length).sum + ys.length * sep.length ≤ 16777216 then some (PyData.str (Txt.join sep ys)) else none | none => none) = _
    rw [strsOf_D]
    simp only
    rw [if_pos e3, e2]
theorem str_nil : ("" : Str) = tx [] := by decide +kernel
theorem text_ok {ds : DS} (g : GoodD ds) : ∃ cs ds', w__law_text [] ds = some (.str (tx cs), ds') ∧ GoodD ds' ∧ cs.length ≤ 300 ∧ ∀ c ∈ cs, c < 128 := by
  have e0 : envW 3 ([] : List PyData) = [.deal, .emp, .emp] := rfl
  obtain ⟨k, ds1, h1, hk, g1⟩ := any_of any5 (i := 0) (m := mr (.int 24)) (env := [.deal, .dat (.list (some1 ++ some2 ++ some3)), .emp]) (n := 24) rfl rfl (by decide) (by decide) g
  have hr : mRange1 (eCallW w__law_any 0 [mr (.int 24)]) [.deal, .dat (.list (some1 ++ some2 ++ some3)), .emp] ds = some (rangeL 0 k, ds1) := by
    rw [mRange1_of h1 (by omega), rangeL_nat]
  obtain ⟨ys, ds2, h2, h3, h4, g2⟩ := compL_draw (f := tgN 2) (el := eCallW w__law_of 0 [mVar 1]) (env := [.deal, .dat (.list (some1 ++ some2 ++ some3)), .emp]) (fun y => plainT y = true) (rangeL 0 k) ds1 g1 fun x hx => by
    refine ⟨_, rfl, fun ds g => ?_⟩
    obtain ⟨y, hy, ds', q1, q2⟩ := of5 (d := .list (some1 ++ some2 ++ some3)) rfl (by decide) (by decide) g
    obtain ⟨c, bl, rfl, _⟩ := g
    obtain ⟨c', bl', rfl, r⟩ := q2
    exact ⟨y, _, eCallW_of rfl (mseq1_of rfl) q1, plain_all y hy, c', bl', rfl, r⟩
  rw [rangeL_len] at h3
  obtain ⟨cs, rfl, l1, l2⟩ := joined ys h4
  have hcl : (cs.map List.length).sum ≤ 288 := by omega
  refine ⟨cs.flatten, ds2, runW_of (env := [.deal, .dat (.list (some1 ++ some2 ++ some3)), .emp]) ?_, g2, by rw [List.length_flatten]; omega, fun c hc => ?_⟩
  · unfold m__law_text
    rw [e0, sSeq_nx (sAsg_of (d := .list some1) (env1 := [.deal, .dat (.list some1), .emp]) rfl rfl)]
    rw [sSeq_nx (sAsg_of (d := .list (some1 ++ some2)) (env1 := [.deal, .dat (.list (some1 ++ some2)), .emp]) (e2_of (x := .list some1) (y := .list some2) rfl rfl (fit_of (by decide))) rfl)]
    rw [sSeq_nx (sAsg_of (d := .list (some1 ++ some2 ++ some3)) (env1 := [.deal, .dat (.list (some1 ++ some2 ++ some3)), .emp]) (e2_of (x := .list (some1 ++ some2)) (y := .list some3) rfl rfl (fit_of (by decide))) rfl)]
    refine sRet_of (e2_of rfl (mlst_of (mComp_of hr h2)) ?_)
    rw [join_D "" [] str_nil cs _ (.inl rfl) (by simp; omega), join_nil]
  · obtain ⟨t, ht, hc⟩ := List.mem_flatten.mp hc
    exact l2 t ht c hc
theorem T_sum : ∀ (n : Nat) (r : Bool) (off : Nat) (cs : List Nat), cs.length ≤ n → ((T r off cs).map fun p => p.2.length).sum ≤ cs.length
  | n, r, off, cs, hn => by
    cases q : cs.drop (skipN r cs) with
    | nil => rw [T_nil q]; exact Nat.zero_le _
    | cons c rest =>
      have h1 : (c :: rest).length + skipN r cs = cs.length := by
        have := skipN_le cs r
        rw [← q, List.length_drop]
        omega
      have hle := (tok_at (rest := rest) (skip_head cs r q)).2.1
      have h2 : 1 ≤ tokN (c :: rest) := Nat.le_max_right _ _
      have h3 : ((c :: rest).drop (tokN (c :: rest))).length + tokN (c :: rest) = (c :: rest).length := by
        rw [List.length_drop]
        omega
      rw [T_cons q, List.map_cons, List.sum_cons]
      have ih := T_sum (n - 1) false (off + skipN r cs + tokN (c :: rest)) ((c :: rest).drop (tokN (c :: rest))) (by omega)
      have hlt : ((c :: rest).take (tokN (c :: rest))).length = tokN (c :: rest) := by rw [List.length_take]; omega
      simp only
      omega
  termination_by n => n
  decreasing_by omega
theorem tok_pos {t : List Nat} (h : Tok t) : 1 ≤ t.length := by
  rcases h with ⟨h, _⟩ | ⟨c, rfl, _⟩
  · exact List.length_pos_iff.mpr h
  · exact Nat.le_refl _
theorem count_le : ∀ ts : List (List Nat), (∀ t ∈ ts, 1 ≤ t.length) → ts.length ≤ (ts.map List.length).sum
  | [], _ => Nat.le_refl _
  | t :: ts, h => by
    have := count_le ts fun u hu => h u (List.mem_cons_of_mem _ hu)
    have := h t List.mem_cons_self
    simp only [List.length_cons, List.map_cons, List.sum_cons]
    omega
theorem join_eq (s : Nat) : ∀ ts : List (List Nat), TL.joinL [s] ts = joinL s ts
  | [] => rfl
  | [t] => rfl
  | t :: u :: r => by
    rw [TL.joinL, joinL, join_eq s (u :: r)]
    rfl
theorem join_len (s : Nat) : ∀ ts : List (List Nat), (joinL s ts).length ≤ (ts.map List.length).sum + ts.length
  | [] => Nat.le_refl _
  | [t] => by simp [joinL]
  | t :: u :: r => by
    have := join_len s (u :: r)
    simp only [joinL, List.length_append, List.length_cons, List.map_cons, List.sum_cons] at this ⊢
    omega
theorem sm_nat {k : Nat} (h : k ≤ 1000) : Sm 0 40 (.int (k : Int)) := Sm.nat (by
  have : (1000 : Nat) < 10 ^ 12 := by decide
  omega)
/-- what stands of the drawn text -/
structure Tx (cs : List Nat) (L : List (Nat × List Nat)) : Prop where
  eL : L = T false 0 cs
  len : cs.length ≤ 300
  asc : ∀ c ∈ cs, c < 128
theorem Tx.sz {cs L} (h : Tx cs L) : cs.length < sizeLine := by
  have := h.len
  rw [sizeLine_eq]
  omega
theorem Tx.sum {cs L} (h : Tx cs L) : ((L.map (·.2)).map List.length).sum ≤ cs.length := by
  have := T_sum _ false 0 cs (Nat.le_refl _)
  rw [h.eL, List.map_map]
  exact this
theorem Tx.toks {cs L} (h : Tx cs L) : ∀ t ∈ L.map (·.2), Tok t := by
  intro t ht
  obtain ⟨p, hp, rfl⟩ := List.mem_map.mp ht
  rw [h.eL] at hp
  exact T_toks _ false 0 cs (Nat.le_refl _) p hp
theorem Tx.cnt {cs L} (h : Tx cs L) : L.length ≤ 300 := by
  have h1 := count_le (L.map (·.2)) fun t ht => tok_pos (h.toks t ht)
  have h2 := h.sum
  have h3 := h.len
  rw [List.length_map] at h1
  omega
theorem Tx.at {cs L} (h : Tx cs L) : ∀ p ∈ L, p.1 + p.2.length ≤ cs.length ∧ (cs.drop p.1).take p.2.length = p.2 := by
  intro p hp
  rw [h.eL] at hp
  obtain ⟨_, g2, _, g4⟩ := T_at _ false 0 cs (Nat.le_refl _) p hp
  rw [Nat.sub_zero] at g4
  exact ⟨by omega, g4⟩
theorem Tx.sign {cs L} (h : Tx cs L) : ∀ p ∈ L, ∀ c ∈ p.2, c < 1114112 := by
  intro p hp c hc
  have := (h.at p hp).2
  rw [← this] at hc
  have := h.asc c (List.mem_of_mem_drop (List.mem_of_mem_take hc))
  omega
theorem sm_toks {cs L} (h : Tx cs L) : Sm 1 90300 (.tuple (strsD (L.map (·.2)))) := by
  refine (Sm.tup (SmA.le (n := 300) (w := 300) (h := 0) (fun x hx => ?_) (by simpa [strsD] using h.cnt))).mono (Nat.le_refl _) (by decide)
  obtain ⟨t, ht, rfl⟩ := List.mem_map.mp hx
  obtain ⟨p, hp, rfl⟩ := List.mem_map.mp ht
  refine Sm.str (by rw [tx_cps]; exact h.sign p hp) ?_
  have := (h.at p hp).1
  have := h.len
  rw [tx_len]
  omega
theorem sm_ints {ns : List Nat} (h : ∀ n ∈ ns, n ≤ 1000) (hl : ns.length ≤ 300) : Sm 1 12300 (.tuple (intsD ns)) := by
  refine (Sm.tup (SmA.le (n := 300) (w := 40) (h := 0) (fun x hx => ?_) (by simpa [intsD] using hl))).mono (Nat.le_refl _) (by decide)
  obtain ⟨t, ht, rfl⟩ := List.mem_map.mp hx
  exact sm_nat (h t ht)
theorem tokens_ok {cs L} (h : Tx cs L) : f_tokens_of [.str (tx cs)] = some (.tuple (strsD (L.map (·.2)))) := by rw [f_tokens_eq h.sz, h.eL]
theorem places_ok {cs L} (h : Tx cs L) : f_token_places [.str (tx cs)] = some (.tuple (intsD (L.map (·.1)))) := by rw [f_places_eq h.sz, h.eL]
theorem joined_T {cs L} (h : Tx cs L) {s : Nat} (hs : s = 32 ∨ s = 10) : T false 0 (joinL s (L.map (·.2))) = placesL 0 (L.map (·.2)) := T_join hs _ _ h.toks
theorem joined_len {cs L} (h : Tx cs L) (s : Nat) : (joinL s (L.map (·.2))).length ≤ 600 := by
  have h1 := join_len s (L.map (·.2))
  have h2 := h.sum
  have h3 := h.len
  have h4 := h.cnt
  rw [List.length_map] at h1
  omega
theorem join_ok {cs L} (h : Tx cs L) {s : Nat} (z : Str) (hz : z = tx [s]) : dJoin (.str z) (.tuple (strsD (L.map (·.2)))) = some (.str (tx (joinL s (L.map (·.2))))) := by
  have h2 := h.sum
  have h3 := h.len
  have h4 := h.cnt
  rw [join_D z [s] hz (L.map (·.2)) _ (.inr rfl) (by simp only [List.length_map, List.length_cons, List.length_nil] at *; omega), join_eq]
theorem tokens_join {cs L} (h : Tx cs L) {s : Nat} (hs : s = 32 ∨ s = 10) : f_tokens_of [.str (tx (joinL s (L.map (·.2))))] = some (.tuple (strsD (L.map (·.2)))) := by
  have hl := joined_len h s
  rw [f_tokens_eq (by rw [sizeLine_eq]; omega), joined_T h hs, placesL_snd]
theorem places_join {cs L} (h : Tx cs L) {s : Nat} (hs : s = 32 ∨ s = 10) : f_token_places [.str (tx (joinL s (L.map (·.2))))] = some (.tuple (intsD ((List.range L.length).map fun i => (((L.map (·.2)).take i).map fun t => t.length + 1).sum))) := by
  have hl := joined_len h s
  rw [f_places_eq (by rw [sizeLine_eq]; omega), joined_T h hs]
  congr 3
  apply List.ext_getElem?
  intro i
  rw [List.getElem?_map]
  by_cases hi : i < L.length
  · have := placesL_get (L.map (·.2)) 0 i (by simpa using hi)
    rw [this, List.getElem?_map, List.getElem?_range hi, Nat.zero_add]
    rfl
  · rw [List.getElem?_eq_none (by rw [placesL_len, List.length_map]; omega), List.getElem?_eq_none (by simp; omega)]
    rfl
end K05

set_option Elab.async false
set_option linter.all false
set_option maxRecDepth 100000
set_option maxHeartbeats 2000000
namespace K05
open PySem PySem.Spec PyProof.Rows L2 DL
def eT (cs : List Nat) (L : List (Nat × List Nat)) (s4 s7 s8 s9 s10 s11 : Slot) : En :=
  [.emp, .deal, .dat (.str (tx cs)), .dat (.list (tksD L)), s4, .dat (.tuple (strsD (L.map (·.2)))), .dat (.tuple (intsD (L.map (·.1)))), s7, s8, s9, s10, s11]
theorem ne_fin {x y : PyData} {h w : Nat} (s : Sm h w x) (hh : h ≤ 64) (e : x = y) : dNe x y = some false := by
  subst e
  exact ne_self s hh
theorem repr_eq2 {m1 m2 : M PyData} {env : En} {ds : DS} {x : PyData} {h w : Nat} (s : Sm h w x) (hh : h ≤ 60) (hw : w ≤ 1000000) (h1 : m1 env ds = some (x, ds)) (h2 : m2 env ds = some (x, ds)) : t2 dNe (eA fRepr [m1]) (eA fRepr [m2]) env ds = some (false, ds) :=
  t2_of (eA1_of h1 (repr_sm s hh hw)) (eA1_of h2 (repr_sm s hh hw)) (ne_str _)
theorem sums_ok {cs L} (X : Tx cs L) (s4 s7 s8 s9 s10 s11 : Slot) (ds : DS) : mlst (mComp (mRange1 (eA fLen [mVar 5])) [7] (tgN 7) (mr true) (eA fSum [mlst (mComp (mIt (eSl (mVar 5) (mr none) (oPart (mVar 7)))) [10] (tgN 10) (mr true) (e2 dAdd (eA fLen [mVar 10]) (mr (.int 1))))])) (eT cs L s4 s7 s8 s9 s10 s11) ds
    = some (.list (intsD ((List.range L.length).map fun i => (((L.map (·.2)).take i).map fun t => t.length + 1).sum)), ds) := by
  have hl : (strsD (L.map (·.2))).length = L.length := by simp [strsD]
  have h1 : mRange1 (eA fLen [mVar 5]) (eT cs L s4 s7 s8 s9 s10 s11) ds = some ((List.range L.length).map fun i => .int ((i : Nat) : Int), ds) :=
    mRange1_of (eA1_of rfl (by rw [len_tup, hl])) (by have := X.cnt; omega)
  refine mlst_of (mComp_of h1 ?_)
  rw [compL_of (fun i : Nat => PyData.int (i : Int)) (fun i : Nat => PyData.int (((((L.map (·.2)).take i).map fun t => t.length + 1).sum : Nat) : Int))]
  · rw [intsD, List.map_map]
    rfl
  · intro i hi
    have hi : i < L.length := List.mem_range.mp hi
    refine ⟨_, rfl, rfl, ?_⟩
    have h2 : mIt (eSl (mVar 5) (mr none) (oPart (mVar 7))) ((wipeE (eT cs L s4 s7 s8 s9 s10 s11) [7]).set 7 (.dat (.int (i : Int)))) ds = some (((L.map (·.2)).take i).map (fun t => PyData.str (tx t)), ds) := by
      refine mIt_of (d := .tuple (strsD ((L.map (·.2)).take i))) (eSl_of rfl rfl (oPart_of rfl) ?_) rfl
      show some (PyData.tuple (cutL (strsD (L.map (·.2))) none (some (i : Int)))) = _
      rw [cut_to _ (by omega)]
      simp [strsD]
    have h3 : mlst (mComp (mIt (eSl (mVar 5) (mr none) (oPart (mVar 7)))) [10] (tgN 10) (mr true) (e2 dAdd (eA fLen [mVar 10]) (mr (.int 1)))) ((wipeE (eT cs L s4 s7 s8 s9 s10 s11) [7]).set 7 (.dat (.int (i : Int)))) ds
        = some (.list ((((L.map (·.2)).take i).map fun t => ((t.length + 1 : Nat) : Int)).map .int), ds) := by
      refine mlst_of (mComp_of h2 ?_)
      rw [compL_of (fun t : List Nat => PyData.str (tx t)) (fun t => PyData.int ((t.length + 1 : Nat) : Int))]
      · rw [List.map_map]
        rfl
      · intro t ht
        obtain ⟨p, hp, rfl⟩ := List.mem_map.mp (List.mem_of_mem_take ht)
        have := (X.at p hp).1
        have := X.len
        exact ⟨_, rfl, rfl, e2_of (eA1_of rfl (len_tx (by rw [sizeLine_eq]; omega))) rfl rfl⟩
    refine eA1_of h3 ?_
    show (intsOf _).map _ = _
    rw [intsOf_map]
    show some (PyData.int _) = _
    congr 2
    generalize (L.map (·.2)).take i = ts
    induction ts with
    | nil => rfl
    | cons t ts ih => simp only [List.map_cons, List.sum_cons, ih]; omega
theorem law_pure : LawOk 12 m_law := by
  refine law_wp fun ds g => ?_
  obtain ⟨cs, ds1, ht, g1, hl, ha⟩ := text_ok g
  have X : Tx cs (T false 0 cs) := ⟨rfl, hl, ha⟩
  have hw : f__law_walk [.str (tx cs)] = some (.list (tksD (T false 0 cs))) := f_walk_eq X.sz fun c hc => by
    have := ha c hc
    exact (Sm.str (n := 1) (z := sign c) (fun d hd => by simp [sign] at hd; omega) (by simp [sign, Str.length])).lay
  generalize T false 0 cs = L at X hw
  have hlen : (tksD L).length = L.length := by simp [tksD]
  have e0 : envL 12 = [.emp, .deal, .emp, .emp, .emp, .emp, .emp, .emp, .emp, .emp, .emp, .emp] := rfl
  unfold m_law
  rw [e0]
  refine wp_seq (wp_asg (wm_callW rfl (wm_nil ⟨g, _, _, ht, g1, _, rfl, ?_⟩)))
  refine wp_seq (wp_asg (Wm.of (eCall_of (mseq1_of rfl) rfl hw) ⟨_, rfl, ?_⟩))
  refine wp_seq (wp_par (wm_sd (Wm.of (x := .tuple (strsD (L.map (·.2)))) (ds1 := ds1) (eA1_of (mlst_of (xs := strsD (L.map (·.2))) (mComp_of (mIt_of rfl rfl) ?cct)) rfl) (wm_sd (Wm.of (x := .tuple (intsD (L.map (·.1)))) (ds1 := ds1) (eA1_of (mlst_of (xs := intsD (L.map (·.1))) (mComp_of (mIt_of rfl rfl) ?ccp)) rfl) (wm_s0 ?_))))))
  case cct =>
    unfold tksD
    rw [compL_of _ (fun p : Nat × List Nat => PyData.str (tx p.2))]
    · simp [strsD]
    · intro p hp
      exact ⟨_, rfl, rfl, rfl⟩
  case ccp =>
    unfold tksD
    rw [compL_of _ (fun p : Nat × List Nat => PyData.int (p.1 : Int))]
    · simp [intsD]
    · intro p hp
      exact ⟨_, rfl, rfl, rfl⟩
  show Wp _ (eT cs L .emp .emp .emp .emp .emp .emp) ds1 _
  refine wp_seq (wp_each (fun env d => d = ds1 ∧ ∃ s4, env = eT cs L s4 .emp .emp .emp .emp .emp) (fun _ => True) (Wm.of rfl ⟨fun _ _ => trivial, rfl, _, rfl⟩) ?turn ?rest)
  case turn =>
    rintro x env d - ⟨rfl, s4, rfl⟩
    refine ⟨eT cs L (.dat x) .emp .emp .emp .emp .emp, rfl, wp_no (Wm.of (x := false) (ds1 := d) ?_ ⟨rfl, wp_nx ⟨rfl, _, rfl⟩⟩)⟩
    have pl : ∀ n ∈ L.map (·.1), n ≤ 1000 := fun n hn => by
      obtain ⟨p, hp, rfl⟩ := List.mem_map.mp hn
      have := (X.at p hp).1
      have := X.len
      omega
    rw [tOr_f (repr_eq2 (sm_toks X) (by decide) (by decide) (eCall_of rfl (mseq1_of rfl) (tokens_ok X)) rfl)]
    exact repr_eq2 (sm_ints pl (by simpa using X.cnt)) (by decide) (by decide) (eCall_of rfl (mseq1_of rfl) (places_ok X)) rfl
  rintro env d ⟨rfl, s4, rfl⟩
  refine wp_seq (wp_no (Wm.of (x := false) (ds1 := d) ?j ⟨rfl, wp_nx ?_⟩))
  case j =>
    rw [tOr_f (t2_of (eCall_of (mseq1_of (e2_of rfl rfl (join_ok X (s := 32) _ (by decide +kernel)))) rfl (tokens_join X (.inl rfl))) rfl (ne_self (sm_toks X) (by decide)))]
    exact t2_of (eCall_of (mseq1_of (e2_of rfl rfl (join_ok X (s := 10) _ (by decide +kernel)))) rfl (tokens_join X (.inr rfl))) rfl (ne_self (sm_toks X) (by decide))
  have sm2 : Sm 1 12300 (.tuple (intsD ((List.range L.length).map fun i => (((L.map (·.2)).take i).map fun t => t.length + 1).sum))) := by
    refine sm_ints (fun n hn => ?_) (by simpa using X.cnt)
    obtain ⟨i, hi, rfl⟩ := List.mem_map.mp hn
    have h1 : ∀ (ts : List (List Nat)) (i : Nat), ((ts.take i).map fun t => t.length + 1).sum ≤ (ts.map List.length).sum + ts.length := by
      intro ts
      induction ts with
      | nil => intro i; simp
      | cons t ts ih =>
        intro i
        cases i with
        | zero => simp
        | succ i =>
          have := ih i
          simp only [List.take_succ_cons, List.map_cons, List.sum_cons, List.length_cons]
          omega
    have := h1 (L.map (·.2)) i
    have := X.sum
    have := X.len
    have := X.cnt
    rw [List.length_map] at *
    omega
  refine wp_seq (wp_no (Wm.of (x := false) (ds1 := d) (t2_of (eCall_of (mseq1_of (e2_of rfl rfl (join_ok X (s := 32) _ (by decide +kernel)))) rfl (places_join X (.inl rfl))) (eA1_of (sums_ok X _ _ _ _ _ _ _) rfl) (ne_self sm2 (by decide))) ⟨rfl, wp_nx ?_⟩))
  refine wp_seq ?_
  have fin : ∀ (env : En) (d : DS), Wp (sRet (vAnd (bv (t2 dEq (eCall f_tokens_of [0] [mr (.str "")] []) (mtup (mseq [])))) (bv (t2 dEq (eCall f_token_places [0] [mr (.str "# a")] []) (mtup (mseq [])))))) env d fun o _ _ => o = .rt (.bool true) := by
    intro env d
    have t1 : f_tokens_of [.str ""] = some (.tuple []) := by
      have := f_tokens_eq (cs := []) (by decide)
      rw [T_empty] at this
      rw [str_nil]
      exact this
    have t2 : f_token_places [.str "# a"] = some (.tuple []) := by
      have h := f_places_eq (cs := [35, 32, 97]) (by rw [sizeLine_eq]; decide)
      rw [T_nil (by decide)] at h
      have e : ("# a" : Str) = tx [35, 32, 97] := by decide +kernel
      rw [e]
      exact h
    exact wp_ret (Wm.of (x := .bool true) (ds1 := d) (by
      rw [vAnd_of (x := true) (bv_of (t2_of (eCall_of (mseq1_of rfl) rfl t1) rfl rfl)), if_pos rfl]
      exact bv_of (t2_of (eCall_of (mseq1_of rfl) rfl t2) rfl rfl)) rfl)
  refine wp_if (Wm.of (x := !decide (L.length = 0)) (ds1 := d) ?_ ?_)
  · refine t2_of rfl rfl ?_
    show (dEq (.list (tksD L)) (.list [])).map _ = _
    have : dEq (.list (tksD L)) (.list []) = some (decide (L.length = 0)) := by
      show (if (tksD L).length ≠ 0 ∨ (tksD L).length = 0 then some (decide ((tksD L).length = 0)) else _) = _
      rw [if_pos (by omega), hlen]
    rw [this]
    rfl
  by_cases hL : L.length = 0
  · rw [if_neg (by simp [hL])]
    exact wp_nx (fin _ _)
  rw [if_pos (by simp [hL])]
  refine wp_seq (wp_asg (wm_any any5 rfl (Wm.of (x := .int (L.length : Int)) (ds1 := d) (eA1_of rfl (by rw [len_lst, hlen])) ⟨g1, L.length, rfl, by omega, by have := X.cnt; omega, ?_⟩)))
  intro v d2 hv g2
  refine ⟨_, rfl, ?_⟩
  obtain ⟨⟨p, t⟩, hp⟩ : ∃ p, L[v]? = some p := ⟨L[v], List.getElem?_eq_getElem hv⟩
  have hmem : (p, t) ∈ L := List.mem_of_getElem? hp
  have hat := (X.at _ hmem).1
  have hX := X.len
  obtain ⟨_, _, _, hmore⟩ := T_more _ false 0 cs (Nat.le_refl _) v p t (by rw [← X.eL]; exact hp)
  rw [← X.eL, Nat.sub_zero] at hmore
  simp only at hat
  have hix : (tksD L)[v]? = some (.tuple [.int (p : Int), .str (tx t)]) := by simp [tksD, hp]
  refine wp_seq (wp_asg (Wm.of (x := .int ((p + t.length : Nat) : Int)) (ds1 := d2) (e2_of (e2_of (e2_of rfl rfl (ix_lst hix)) rfl rfl) (eA1_of (e2_of (e2_of rfl rfl (ix_lst hix)) rfl rfl) (len_tx (by rw [sizeLine_eq]; omega))) rfl) ⟨_, rfl, ?_⟩))
  have e3 : ("# : 3 ; xy\n" : Str) = tx Rm := by decide +kernel
  have hR : Rm.length = 11 := rfl
  have hsz : ∀ n, n ≤ 1000 → n ≤ sizeLine := fun n h => by rw [sizeLine_eq]; omega
  have hm : (cs.take (p + t.length) ++ (Rm ++ cs.drop (p + t.length))).length ≤ 311 := by
    simp only [List.length_append, List.length_take, List.length_drop, hR]
    omega
  refine wp_seq (wp_asg (Wm.of (x := .str (tx (cs.take (p + t.length) ++ (Rm ++ cs.drop (p + t.length))))) (ds1 := d2) (e2_of (e2_of (eSl_of rfl rfl (oPart_of rfl) (tx_cut_to (hsz _ (by omega)) hat)) rfl (by
      rw [e3]
      exact add_tx (hsz _ (by simp only [List.length_take, hR]; omega)))) (eSl_of rfl (oPart_of rfl) rfl (tx_cut_from (hsz _ (by omega)) hat)) (by
      rw [add_tx (hsz _ (by simp only [List.length_append, List.length_take, List.length_drop, hR]; omega)), List.append_assoc])) ⟨_, rfl, ?_⟩))
  have ftok := f_tokens_eq (cs := cs.take (p + t.length) ++ (Rm ++ cs.drop (p + t.length))) (by rw [sizeLine_eq]; omega)
  have fpla := f_places_eq (cs := cs.take (p + t.length) ++ (Rm ++ cs.drop (p + t.length))) (by rw [sizeLine_eq]; omega)
  rw [hmore] at ftok fpla
  have q1 : (L.take (v + 1) ++ (L.drop (v + 1)).map fun q : Nat × List Nat => (q.1 + 11, q.2)).map (·.2) = L.map (·.2) := by
    rw [List.map_append, List.map_map]
    show (L.take (v + 1)).map (·.2) ++ (L.drop (v + 1)).map (·.2) = _
    rw [← List.map_append, List.take_append_drop]
  rw [q1] at ftok
  have q2 : (intsD ((L.take (v + 1) ++ (L.drop (v + 1)).map fun q : Nat × List Nat => (q.1 + 11, q.2)).map (·.1))).drop (v + 1) = intsD (((L.map (·.1)).drop (v + 1)).map (· + 11)) := by
    have hlt : ((L.take (v + 1)).map (·.1)).length = v + 1 := by rw [List.length_map, List.length_take]; omega
    unfold intsD
    rw [List.map_append, ← List.map_drop, List.drop_append_of_le_length (by omega), List.drop_of_length_le (by omega), List.nil_append, List.map_map, ← List.map_drop, List.map_map, List.map_map, List.map_map]
    rfl
  have hl2 : (intsD ((L.take (v + 1) ++ (L.drop (v + 1)).map fun q : Nat × List Nat => (q.1 + 11, q.2)).map (·.1))).length = L.length := by
    simp [intsD]
    omega
  have sm3 : Sm 1 12300 (.tuple (intsD (((L.map (·.1)).drop (v + 1)).map (· + 11)))) := by
    refine sm_ints (fun n hn => ?_) (by have := X.cnt; simp; omega)
    obtain ⟨k, hk, rfl⟩ := List.mem_map.mp hn
    obtain ⟨r, hr, rfl⟩ := List.mem_map.mp (List.mem_of_mem_drop hk)
    have := (X.at r hr).1
    omega
  refine wp_no (Wm.of (x := false) (ds1 := d2) ?_ ⟨rfl, wp_nx (fin _ _)⟩)
  rw [tOr_f (t2_of (eCall_of (mseq1_of rfl) rfl ftok) rfl (ne_self (sm_toks X) (by decide)))]
  have sl1 : ∀ env : En, env[7]? = some (.dat (.int (v : Int))) → oPart (e2 dAdd (mVar 7) (mr (.int 1))) env d2 = some (some ((v + 1 : Nat) : Int), d2) := fun env h7 => by
    have h7' : mVar 7 env d2 = some (.int (v : Int), d2) := by unfold mVar; rw [h7]
    exact oPart_of (e2_of h7' rfl rfl)
  refine t2_of (eSl_of (eCall_of (mseq1_of rfl) rfl fpla) (sl1 _ rfl) rfl (z := .tuple (intsD (((L.map (·.1)).drop (v + 1)).map (· + 11)))) ?_) (eA1_of (mlst_of (mComp_of (mIt_of (d := .tuple (intsD ((L.map (·.1)).drop (v + 1)))) (eSl_of rfl (sl1 _ rfl) rfl ?_) rfl) ?_)) rfl) (ne_self sm3 (by decide))
  · show some (PyData.tuple (cutL _ _ _)) = _
    rw [cut_from _ (by omega), q2]
  · show some (PyData.tuple (cutL (intsD (L.map (·.1))) (some ((v + 1 : Nat) : Int)) none)) = _
    rw [cut_from _ (by simp [intsD]; omega)]
    simp [intsD]
  · show compL _ _ _ _ (intsD ((L.map (·.1)).drop (v + 1))) _ = _
    unfold intsD
    rw [compL_of (fun k : Nat => PyData.int (k : Int)) (fun k : Nat => PyData.int ((k + 11 : Nat) : Int))]
    · rw [List.map_map]
      rfl
    · intro k hk
      exact ⟨_, rfl, rfl, rfl⟩
end K05

set_option Elab.async false
set_option linter.all false
set_option maxRecDepth 100000
set_option maxHeartbeats 0
open PySem PySem.W PyProof.Rows
set_option maxRecDepth 100000 in
set_option maxHeartbeats 0 in
theorem PySem.Challenge.cw_givesifgets_k05_tokens_and_their_places_holds : PySem.Challenge.rw_givesifgets_k05_tokens_and_their_places.Holds := by
  w_on; o_law; k_head; (case hw => w_witness2)
  k_fill
  refine DL.walk_ofG (n := 63) (k := 4) (x := "_law_script") (sp := DL.spLaw) (l := PySem.Challenge.rw_givesifgets_k05_tokens_and_their_places) rfl (by decide) rfl ⟨rfl, by decide, by decide⟩ (fun w h Y => PySem.W.kIn_of Y) ?F (fun K H a ns hl hS => ⟨a, ns, rfl, hS, fun _ => rfl⟩)
  case F =>
    intro w mg fa h KX G hmg
    refine' K05.all_mk KX G hmg ?a0 ?l0 ?c0 ?k0 ?a1 ?l1 ?c1 ?k1 ?a2 ?l2 ?c2 ?k2 ?a3 ?l3 ?c3 ?k3 ?a4 ?l4 ?c4 ?k4 ?a5 ?l5 ?c5 ?k5 ?a6 ?l6 ?c6 ?k6 ?a7 ?l7 ?c7 ?k7 ?a8 ?l8 ?c8 ?k8 ?a9 ?l9 ?c9 ?k9 ?a10 ?l10 ?c10 ?k10 ?zz_abs ?zz_enumerate ?zz_int ?zz_len ?zz_max ?zz_range ?zz_repr ?zz_sum ?zz_tuple ?gc_WORD_SIGNS K05.law_pure
    (case a0 => k_is)
    (case l0 => k_is)
    (case c0 => k_is)
    (case k0 => k_is)
    (case a1 => k_is)
    (case l1 => k_is)
    (case c1 => k_is)
    (case k1 => k_is)
    (case a2 => k_is)
    (case l2 => k_is)
    (case c2 => k_is)
    (case k2 => k_is)
    (case a3 => k_is)
    (case l3 => k_is)
    (case c3 => k_is)
    (case k3 => k_is)
    (case a4 => k_is)
    (case l4 => k_is)
    (case c4 => k_is)
    (case k4 => k_is)
    (case a5 => k_is)
    (case l5 => k_is)
    (case c5 => k_is)
    (case k5 => k_is)
    (case a6 => k_is)
    (case l6 => k_is)
    (case c6 => k_is)
    (case k6 => k_is)
    (case a7 => k_is)
    (case l7 => k_is)
    (case c7 => k_is)
    (case k7 => k_is)
    (case a8 => k_is)
    (case l8 => k_is)
    (case c8 => k_is)
    (case k8 => k_is)
    (case a9 => k_is)
    (case l9 => k_is)
    (case c9 => k_is)
    (case k9 => k_is)
    (case a10 => k_is)
    (case l10 => k_is)
    (case c10 => k_is)
    (case k10 => k_is)
    (case zz_abs => k_is)
    (case zz_enumerate => k_is)
    (case zz_int => k_is)
    (case zz_len => k_is)
    (case zz_max => k_is)
    (case zz_range => k_is)
    (case zz_repr => k_is)
    (case zz_sum => k_is)
    (case zz_tuple => k_is)
    (case gc_WORD_SIGNS => k_is)
