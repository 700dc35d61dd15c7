import PyProof.Rows.All
import Wide.All
import OpenK.AllK
import Wide.FinOn
import HandS.ForMost
import HandS.Walk
import HandS.Wide
import HandS.TupAny
import HandS.TupMul
import HandS.IsInst
import HandS.Conv
import HandS.RaiseMore
import KE.KTupSum
import HandS.Style
import KE.GoesZip
import KE.GoesMore
import KE.GoesEnum
import PyProof.ReprBulk
import PyProof.Rows.RegStrFacts
import PySem.Challenge.RW_everypiecesound_k24_whole_pots_mixed_dee
set_option Elab.async false
set_option linter.all false
set_option maxRecDepth 100000
set_option maxHeartbeats 4000000
/-! DL: a level of data over the judgements of the hand layer -/
namespace DL
open PySem L2

abbrev D := PyData
/-- what a slot of a def holds: nothing; data that never changes; a list of one's own; the caller's list, changed in place; a list that is only read -/
inductive DV where
  | emp
  | dat (d : D)
  | own (xs : List D)
  | io (xs : List D)
  | bor (xs : List D)
abbrev DSt := List DV
/-- an expression's value: data, a new list, or the list that a slot holds -/
inductive EV where
  | dat (d : D)
  | tmp (xs : List D)
  | slot (i : Nat)
/-- fixed through a def's run: the heap at the entry, what is frozen there, what may be written -/
structure Fz where
  H0 : Hp
  F0 : Hp
  Wr : Addr → Prop

def Lst (o : Option DV) : Prop := ∃ xs, o = some (.own xs) ∨ o = some (.io xs)
def Own (τ : DSt) (σ : St) (a : Addr) : Prop := ∃ i : Nat, σ[i]? = some (some (.ref a)) ∧ Lst τ[i]?
def Live (τ : DSt) (i : Nat) : Prop := ∃ d, τ[i]? = some d ∧ d ≠ .emp

/-! ### data over heaps that grow -/
theorem Same.sqT {K : PySem.W.Frag} {H H' : Hp} {a : Addr} {xs : List V} (e : Same H H') (h : SqT K H a xs) : SqT K H' a xs := by
  rcases h with (h | ⟨o, h⟩) | h
  · exact .inl (.inl (e _ _ h))
  · exact .inl (.inr ⟨o, e _ _ h⟩)
  · exact .inr h
theorem Same.rd {H H' : Hp} {a : Addr} {u : HO} (e : Same H H') (h : Rd H a u) : Rd H' a u := by
  rcases h with h | ⟨o, h⟩
  · exact .inl (e _ _ h)
  · exact .inr ⟨o, e _ _ h⟩
mutual
/-- data, by the heap: its lists are tracked -/
inductive Dq (K : PySem.W.Frag) (H : Hp) : V → PyData → Prop
  | non : Dq K H .non .none
  | bl (b : Bool) : Dq K H (.bl b) (.bool b)
  | int (i : Int) : Dq K H (.int i) (.int i)
  | str (x : Str) : Dq K H (.str x) (.str x)
  | lst {a : Addr} {xs : List V} {ds : List PyData} : SqL K H a xs → DqAll K H xs ds → Dq K H (.ref a) (.list ds)
  | tup {a : Addr} {xs : List V} {ds : List PyData} : SqT K H a xs → DqAll K H xs ds → Dq K H (.ref a) (.tuple ds)
inductive DqAll (K : PySem.W.Frag) (H : Hp) : List V → List PyData → Prop
  | nil : DqAll K H [] []
  | cons {v : V} {vs : List V} {d : PyData} {ds : List PyData} : Dq K H v d → DqAll K H vs ds → DqAll K H (v :: vs) (d :: ds)
end
mutual
theorem Dq.dp {K : PySem.W.Frag} {H : Hp} : ∀ (d : D) (v : V), Dq K H v d → Dp K H v d
  | .none, _, h => by cases h; exact .non
  | .bool b, _, h => by cases h; exact .bl b
  | .int i, _, h => by cases h; exact .int i
  | .str x, _, h => by cases h; exact .str x
  | .list ds, _, h => by
    cases h with
    | lst hs ha => exact .lst hs (DqAll.dp ds _ ha)
  | .tuple ds, _, h => by
    cases h with
    | tup hs ha => exact .tup hs (DqAll.dp ds _ ha)
  | .dict _, _, h => by cases h
theorem DqAll.dp {K : PySem.W.Frag} {H : Hp} : ∀ (ds : List D) (vs : List V), DqAll K H vs ds → DpAll K H vs ds
  | [], _, h => by cases h; exact .nil
  | d :: ds, _, h => by
    cases h with
    | cons h1 h2 => exact .cons (Dq.dp d _ h1) (DqAll.dp ds _ h2)
end
mutual
theorem dp_mono {K : PySem.W.Frag} {H H' : Hp} (s : Same H H') : ∀ (d : D) (v : V), Dq K H v d → Dq K H' v d
  | .none, _, h => by cases h; exact .non
  | .bool b, _, h => by cases h; exact .bl b
  | .int i, _, h => by cases h; exact .int i
  | .str x, _, h => by cases h; exact .str x
  | .list ds, _, h => by
    cases h with
    | lst hs ha => exact .lst (s.seq hs) (dpAll_mono s ds _ ha)
  | .tuple ds, _, h => by
    cases h with
    | tup hs ha => exact .tup (Same.sqT s hs) (dpAll_mono s ds _ ha)
  | .dict _, _, h => by cases h
theorem dpAll_mono {K : PySem.W.Frag} {H H' : Hp} (s : Same H H') : ∀ (ds : List D) (vs : List V), DqAll K H vs ds → DqAll K H' vs ds
  | [], _, h => by cases h; exact .nil
  | d :: ds, _, h => by
    cases h with
    | cons h1 h2 => exact .cons (dp_mono s d _ h1) (dpAll_mono s ds _ h2)
end
theorem DqAll.len {K : PySem.W.Frag} {H : Hp} : ∀ {vs : List V} {ds : List D}, DqAll K H vs ds → vs.length = ds.length
  | _, _, .nil => rfl
  | _, _, .cons _ t => by rw [List.length_cons, List.length_cons, DqAll.len t]
theorem DqAll.get {K : PySem.W.Frag} {H : Hp} : ∀ {vs : List V} {ds : List D}, DqAll K H vs ds → ∀ {i : Nat} {d : D}, ds[i]? = some d → ∃ v, vs[i]? = some v ∧ Dq K H v d
  | _, _, .nil, i, d, e => by simp at e
  | _, _, .cons (v := v) h _, 0, d, e => by
    simp at e
    subst e
    exact ⟨v, rfl, h⟩
  | _, _, .cons _ t, i + 1, d, e => by
    obtain ⟨v, h1, h2⟩ := DqAll.get t (i := i) (d := d) (by simpa using e)
    exact ⟨v, by simpa using h1, h2⟩
theorem DqAll.getV {K : PySem.W.Frag} {H : Hp} : ∀ {vs : List V} {ds : List D}, DqAll K H vs ds → ∀ {i : Nat} {v : V}, vs[i]? = some v → ∃ d, ds[i]? = some d ∧ Dq K H v d
  | _, _, .nil, i, d, e => by simp at e
  | _, _, .cons (d := d) h _, 0, v, e => by
    simp at e
    subst e
    exact ⟨d, rfl, h⟩
  | _, _, .cons _ t, i + 1, v, e => by
    obtain ⟨d, h1, h2⟩ := DqAll.getV t (i := i) (v := v) (by simpa using e)
    exact ⟨d, by simpa using h1, h2⟩
theorem DqAll.app {K : PySem.W.Frag} {H : Hp} : ∀ {vs ws : List V} {ds es : List D}, DqAll K H vs ds → DqAll K H ws es → DqAll K H (vs ++ ws) (ds ++ es)
  | _, _, _, _, .nil, h => h
  | _, _, _, _, .cons h t, q => .cons h (DqAll.app t q)
theorem DqAll.set {K : PySem.W.Frag} {H : Hp} {v : V} {d : D} (h : Dq K H v d) : ∀ {vs : List V} {ds : List D} (i : Nat), DqAll K H vs ds → DqAll K H (vs.set i v) (ds.set i d)
  | _, _, _, .nil => .nil
  | _, _, 0, .cons _ t => .cons h t
  | _, _, i + 1, .cons q t => .cons q (DqAll.set h i t)
theorem DqAll.take {K : PySem.W.Frag} {H : Hp} : ∀ {vs : List V} {ds : List D} (n : Nat), DqAll K H vs ds → DqAll K H (vs.take n) (ds.take n)
  | _, _, 0, _ => .nil
  | _, _, _ + 1, .nil => .nil
  | _, _, n + 1, .cons h t => .cons h (DqAll.take n t)
theorem DqAll.drop {K : PySem.W.Frag} {H : Hp} : ∀ {vs : List V} {ds : List D} (n : Nat), DqAll K H vs ds → DqAll K H (vs.drop n) (ds.drop n)
  | _, _, 0, h => h
  | _, _, _ + 1, .nil => .nil
  | _, _, n + 1, .cons _ t => DqAll.drop n t
theorem DqAll.erase {K : PySem.W.Frag} {H : Hp} : ∀ {vs : List V} {ds : List D} (i : Nat), DqAll K H vs ds → DqAll K H (vs.eraseIdx i) (ds.eraseIdx i)
  | _, _, _, .nil => .nil
  | _, _, 0, .cons _ t => t
  | _, _, i + 1, .cons h t => .cons h (DqAll.erase i t)
theorem DqAll.rev {K : PySem.W.Frag} {H : Hp} : ∀ {vs : List V} {ds : List D}, DqAll K H vs ds → DqAll K H vs.reverse ds.reverse
  | _, _, .nil => .nil
  | _, _, .cons h t => by
    rw [List.reverse_cons, List.reverse_cons]
    exact DqAll.app (DqAll.rev t) (.cons h .nil)
theorem DqAll.rep {K : PySem.W.Frag} {H : Hp} {vs : List V} {ds : List D} (h : DqAll K H vs ds) : ∀ k : Nat, DqAll K H (List.replicate k vs).flatten (List.replicate k ds).flatten
  | 0 => .nil
  | k + 1 => by
    rw [List.replicate_succ, List.flatten_cons, List.replicate_succ, List.flatten_cons]
    exact DqAll.app h (DqAll.rep h k)

/-- a value that may be read: data that is frozen, or a list that stands in H now, its items frozen -/
def ValR (K : PySem.W.Frag) (F H : Hp) (v : V) (d : D) : Prop := Dq K F v d ∨ ∃ a vs xs, v = .ref a ∧ d = .list xs ∧ SqL K H a vs ∧ DqAll K F vs xs
theorem ValR.dq {K : PySem.W.Frag} {F H : Hp} {v : V} {d : D} (s : Same F H) (h : ValR K F H v d) : Dq K H v d := by
  rcases h with h | ⟨a, vs, xs, rfl, rfl, h1, h2⟩
  · exact dp_mono s d v h
  · exact .lst h1 (dpAll_mono s _ _ h2)
theorem ValR.dp {K : PySem.W.Frag} {F H : Hp} {v : V} {d : D} (s : Same F H) (h : ValR K F H v d) : Dp K H v d := Dq.dp d v (h.dq s)
theorem ValR.list {K : PySem.W.Frag} {F H : Hp} {v : V} {xs : List D} (s : Same F H) (h : ValR K F H v (.list xs)) : ∃ a vs, v = .ref a ∧ SqL K H a vs ∧ DqAll K F vs xs := by
  rcases h with h | ⟨a, vs, ys, rfl, e, h1, h2⟩
  · cases h with
    | lst h1 h2 => exact ⟨_, _, rfl, s.seq h1, h2⟩
  · cases e
    exact ⟨a, vs, rfl, h1, h2⟩
theorem ValR.tuple {K : PySem.W.Frag} {F H : Hp} {v : V} {xs : List D} (s : Same F H) (h : ValR K F H v (.tuple xs)) : ∃ a vs, v = .ref a ∧ SqT K H a vs ∧ DqAll K F vs xs := by
  rcases h with h | ⟨a, vs, ys, rfl, e, h1, h2⟩
  · cases h with
    | tup h1 h2 => exact ⟨_, _, rfl, Same.sqT s h1, h2⟩
  · cases e
theorem ValR.frz {K : PySem.W.Frag} {F H : Hp} {v : V} {xs : List D} (h : ValR K F H v (.tuple xs)) : Dq K F v (.tuple xs) := by
  rcases h with h | ⟨a, vs, ys, rfl, e, h1, h2⟩
  · exact h
  · cases e
theorem ValR.int {K : PySem.W.Frag} {F H : Hp} {v : V} {i : Int} (h : ValR K F H v (.int i)) : v = .int i := by
  rcases h with h | ⟨a, vs, ys, rfl, e, h1, h2⟩
  · cases h; rfl
  · cases e
theorem ValR.bool {K : PySem.W.Frag} {F H : Hp} {v : V} {i : Bool} (h : ValR K F H v (.bool i)) : v = .bl i := by
  rcases h with h | ⟨a, vs, ys, rfl, e, h1, h2⟩
  · cases h; rfl
  · cases e
theorem ValR.str {K : PySem.W.Frag} {F H : Hp} {v : V} {i : Str} (h : ValR K F H v (.str i)) : v = .str i := by
  rcases h with h | ⟨a, vs, ys, rfl, e, h1, h2⟩
  · cases h; rfl
  · cases e
theorem ValR.non {K : PySem.W.Frag} {F H : Hp} {v : V} (h : ValR K F H v .none) : v = .non := by
  rcases h with h | ⟨a, vs, ys, rfl, e, h1, h2⟩
  · cases h; rfl
  · cases e

/-! ### the state -/
def SlotOk (K : PySem.W.Frag) (Z : Fz) (F H : Hp) (v : Option (Option V)) : DV → Prop
  | .emp => True
  | .dat d => ∃ x, v = some (some x) ∧ Dq K F x d
  | .own xs => ∃ a vs, v = some (some (.ref a)) ∧ H a = some (.lst vs) ∧ F a = none ∧ Z.H0 a = none ∧ DqAll K F vs xs
  | .io xs => ∃ a vs, v = some (some (.ref a)) ∧ H a = some (.lst vs) ∧ F a = none ∧ Z.Wr a ∧ DqAll K F vs xs
  | .bor xs => ∃ a vs, v = some (some (.ref a)) ∧ DqAll K F vs xs ∧ (SqL K F a vs ∨ (Z.H0 a = some (.lst vs) ∧ ¬ Z.Wr a))

structure R (K : PySem.W.Frag) (Z : Fz) (F : Hp) (τ : DSt) (σ : St) (H : Hp) : Prop where
  sub : Same F H
  f0 : Same Z.F0 F
  len : τ.length = σ.length
  slot : ∀ (i : Nat) d, τ[i]? = some d → SlotOk K Z F H σ[i]? d
  apart : ∀ (i j : Nat) a, σ[i]? = some (some (.ref a)) → σ[j]? = some (some (.ref a)) → Lst τ[i]? → Lst τ[j]? → i = j
  frame : ∀ a o, Z.H0 a = some o → ¬ Z.Wr a → H a = some o
  dom : ∀ a, Z.H0 a ≠ none → H a ≠ none
  froz : ∀ a, F a ≠ none → Z.F0 a ≠ none ∨ Z.H0 a = none
  wr : ∀ a, Z.Wr a → Z.F0 a = none ∧ Z.H0 a ≠ none

def dvD : Option DV → D
  | some (.dat d) => d
  | some (.own xs) => .list xs
  | some (.io xs) => .list xs
  | some (.bor xs) => .list xs
  | _ => .none
def val (τ : DSt) : EV → D
  | .dat d => d
  | .tmp xs => .list xs
  | .slot i => dvD τ[i]?

/-- an expression's value, seen from the heap Hb ahead of it -/
def EVR (K : PySem.W.Frag) (Z : Fz) (Hb F H : Hp) (τ : DSt) (σ : St) : EV → V → Prop
  | .dat d, v => Dq K F v d
  | .tmp xs, v => ∃ a vs, v = .ref a ∧ H a = some (.lst vs) ∧ F a = none ∧ Z.H0 a = none ∧ Hb a = none ∧ ¬ Own τ σ a ∧ DqAll K F vs xs
  | .slot i, v => σ[i]? = some (some v) ∧ Live τ i

/-- what an expression leaves -/
structure Gr (F H : Hp) (τ : DSt) (σ : St) (F' H' : Hp) (τ' : DSt) : Prop where
  f : Same F F'
  keep : ∀ a o, H a = some o → ¬ Own τ σ a → H' a = some o
  dom : ∀ a, H a ≠ none → H' a ≠ none
  new : ∀ a, F a = none → H a ≠ none → ¬ Own τ σ a → F' a = none
  lst : ∀ i : Nat, Lst τ'[i]? → Lst τ[i]?
  live : ∀ i, Live τ i → Live τ' i

theorem Gr.own {F H F' H' : Hp} {τ τ' : DSt} {σ : St} (g : Gr F H τ σ F' H' τ') (a : Addr) (h : Own τ' σ a) : Own τ σ a :=
  let ⟨i, h1, h2⟩ := h; ⟨i, h1, g.lst i h2⟩
theorem Gr.refl {F H : Hp} {τ : DSt} {σ : St} : Gr F H τ σ F H τ := ⟨Same.refl _, fun _ _ h _ => h, fun _ h => h, fun _ h _ _ => h, fun _ h => h, fun _ h => h⟩
theorem Gr.trans {F H F1 H1 F2 H2 : Hp} {τ τ1 τ2 : DSt} {σ : St} (a : Gr F H τ σ F1 H1 τ1) (b : Gr F1 H1 τ1 σ F2 H2 τ2) : Gr F H τ σ F2 H2 τ2 where
  f := a.f.trans b.f
  keep := fun c o h n => b.keep c o (a.keep c o h n) fun z => n (a.own c z)
  dom := fun c h => b.dom c (a.dom c h)
  new := fun c h h2 n => b.new c (a.new c h h2 n) (a.dom c h2) fun z => n (a.own c z)
  lst := fun c h => a.lst c (b.lst c h)
  live := fun i h => b.live i (a.live i h)

section
variable {K : PySem.W.Frag} {Z : Fz} {Hb F H F' H' : Hp} {τ τ' : DSt} {σ : St} {ev : EV} {v : V}
theorem EVR.grow (h : EVR K Z Hb F H τ σ ev v) (g : Gr F H τ σ F' H' τ') : EVR K Z Hb F' H' τ' σ ev v := by
  cases ev with
  | dat d => exact dp_mono g.f d v h
  | tmp xs =>
    obtain ⟨a, vs, e, h1, h2, h3, h4, h5, h6⟩ := h
    exact ⟨a, vs, e, g.keep a _ h1 h5, g.new a h2 (by rw [h1]; exact fun z => by cases z) h5, h3, h4, fun z => h5 (g.own a z), dpAll_mono g.f _ _ h6⟩
  | slot i => exact ⟨h.1, g.live i h.2⟩
theorem EVR.base {Hc : Hp} (h : EVR K Z Hb F H τ σ ev v) (hb : ∀ a, Hc a ≠ none → Hb a ≠ none) : EVR K Z Hc F H τ σ ev v := by
  cases ev with
  | dat d => exact h
  | tmp xs =>
    obtain ⟨a, vs, e, h1, h2, h3, h4, h5, h6⟩ := h
    refine ⟨a, vs, e, h1, h2, h3, ?_, h5, h6⟩
    cases q : Hc a with
    | none => rfl
    | some o => exact absurd h4 (hb a (by rw [q]; exact fun z => by cases z))
  | slot i => exact h
theorem R.val (r : R K Z F τ σ H) (h : EVR K Z Hb F H τ σ ev v) : ValR K F H v (val τ ev) := by
  cases ev with
  | dat d => exact .inl h
  | tmp xs =>
    obtain ⟨a, vs, e, h1, h2, h3, h4, h5, h6⟩ := h
    exact .inr ⟨a, vs, xs, e, rfl, SqL.of h1, h6⟩
  | slot i =>
    obtain ⟨h1, d, h2, h3⟩ := h
    have s := r.slot i d h2
    show ValR K F H v (dvD τ[i]?)
    rw [h2]
    cases d with
    | emp => exact absurd rfl h3
    | dat d =>
      obtain ⟨x, e, q⟩ := s
      rw [h1] at e
      cases e
      exact .inl q
    | own xs =>
      obtain ⟨a, vs, e, q1, q2, q3, q4⟩ := s
      rw [h1] at e
      cases e
      exact .inr ⟨a, vs, xs, rfl, rfl, SqL.of q1, q4⟩
    | io xs =>
      obtain ⟨a, vs, e, q1, q2, q3, q4⟩ := s
      rw [h1] at e
      cases e
      exact .inr ⟨a, vs, xs, rfl, rfl, SqL.of q1, q4⟩
    | bor xs =>
      obtain ⟨a, vs, e, q1, q2⟩ := s
      rw [h1] at e
      cases e
      refine .inr ⟨a, vs, xs, rfl, rfl, ?_, q1⟩
      rcases q2 with q2 | ⟨q2, q3⟩
      · exact r.sub.seq q2
      · exact SqL.of (r.frame _ _ q2 q3)
/-- a grown heap under the same slots -/
theorem R.more (r : R K Z F τ σ H) (s1 : Same F F') (s2 : Same F' H') (s3 : Same H H') (n : ∀ a, F a = none → F' a ≠ none → H a = none) : R K Z F' τ σ H' where
  sub := s2
  f0 := r.f0.trans s1
  len := r.len
  slot := fun i d e => by
    have s := r.slot i d e
    have nn : ∀ {a vs}, H a = some (HO.lst vs) → F a = none → F' a = none := fun {a vs} h h' => by
      cases q : F' a with
      | none => rfl
      | some o =>
        have := n a h' (by rw [q]; exact fun z => by cases z)
        rw [this] at h; cases h
    cases d with
    | emp => trivial
    | dat d => obtain ⟨x, e, q⟩ := s; exact ⟨x, e, dp_mono s1 _ _ q⟩
    | own xs => obtain ⟨a, vs, e, q1, q2, q3, q4⟩ := s; exact ⟨a, vs, e, s3 _ _ q1, nn q1 q2, q3, dpAll_mono s1 _ _ q4⟩
    | io xs => obtain ⟨a, vs, e, q1, q2, q3, q4⟩ := s; exact ⟨a, vs, e, s3 _ _ q1, nn q1 q2, q3, dpAll_mono s1 _ _ q4⟩
    | bor xs =>
      obtain ⟨a, vs, e, q1, q2⟩ := s
      exact ⟨a, vs, e, dpAll_mono s1 _ _ q1, q2.imp (fun z => s1.seq z) id⟩
  apart := r.apart
  frame := fun a o h hw => s3 _ _ (r.frame a o h hw)
  dom := fun a h => by
    cases q : H a with
    | none => exact absurd q (r.dom a h)
    | some o => rw [s3 _ _ q]; exact fun z => by cases z
  froz := fun a h => by
    cases q : F a with
    | some o => exact r.froz a (by rw [q]; exact fun z => by cases z)
    | none =>
      refine .inr ?_
      cases q2 : Z.H0 a with
      | none => rfl
      | some o => exact absurd (n a q h) (r.dom a (by rw [q2]; exact fun z => by cases z))
  wr := r.wr
theorem Gr.more (s1 : Same F F') (s3 : Same H H') (n : ∀ a, F a = none → F' a ≠ none → H a = none) : Gr F H τ σ F' H' τ where
  f := s1
  keep := fun a o h _ => s3 a o h
  dom := fun a h => by
    cases q : H a with
    | none => exact absurd q h
    | some o => rw [s3 _ _ q]; exact fun z => by cases z
  new := fun a h h2 _ => by
    cases q : F' a with
    | none => rfl
    | some o => exact absurd (n a h (by rw [q]; exact fun z => by cases z)) h2
  lst := fun _ h => h
  live := fun _ h => h
end
theorem some_ne {α : Type} {o : Option α} {x : α} (h : o = some x) : o ≠ none := by rw [h]; exact fun z => by cases z
theorem ne_some {α : Type} {o : Option α} (h : o ≠ none) : ∃ x, o = some x := by
  cases o with
  | none => exact absurd rfl h
  | some x => exact ⟨x, rfl⟩
end DL
set_option Elab.async false
set_option linter.all false
set_option maxRecDepth 100000
set_option maxHeartbeats 4000000
namespace DL
open PySem L2

abbrev DQ := EV → DSt → Prop
abbrev DTE := DSt → DQ → Prop
abbrev DTT := DSt → (Bool → DSt → Prop) → Prop
abbrev DTA := DSt → (List EV → DSt → Prop) → Prop

def liftE (K : PySem.W.Frag) (t : DTE) : TE := fun σ H Q => ∃ (Z : Fz) (F : Hp) (τ : DSt) (q : _), R K Z F τ σ H ∧ t τ q ∧
  ∀ F' τ' H' ev v, R K Z F' τ' σ H' → Gr F H τ σ F' H' τ' → EVR K Z H F' H' τ' σ ev v → q ev τ' → Q v H'
def liftT (K : PySem.W.Frag) (t : DTT) : TT := fun σ H Q => ∃ (Z : Fz) (F : Hp) (τ : DSt) (q : _), R K Z F τ σ H ∧ t τ q ∧
  ∀ F' τ' H' b, R K Z F' τ' σ H' → Gr F H τ σ F' H' τ' → q b τ' → Q b H'
/-- values of an argument list: each as it should be, new lists apart -/
def TmpNe (p q : EV × V) : Prop := ∀ xs ys a, p.1 = .tmp xs → q.1 = .tmp ys → p.2 = .ref a → q.2 ≠ .ref a
def EVs (K : PySem.W.Frag) (Z : Fz) (Hb F H : Hp) (τ : DSt) (σ : St) (ws : List (EV × V)) : Prop := (∀ p ∈ ws, EVR K Z Hb F H τ σ p.1 p.2) ∧ ws.Pairwise TmpNe
def liftA (K : PySem.W.Frag) (t : DTA) : TA := fun σ H Q => ∃ (Z : Fz) (F : Hp) (τ : DSt) (q : _), R K Z F τ σ H ∧ t τ q ∧
  ∀ F' τ' H' (ws : List (EV × V)), R K Z F' τ' σ H' → Gr F H τ σ F' H' τ' → EVs K Z H F' H' τ' σ ws → q (ws.map (·.1)) τ' → Q (ws.map (·.2)) H'

abbrev DE (X : Cx) (e : Expr) (t : DTE) : Prop := PE X e (liftE X.K t)
abbrev DT (X : Cx) (e : Expr) (t : DTT) : Prop := PT X e (liftT X.K t)
abbrev DA (X : Cx) (es : List Expr) (t : DTA) : Prop := PA X es (liftA X.K t)

theorem pe_imp {X : Cx} {e : Expr} {t t' : TE} (h : PE X e t) (i : ∀ σ H Q, t' σ H Q → t σ H Q) : PE X e t' := ⟨fun pins s σ H Q I hw => h.run pins s σ H Q I (i σ H Q hw)⟩
theorem pt_imp {X : Cx} {e : Expr} {t t' : TT} (h : PT X e t) (i : ∀ σ H Q, t' σ H Q → t σ H Q) : PT X e t' := ⟨fun pins s σ H Q I hw => h.run pins s σ H Q I (i σ H Q hw)⟩
theorem pw_imp {X : Cx} {e : Expr} {t t' : TT} (h : PW X e t) (i : ∀ σ H Q, t' σ H Q → t σ H Q) : PW X e t' := ⟨fun w pins s σ H Q I hw => h.run w pins s σ H Q I (i σ H Q hw)⟩
theorem pa_imp {X : Cx} {es : List Expr} {t t' : TA} (h : PA X es t) (i : ∀ σ H Q, t' σ H Q → t σ H Q) : PA X es t' := ⟨fun pos pins s σ H Q I hw => h.run pos pins s σ H Q I (i σ H Q hw)⟩
theorem ps_imp {X : Cx} {st : Stmt} {t t' : TS} (h : PS X st t) (i : ∀ D σ H, t' D σ H → t D σ H) : PS X st t' := ⟨fun pins s σ H D I hw => h.run pins s σ H D I (i D σ H hw)⟩
theorem pss_imp {X : Cx} {st : List Stmt} {t t' : TS} (h : PSs X st t) (i : ∀ D σ H, t' D σ H → t D σ H) : PSs X st t' := ⟨fun pins s σ H D I hw => h.run pins s σ H D I (i D σ H hw)⟩

/-! ### freezing -/
def frz (τ : DSt) (ev : EV) (q : D → DSt → Prop) : Prop := match ev with
  | .dat d => q d τ
  | .tmp xs => q (.list xs) τ
  | .slot i => match τ[i]? with
    | some (.own xs) => q (.list xs) (τ.set i (.dat (.list xs)))
    | some (.dat d) => q d τ
    | _ => False
def frzs : List EV → DSt → (List D → DSt → Prop) → Prop
  | [], τ, q => q [] τ
  | e :: es, τ, q => frz τ e fun d τ1 => frzs es τ1 fun ds τ2 => q (d :: ds) τ2

section
variable {K : PySem.W.Frag} {Z : Fz} {F H Fb Hb : Hp} {τ τb : DSt} {σ : St}
/-- a tracked list is frozen: own slots that hold it become data -/
theorem lst_set {i : Nat} {d : D} {j : Nat} (h : Lst (τ.set i (.dat d))[j]?) : Lst τ[j]? ∧ j ≠ i := by
  obtain ⟨ys, h⟩ := h
  by_cases hj : i = j
  · subst hj
    by_cases hl : i < τ.length
    · rw [List.getElem?_set_self hl] at h
      rcases h with h | h <;> cases h
    · rw [List.getElem?_eq_none (by simpa using hl)] at h
      rcases h with h | h <;> cases h
  · rw [List.getElem?_set_ne hj] at h
    exact ⟨⟨ys, h⟩, fun e => hj e.symm⟩
theorem own_of_lst {τ' : DSt} {a : Addr} (ls : ∀ i : Nat, Lst τ'[i]? → Lst τ[i]?) (h : Own τ' σ a) : Own τ σ a := let ⟨i, h1, h2⟩ := h; ⟨i, h1, ls i h2⟩
theorem frz_ok {ev : EV} {v : V} {q : D → DSt → Prop} (r : R K Z F τ σ H) (g : Gr Fb Hb τb σ F H τ) (e : EVR K Z Hb F H τ σ ev v) (h : frz τ ev q) :
    ∃ F' τ' d, R K Z F' τ' σ H ∧ Gr Fb Hb τb σ F' H τ' ∧ Same F F' ∧ Dq K F' v d ∧ q d τ' ∧ (∀ i, Live τ i → Live τ' i) ∧ (∀ i : Nat, Lst τ'[i]? → Lst τ[i]?) ∧
      (∀ a, F a = none → F' a ≠ none → v = .ref a ∧ (Own τ σ a ∨ ∃ xs, ev = .tmp xs)) := by
  cases ev with
  | dat d => exact ⟨F, τ, d, r, g, Same.refl _, e, h, fun _ h => h, fun _ h => h, fun a h1 h2 => absurd h1 h2⟩
  | tmp xs =>
    obtain ⟨a, vs, e0, h1, h2, h3, h4, h5, h6⟩ := e
    subst e0
    have sF : Same F (upd F a (.lst vs)) := fun b o hb => by rw [upd_ne (ne_of_none hb h2)]; exact hb
    have nw : ∀ b, F b = none → upd F a (.lst vs) b ≠ none → b = a := fun b hb hn => by
      by_cases z : b = a
      · exact z
      · rw [upd_ne z] at hn; exact absurd hb hn
    refine ⟨upd F a (.lst vs), τ, .list xs, ?_, ?_, sF, .lst (.inl (.inl upd_same)) (dpAll_mono sF _ _ h6), h, fun _ h => h, fun _ h => h, fun b hb hn => ?_⟩
    · refine ⟨fun b o hb => ?_, r.f0.trans sF, r.len, fun i d hd => ?_, r.apart, r.frame, r.dom, fun b hb => ?_, r.wr⟩
      · by_cases z : b = a
        · subst z; rw [upd_same] at hb; cases hb; exact h1
        · rw [upd_ne z] at hb; exact r.sub _ _ hb
      · have s := r.slot i d hd
        have nn : ∀ {b : Addr}, σ[i]? = some (some (.ref b)) → Lst τ[i]? → F b = none → upd F a (.lst vs) b = none := fun {b} hs hl hb => by
          rw [upd_ne (fun z => h5 ⟨i, by rw [← z]; exact hs, hl⟩)]; exact hb
        cases d with
        | emp => trivial
        | dat d => obtain ⟨x, e, q⟩ := s; exact ⟨x, e, dp_mono sF _ _ q⟩
        | own ys => obtain ⟨b, ws, e, q1, q2, q3, q4⟩ := s; exact ⟨b, ws, e, q1, nn e ⟨ys, by rw [hd]; exact .inl rfl⟩ q2, q3, dpAll_mono sF _ _ q4⟩
        | io ys => obtain ⟨b, ws, e, q1, q2, q3, q4⟩ := s; exact ⟨b, ws, e, q1, nn e ⟨ys, by rw [hd]; exact .inr rfl⟩ q2, q3, dpAll_mono sF _ _ q4⟩
        | bor ys =>
          obtain ⟨b, ws, e, q1, q2⟩ := s
          exact ⟨b, ws, e, dpAll_mono sF _ _ q1, q2.imp (fun z => sF.seq z) id⟩
      · by_cases z : b = a
        · subst z; exact .inr h3
        · rw [upd_ne z] at hb; exact r.froz b hb
    · refine ⟨g.f.trans sF, g.keep, g.dom, fun b x1 x2 x3 => ?_, g.lst, g.live⟩
      rw [upd_ne (fun z => by subst z; exact x2 h4)]
      exact g.new b x1 x2 x3
    · have z := nw b hb hn
      subst z
      exact ⟨rfl, .inr ⟨xs, rfl⟩⟩
  | slot i =>
    obtain ⟨hs, d, hd, hne⟩ := e
    have h : (match τ[i]? with | some (.own xs) => q (.list xs) (τ.set i (.dat (.list xs))) | some (.dat d) => q d τ | _ => False) := h
    have s := r.slot i d hd
    rw [hd] at h
    cases d with
    | emp => exact h.elim
    | io xs => exact h.elim
    | bor xs => exact h.elim
    | dat d =>
      obtain ⟨x, e, p⟩ := s
      rw [hs] at e
      cases e
      exact ⟨F, τ, d, r, g, Same.refl _, p, h, fun _ h => h, fun _ h => h, fun a h1 h2 => absurd h1 h2⟩
    | own xs =>
      obtain ⟨a, vs, e, q1, q2, q3, q4⟩ := s
      rw [hs] at e
      cases e
      have hi : i < τ.length := (List.getElem?_eq_some_iff.mp hd).1
      have sF : Same F (upd F a (.lst vs)) := fun b o hb => by rw [upd_ne (ne_of_none hb q2)]; exact hb
      have oA : Own τ σ a := ⟨i, hs, xs, by rw [hd]; exact .inl rfl⟩
      have lv : ∀ j, Live τ j → Live (τ.set i (.dat (.list xs))) j := fun j ⟨d, e1, e2⟩ => by
        by_cases z : i = j
        · subst z; exact ⟨_, List.getElem?_set_self hi, fun z => by cases z⟩
        · exact ⟨d, by rw [List.getElem?_set_ne z]; exact e1, e2⟩
      have ow : ∀ j : Nat, Lst (τ.set i (.dat (.list xs)))[j]? → Lst τ[j]? := fun j hj => (lst_set hj).1
      refine ⟨upd F a (.lst vs), τ.set i (.dat (.list xs)), .list xs, ?_, ?_, sF, .lst (.inl (.inl upd_same)) (dpAll_mono sF _ _ q4), h, lv, ow, fun b hb hn => ?_⟩
      · refine ⟨fun b o hb => ?_, r.f0.trans sF, by rw [List.length_set]; exact r.len, fun j d' hd' => ?_, fun j k b e1 e2 e3 e4 => ?_, r.frame, r.dom, fun b hb => ?_, r.wr⟩
        · by_cases z : b = a
          · subst z; rw [upd_same] at hb; cases hb; exact q1
          · rw [upd_ne z] at hb; exact r.sub _ _ hb
        · by_cases z : i = j
          · subst z
            rw [List.getElem?_set_self hi] at hd'
            cases hd'
            exact ⟨_, hs, .lst (.inl (.inl upd_same)) (dpAll_mono sF _ _ q4)⟩
          · rw [List.getElem?_set_ne z] at hd'
            have s := r.slot j d' hd'
            have nn : ∀ {b : Addr}, σ[j]? = some (some (.ref b)) → Lst τ[j]? → F b = none → upd F a (.lst vs) b = none := fun {b} hs' hl hb => by
              rw [upd_ne (fun y => by
                subst y
                exact z (r.apart i j b hs hs' ⟨xs, by rw [hd]; exact .inl rfl⟩ hl))]
              exact hb
            cases d' with
            | emp => trivial
            | dat d => obtain ⟨x, e, q⟩ := s; exact ⟨x, e, dp_mono sF _ _ q⟩
            | own ys => obtain ⟨b, ws, e, p1, p2, p3, p4⟩ := s; exact ⟨b, ws, e, p1, nn e ⟨ys, by rw [hd']; exact .inl rfl⟩ p2, p3, dpAll_mono sF _ _ p4⟩
            | io ys => obtain ⟨b, ws, e, p1, p2, p3, p4⟩ := s; exact ⟨b, ws, e, p1, nn e ⟨ys, by rw [hd']; exact .inr rfl⟩ p2, p3, dpAll_mono sF _ _ p4⟩
            | bor ys =>
              obtain ⟨b, ws, e, p1, p2⟩ := s
              exact ⟨b, ws, e, dpAll_mono sF _ _ p1, p2.imp (fun z => sF.seq z) id⟩
        · exact r.apart j k b e1 e2 (lst_set e3).1 (lst_set e4).1
        · by_cases z : b = a
          · subst z; exact .inr q3
          · rw [upd_ne z] at hb; exact r.froz b hb
      · refine ⟨g.f.trans sF, g.keep, g.dom, fun b x1 x2 x3 => ?_, fun j hj => g.lst j (lst_set hj).1, fun j hj => lv j (g.live j hj)⟩
        rw [upd_ne (fun z => by subst z; exact x3 (g.own _ oA))]
        exact g.new b x1 x2 x3
      · by_cases z : b = a
        · subst z; exact ⟨rfl, .inl oA⟩
        · rw [upd_ne z] at hn; exact absurd hb hn
/-- behind one freezing the other values are as they should be -/
theorem evr_frz {ev e2 : EV} {v v2 : V} {F' : Hp} {τ' : DSt} (h : EVR K Z Hb F H τ σ e2 v2) (s : Same F F') (lv : ∀ i, Live τ i → Live τ' i) (ow : ∀ i : Nat, Lst τ'[i]? → Lst τ[i]?)
    (nw : ∀ a, F a = none → F' a ≠ none → v = .ref a ∧ (Own τ σ a ∨ ∃ xs, ev = .tmp xs)) (ne : TmpNe (ev, v) (e2, v2)) : EVR K Z Hb F' H τ' σ e2 v2 := by
  cases e2 with
  | dat d => exact dp_mono s d v2 h
  | slot i => exact ⟨h.1, lv i h.2⟩
  | tmp xs =>
    obtain ⟨a, vs, e, h1, h2, h3, h4, h5, h6⟩ := h
    refine ⟨a, vs, e, h1, ?_, h3, h4, fun z => h5 (own_of_lst ow z), dpAll_mono s _ _ h6⟩
    cases q : F' a with
    | none => rfl
    | some o =>
      obtain ⟨e1, e2⟩ := nw a h2 (some_ne q)
      rcases e2 with e2 | ⟨ys, e2⟩
      · exact absurd e2 h5
      · exact absurd e (ne ys xs a e2 rfl e1)
theorem frzs_ok : ∀ {ws : List (EV × V)} {F : Hp} {τ : DSt} {q : List D → DSt → Prop}, R K Z F τ σ H → Gr Fb Hb τb σ F H τ → EVs K Z Hb F H τ σ ws → frzs (ws.map (·.1)) τ q →
    ∃ F' τ' ds, R K Z F' τ' σ H ∧ Gr Fb Hb τb σ F' H τ' ∧ DqAll K F' (ws.map (·.2)) ds ∧ q ds τ' ∧ Same F F' ∧ (∀ i, Live τ i → Live τ' i) ∧ (∀ i : Nat, Lst τ'[i]? → Lst τ[i]?) ∧
      (∀ a, F a = none → F' a ≠ none → Own τ σ a ∨ ∃ p ∈ ws, p.2 = .ref a ∧ ∃ xs, p.1 = .tmp xs)
  | [], F, τ, q, r, g, _, h => ⟨F, τ, [], r, g, .nil, h, Same.refl _, fun _ h => h, fun _ h => h, fun a h1 h2 => absurd h1 h2⟩
  | (e, v) :: ws, F, τ, q, r, g, ev, h => by
    have h : frz τ e fun d τ1 => frzs (ws.map (·.1)) τ1 fun ds τ2 => q (d :: ds) τ2 := h
    obtain ⟨F1, τ1, d, r1, g1, s1, p1, h1, lv1, ow1, nw1⟩ := frz_ok r g (ev.1 _ List.mem_cons_self) h
    have pw := List.pairwise_cons.mp ev.2
    have ev1 : EVs K Z Hb F1 H τ1 σ ws := ⟨fun p hp => evr_frz (ev.1 p (List.mem_cons_of_mem _ hp)) s1 lv1 ow1 nw1 (pw.1 p hp), pw.2⟩
    obtain ⟨F2, τ2, ds, r2, g2, p2, h2, s2, lv2, ow2, nw2⟩ := frzs_ok r1 g1 ev1 h1
    refine ⟨F2, τ2, d :: ds, r2, g2, .cons (dp_mono s2 _ _ p1) p2, h2, s1.trans s2, fun i x => lv2 i (lv1 i x), fun a x => ow1 a (ow2 a x), fun a x1 x2 => ?_⟩
    cases z : F1 a with
    | none =>
      rcases nw2 a z x2 with y | ⟨p, hp, y⟩
      · exact .inl (own_of_lst ow1 y)
      · exact .inr ⟨p, List.mem_cons_of_mem _ hp, y⟩
    | some o =>
      obtain ⟨y1, y2⟩ := nw1 a x1 (some_ne z)
      rcases y2 with y2 | y2
      · exact .inl y2
      · exact .inr ⟨_, List.mem_cons_self, y1, y2⟩
end

/-! ### names, constants, arguments -/
section
variable {Z : Fz} {X : Cx} {pos : Pos}
def dVar (i : Nat) : DTE := fun τ q => match τ[i]? with
  | some (.dat d) => q (.dat d) τ
  | some (.own _) => q (.slot i) τ
  | some (.io _) => q (.slot i) τ
  | some (.bor _) => q (.slot i) τ
  | _ => False
theorem de_var {i : Nat} {x : Str} (h : PE X (.Name x pos) (tVar i)) : DE X (.Name x pos) (dVar i) := by
  refine pe_imp h fun σ H Q ⟨Z, F, τ, q, r, ht, k⟩ => ?_
  have ht : (match τ[i]? with | some (.dat d) => q (.dat d) τ | some (.own _) => q (.slot i) τ | some (.io _) => q (.slot i) τ | some (.bor _) => q (.slot i) τ | _ => False) := ht
  cases hd : τ[i]? with
  | none => rw [hd] at ht; exact ht.elim
  | some d =>
    rw [hd] at ht
    have s := r.slot i d hd
    cases d with
    | emp => exact ht.elim
    | dat d => obtain ⟨x, e, p⟩ := s; exact ⟨x, e, k F τ H (.dat d) x r Gr.refl p ht⟩
    | own xs => obtain ⟨a, vs, e, _⟩ := s; exact ⟨_, e, k F τ H (.slot i) _ r Gr.refl ⟨e, _, hd, fun z => by cases z⟩ ht⟩
    | io xs => obtain ⟨a, vs, e, _⟩ := s; exact ⟨_, e, k F τ H (.slot i) _ r Gr.refl ⟨e, _, hd, fun z => by cases z⟩ ht⟩
    | bor xs => obtain ⟨a, vs, e, _⟩ := s; exact ⟨_, e, k F τ H (.slot i) _ r Gr.refl ⟨e, _, hd, fun z => by cases z⟩ ht⟩
def dC (d : D) : DTE := fun τ q => q (.dat d) τ
theorem de_con {e : Expr} {d : D} {v : V} (h : PE X e (tC v)) (hv : ∀ F, Dq X.K F v d) : DE X e (dC d) :=
  pe_imp h fun σ H Q ⟨Z, F, τ, q, r, ht, k⟩ => k F τ H (.dat d) v r Gr.refl (hv F) ht
theorem de_int {i : Int} {j} : DE X (.Constant (.int i) j pos) (dC (.int i)) := de_con pe_int fun _ => .int i
theorem de_bl {i : Bool} {j} : DE X (.Constant (.bool i) j pos) (dC (.bool i)) := de_con pe_bl fun _ => .bl i
theorem de_non {j} : DE X (.Constant .none j pos) (dC .none) := de_con pe_non fun _ => .non
theorem de_str {i : Str} {j} : DE X (.Constant (.str i) j pos) (dC (.str i)) := de_con pe_str fun _ => .str i
/-- a module's constant -/
theorem de_globI {x : Str} {i : Int} {t : Tok} (hg : Gl X x) (hm : X.mg x = some (.int i t)) (hd : (x == ("__debug__" : Str)) = false := by decide) : DE X (.Name x pos) (dC (.int i)) := de_con (v := .int i) (pe_glob hg hm (show RelV (.int i) (.int i t) from ⟨t, rfl⟩) hd) fun _ => .int i
theorem de_globS {x : Str} {i : Str} {t : Tok} (hg : Gl X x) (hm : X.mg x = some (.str i t)) (hd : (x == ("__debug__" : Str)) = false := by decide) : DE X (.Name x pos) (dC (.str i)) := de_con (v := .str i) (pe_glob hg hm (show RelV (.str i) (.str i t) from ⟨t, rfl⟩) hd) fun _ => .str i

def dNil : DTA := fun τ q => q [] τ
def dCons (t : DTE) (u : DTA) : DTA := fun τ q => t τ fun e τ1 => u τ1 fun es τ2 => q (e :: es) τ2
theorem da_nil : DA X [] dNil := pa_imp pa_nil fun σ H Q ⟨Z, F, τ, q, r, ht, k⟩ => k F τ H [] r Gr.refl ⟨fun _ z => (nomatch z), List.Pairwise.nil⟩ ht
theorem EVR.ext {K : PySem.W.Frag} {Hb F H F1 H1 : Hp} {τ τ1 : DSt} {σ : St} {ev : EV} {v : V} (h : EVR K Z Hb F H τ σ ev v) (g : Gr F H τ σ F1 H1 τ1) : EVR K Z Hb F1 H1 τ1 σ ev v := h.grow g
theorem da_cons {e : Expr} {es : List Expr} {t : DTE} {u : DTA} (ha : DE X e t) (hr : DA X es u) (hs : starEach (e :: es) X.env = (false, eval e X.env) :: starEach es X.env := by rfl) : DA X (e :: es) (dCons t u) := by
  refine pa_imp (pa_cons ha hr hs) fun σ H Q ⟨Z, F, τ, q, r, ht, k⟩ => ?_
  refine ⟨Z, F, τ, _, r, ht, fun F1 τ1 H1 ev v r1 g1 e1 h1 => ?_⟩
  refine ⟨Z, F1, τ1, _, r1, h1, fun F2 τ2 H2 ws r2 g2 e2 h2 => ?_⟩
  refine k F2 τ2 H2 ((ev, v) :: ws) r2 (g1.trans g2) ⟨fun p hp => ?_, List.pairwise_cons.mpr ⟨fun p hp => ?_, e2.2⟩⟩ h2
  · rcases List.mem_cons.mp hp with rfl | hp
    · exact e1.grow g2
    · exact (e2.1 p hp).base fun a z => g1.dom a z
  · intro xs ys a z1 z2 z3 z4
    have z1 : ev = .tmp xs := z1
    have z3 : v = .ref a := z3
    subst z1 z3
    obtain ⟨b, vs, e, p1, _⟩ := e1
    cases e
    have e3 := e2.1 p hp
    rw [z2, z4] at e3
    obtain ⟨b, vs', e, _, _, _, p4, _⟩ := e3
    cases e
    rw [p1] at p4
    cases p4
end
end DL
set_option Elab.async false
set_option linter.all false
set_option maxRecDepth 100000
set_option maxHeartbeats 4000000
namespace DL
open PySem L2

/-! ### operations on values that leave all that stood -/
def NewR (K : PySem.W.Frag) (F' H H' : Hp) : EV → V → Prop
  | .dat d, v => Dq K F' v d
  | .tmp xs, v => ∃ a vs, v = .ref a ∧ H' a = some (.lst vs) ∧ F' a = none ∧ H a = none ∧ DqAll K F' vs xs
  | .slot _, _ => False
def Post (K : PySem.W.Frag) (F H : Hp) (q : EV → Prop) (Q : VK) : Prop := ∀ F' H' ev v, Same F F' → Same F' H' → Same H H' → (∀ a, F a = none → F' a ≠ none → H a = none) → NewR K F' H H' ev v → q ev → Q v H'
section
variable {K : PySem.W.Frag} {Z : Fz} {F H Fb Hb F' H' : Hp} {τ τb : DSt} {σ : St} {q : EV → Prop} {Q : VK}
theorem Post.dat {v : V} {d : D} (p : Post K F H q Q) (s : Same F H) (h : Dq K F v d) (hq : q (.dat d)) : Q v H :=
  p F H (.dat d) v (Same.refl _) s (Same.refl _) (fun a h1 h2 => absurd h1 h2) h hq
theorem upd_same_of {G : Hp} {p : Addr} {o : HO} (h : G p = none) : Same G (upd G p o) := fun b u hb => by rw [upd_ne (ne_of_none hb h)]; exact hb
theorem same_none {G G' : Hp} (s : Same G G') {p : Addr} (h : G' p = none) : G p = none := s.free h
theorem Post.tup {p : Addr} {vs : List V} {xs : List D} (P : Post K F H q Q) (s : Same F H) (hp : H p = none) (h : DqAll K F vs xs) (hq : q (.dat (.tuple xs))) : Q (.ref p) (upd H p (.tup vs)) := by
  have hF := same_none s hp
  refine P (upd F p (.tup vs)) (upd H p (.tup vs)) (.dat (.tuple xs)) (.ref p) (upd_same_of hF) (fun b u hb => ?_) (upd_same_of hp) (fun a h1 h2 => ?_) (.tup (SqT.of upd_same) (dpAll_mono (upd_same_of hF) _ _ h)) hq
  · by_cases z : b = p
    · subst z; rw [upd_same] at hb ⊢; exact hb
    · rw [upd_ne z] at hb ⊢; exact s _ _ hb
  · by_cases z : a = p
    · subst z; exact hp
    · rw [upd_ne z] at h2; exact absurd h1 h2
theorem Post.lst {p : Addr} {vs : List V} {xs : List D} (P : Post K F H q Q) (s : Same F H) (hp : H p = none) (h : DqAll K F vs xs) (hq : q (.tmp xs)) : Q (.ref p) (upd H p (.lst vs)) :=
  P F (upd H p (.lst vs)) (.tmp xs) (.ref p) (Same.refl _) (s.trans (upd_same_of hp)) (upd_same_of hp) (fun a h1 h2 => absurd h1 h2) ⟨p, vs, rfl, upd_same, same_none s hp, hp, h⟩ hq
theorem own_some (r : R K Z F τ σ H) {a : Addr} (h : Own τ σ a) : ∃ vs, H a = some (.lst vs) ∧ F a = none := by
  obtain ⟨i, h1, xs, h2⟩ := h
  rcases h2 with h2 | h2
  · obtain ⟨b, vs, e, q1, q2, _⟩ := r.slot i _ h2
    rw [h1] at e; cases e
    exact ⟨vs, q1, q2⟩
  · obtain ⟨b, vs, e, q1, q2, _⟩ := r.slot i _ h2
    rw [h1] at e; cases e
    exact ⟨vs, q1, q2⟩
theorem none_of {o : Option HO} (h : o ≠ none → False) : o = none := by
  cases o with
  | none => rfl
  | some x => exact (h (fun z => by cases z)).elim
theorem bridge {ev : EV} {v : V} (r : R K Z F τ σ H) (g : Gr Fb Hb τb σ F H τ) (s1 : Same F F') (s2 : Same F' H') (s3 : Same H H') (n : ∀ a, F a = none → F' a ≠ none → H a = none) (h : NewR K F' H H' ev v) :
    R K Z F' τ σ H' ∧ Gr Fb Hb τb σ F' H' τ ∧ EVR K Z Hb F' H' τ σ ev v := by
  refine ⟨r.more s1 s2 s3 n, g.trans (Gr.more s1 s3 n), ?_⟩
  cases ev with
  | dat d => exact h
  | slot i => exact h.elim
  | tmp xs =>
    obtain ⟨a, vs, e, h1, h2, h3, h4⟩ := h
    refine ⟨a, vs, e, h1, h2, none_of fun z => r.dom a z h3, none_of fun z => g.dom a z h3, fun z => ?_, h4⟩
    obtain ⟨ws, z, _⟩ := own_some r z
    rw [h3] at z; cases z
end

abbrev B1 := D → (EV → Prop) → Prop
abbrev B2 := D → D → (EV → Prop) → Prop
abbrev BN := List D → (EV → Prop) → Prop
def liftO1 (K : PySem.W.Frag) (B : B1) : V → Hp → VK → Prop := fun x H Q => ∃ F d q, Same F H ∧ ValR K F H x d ∧ B d q ∧ Post K F H q Q
def liftO2 (K : PySem.W.Frag) (B : B2) : R2 := fun x y H Q => ∃ F d1 d2 q, Same F H ∧ ValR K F H x d1 ∧ ValR K F H y d2 ∧ B d1 d2 q ∧ Post K F H q Q
def liftON (K : PySem.W.Frag) (B : BN) : List V → Hp → VK → Prop := fun xs H Q => ∃ F ds q, Same F H ∧ Paired (ValR K F H) xs ds ∧ B ds q ∧ Post K F H q Q
def liftM (K : PySem.W.Frag) (B : D → List D → (EV → Prop) → Prop) : V → List V → Hp → VK → Prop := fun x xs H Q => ∃ F d ds q, Same F H ∧ ValR K F H x d ∧ Paired (ValR K F H) xs ds ∧ B d ds q ∧ Post K F H q Q

def dOp1 (B : B1) (ta : DTE) : DTE := fun τ q => ta τ fun ea τ1 => B (val τ1 ea) fun ev => q ev τ1
def dOp2 (B : B2) (ta tb : DTE) : DTE := fun τ q => ta τ fun ea τ1 => tb τ1 fun eb τ2 => B (val τ2 ea) (val τ2 eb) fun ev => q ev τ2
def dOpN (B : BN) (ta : DTA) : DTE := fun τ q => ta τ fun es τ1 => B (es.map (val τ1)) fun ev => q ev τ1

section
variable {Z : Fz} {X : Cx} {a b c : Expr} {ta tb tc : DTE} {pos : Pos}
theorem lift1 {r : V → Hp → VK → Prop} {B : B1} {σ : St} {H : Hp} {Q : VK} (i : ∀ x H Q, liftO1 X.K B x H Q → r x H Q) (h : liftE X.K (dOp1 B ta) σ H Q) : liftE X.K ta σ H fun x H1 => r x H1 Q := by
  obtain ⟨Z, F, τ, q, r0, ht, k⟩ := h
  refine ⟨Z, F, τ, _, r0, ht, fun F1 τ1 H1 ea v r1 g1 e1 h1 => ?_⟩
  refine i _ _ _ ⟨F1, _, _, r1.sub, r1.val e1, h1, fun F' H' ev w s1 s2 s3 n nr hq => ?_⟩
  obtain ⟨r2, g2, e2⟩ := bridge r1 g1 s1 s2 s3 n nr
  exact k F' τ1 H' ev w r2 g2 e2 hq
theorem lift2 {r : R2} {B : B2} {σ : St} {H : Hp} {Q : VK} (i : ∀ x y H Q, liftO2 X.K B x y H Q → r x y H Q) (h : liftE X.K (dOp2 B ta tb) σ H Q) : liftE X.K ta σ H fun x H1 => liftE X.K tb σ H1 fun y H2 => r x y H2 Q := by
  obtain ⟨Z, F, τ, q, r0, ht, k⟩ := h
  refine ⟨Z, F, τ, _, r0, ht, fun F1 τ1 H1 ea v r1 g1 e1 h1 => ?_⟩
  refine ⟨Z, F1, τ1, _, r1, h1, fun F2 τ2 H2 eb u r2 g2 e2 h2 => ?_⟩
  refine i _ _ _ _ ⟨F2, _, _, _, r2.sub, r2.val (e1.grow g2), r2.val e2, h2, fun F' H' ev w s1 s2 s3 n nr hq => ?_⟩
  obtain ⟨r3, g3, e3⟩ := bridge r2 (g1.trans g2) s1 s2 s3 n nr
  exact k F' τ2 H' ev w r3 g3 e3 hq
theorem vals_of {K : PySem.W.Frag} {Hb F H : Hp} {τ : DSt} {σ : St} (r : R K Z F τ σ H) : ∀ {ws : List (EV × V)}, (∀ p ∈ ws, EVR K Z Hb F H τ σ p.1 p.2) → Paired (ValR K F H) (ws.map (·.2)) ((ws.map (·.1)).map (val τ))
  | [], _ => .nil
  | (e, v) :: ws, h => .cons (r.val (h _ List.mem_cons_self)) (vals_of r fun p hp => h p (List.mem_cons_of_mem _ hp))
theorem liftN {r : List V → Hp → VK → Prop} {B : BN} {ta : DTA} {σ : St} {H : Hp} {Q : VK} (i : ∀ x H Q, liftON X.K B x H Q → r x H Q) (h : liftE X.K (dOpN B ta) σ H Q) : liftA X.K ta σ H fun x H1 => r x H1 Q := by
  obtain ⟨Z, F, τ, q, r0, ht, k⟩ := h
  refine ⟨Z, F, τ, _, r0, ht, fun F1 τ1 H1 ws r1 g1 e1 h1 => ?_⟩
  refine i _ _ _ ⟨F1, _, _, r1.sub, vals_of r1 e1.1, h1, fun F' H' ev w s1 s2 s3 n nr hq => ?_⟩
  obtain ⟨r2, g2, e2⟩ := bridge r1 g1 s1 s2 s3 n nr
  exact k F' τ1 H' ev w r2 g2 e2 hq

theorem de_op {op : Operator} {B : B2} (ho : OpR X (binaryOp op) (liftO2 X.K B)) (ha : DE X a ta) (hb : DE X b tb) : DE X (.BinOp a op b pos) (dOp2 B ta tb) :=
  pe_imp (pe_op ho ha hb) fun _ _ _ h => lift2 (fun _ _ _ _ z => z) h
theorem de_un {op : UnaryOp} {B : B1} (ho : UnR X (unaryOp op) (liftO1 X.K B)) (ha : DE X a ta) : DE X (.UnaryOp op a pos) (dOp1 B ta) :=
  pe_imp (pe_un ho ha) fun _ _ _ h => lift1 (fun _ _ _ z => z) h
theorem de_cmp {op : CmpOp} {B : B2} (ho : OpR X (compareOp op) (liftO2 X.K B)) (ha : DE X a ta) (hb : DE X b tb) (hm : behindInMarks op b = false) : DE X (.Compare a [op] [b] pos) (dOp2 B ta tb) :=
  pe_imp (pe_cmpR ho ha hb hm) fun _ _ _ h => lift2 (fun _ _ _ _ z => z) h
theorem de_ix {B : B2} (hr : IxR X (liftO2 X.K B)) (ha : DE X a ta) (hb : DE X b tb) (hs : PlainIx b) : DE X (.Subscript a b pos) (dOp2 B ta tb) :=
  pe_imp (pe_ix hr ha hb hs) fun _ _ _ h => lift2 (fun _ _ _ _ z => z) h
theorem de_callB {x : Str} {p : Pos} {e : Expr} {es : List Expr} {id : String} {B : BN} {t : DTA} (hc : CallR X (.builtin id) (liftON X.K B)) (hg : Gl X x) (hm : X.mg x = none) (hv : bootBuiltins x = some (.builtin id)) (ha : DA X (e :: es) t)
    (hn : x ≠ "__name__" := by decide) (hdb : (x == ("__debug__" : Str)) = false := by decide)
    (he : starEach (e :: es) X.env = (false, eval e X.env) :: starEach es X.env := by rfl) (hpl : (backTo pos (starEach es X.env)).any (·.1) = false := by rfl) : DE X (.Call (.Name x p) (e :: es) [] pos) (dOpN B t) :=
  pe_imp (pe_callB hc hg hm hv ha hn hdb he hpl) fun _ _ _ h => liftN (fun _ _ _ z => z) h
theorem de_callTy {x : Str} {p : Pos} {e : Expr} {es : List Expr} {T : String} {B : BN} {t : DTA} (hc : CallR X (.type T) (liftON X.K B)) (hg : Gl X x) (hm : X.mg x = none) (hv : bootBuiltins x = some (.type T)) (ha : DA X (e :: es) t)
    (hn : x ≠ "__name__" := by decide) (hdb : (x == ("__debug__" : Str)) = false := by decide)
    (he : starEach (e :: es) X.env = (false, eval e X.env) :: starEach es X.env := by rfl) (hpl : (backTo pos (starEach es X.env)).any (·.1) = false := by rfl) : DE X (.Call (.Name x p) (e :: es) [] pos) (dOpN B t) :=
  pe_imp (pe_callTy hc hg hm hv ha hn hdb he hpl) fun _ _ _ h => liftN (fun _ _ _ z => z) h

/-! ### displays -/
def dTup (t : DTA) : DTE := fun τ q => t τ fun es τ1 => es.length ≤ sizeLine ∧ frzs es τ1 fun ds τ2 => q (.dat (.tuple ds)) τ2
def dLst (t : DTA) : DTE := fun τ q => t τ fun es τ1 => es.length ≤ sizeLine ∧ frzs es τ1 fun ds τ2 => q (.tmp ds) τ2
theorem de_tup {es : List Expr} {t : DTA} {x1} (h : DA X es t) : DE X (.Tuple es x1 pos) (dTup t) := by
  refine pe_imp (pe_tup h) fun σ H Q ⟨Z, F, τ, q, r0, ht, k⟩ => ?_
  refine ⟨Z, F, τ, _, r0, ht, fun F1 τ1 H1 ws r1 g1 e1 h1 => ?_⟩
  obtain ⟨hl, h1⟩ := h1
  refine ⟨by simpa using hl, fun p hp => ?_⟩
  obtain ⟨F2, τ2, ds, r2, g2, p2, h2, s2, lv, ow, nw⟩ := frzs_ok r1 g1 e1 h1
  have P : Post X.K F2 H1 (fun ev => q ev τ2) Q := fun F' H' ev v s1 s2 s3 n nr hq => by
    obtain ⟨r3, g3, e3⟩ := bridge r2 g2 s1 s2 s3 n nr
    exact k F' τ2 H' ev v r3 g3 e3 hq
  exact P.tup r2.sub hp p2 h2
theorem de_lst {es : List Expr} {t : DTA} (h : DA X es t) : DE X (.List es pos) (dLst t) := by
  refine pe_imp (pe_lst h) fun σ H Q ⟨Z, F, τ, q, r0, ht, k⟩ => ?_
  refine ⟨Z, F, τ, _, r0, ht, fun F1 τ1 H1 ws r1 g1 e1 h1 => ?_⟩
  obtain ⟨hl, h1⟩ := h1
  refine ⟨by simpa using hl, fun p hp => ?_⟩
  obtain ⟨F2, τ2, ds, r2, g2, p2, h2, s2, lv, ow, nw⟩ := frzs_ok r1 g1 e1 h1
  have P : Post X.K F2 H1 (fun ev => q ev τ2) Q := fun F' H' ev v s1 s2 s3 n nr hq => by
    obtain ⟨r3, g3, e3⟩ := bridge r2 g2 s1 s2 s3 n nr
    exact k F' τ2 H' ev v r3 g3 e3 hq
  exact P.lst r2.sub hp p2 h2

/-! ### slices -/
def dPartN : DSt → (Option Int → DSt → Prop) → Prop := fun τ q => q none τ
def dPart (t : DTE) : DSt → (Option Int → DSt → Prop) → Prop := fun τ q => t τ fun ev τ1 => match val τ1 ev with | .int i => q (some i) τ1 | _ => False
def liftPO (K : PySem.W.Frag) (t : DSt → (Option Int → DSt → Prop) → Prop) : TO := fun σ H Q => ∃ (Z : Fz) (F : Hp) (τ : DSt) (q : _), R K Z F τ σ H ∧ t τ q ∧ ∀ F' τ' H' b, R K Z F' τ' σ H' → Gr F H τ σ F' H' τ' → q b τ' → Q b H'
theorem po_imp {e : Option Expr} {t t' : TO} (h : PO X e t) (i : ∀ σ H Q, t' σ H Q → t σ H Q) : PO X e t' := ⟨fun pins s σ H Q I hw => h.run pins s σ H Q I (i σ H Q hw)⟩
theorem dpo_none : PO X none (liftPO X.K dPartN) := po_imp po_none fun σ H Q ⟨Z, F, τ, q, r, ht, k⟩ => k F τ H none r Gr.refl ht
theorem dpo_some (h : DE X a ta) : PO X (some a) (liftPO X.K (dPart ta)) := po_imp (po_some h) fun σ H Q ⟨Z, F, τ, q, r, ht, k⟩ => by
  refine ⟨Z, F, τ, _, r, ht, fun F1 τ1 H1 ev v r1 g1 e1 h1 => ?_⟩
  have V := r1.val e1
  revert h1 V
  cases val τ1 ev with
  | int i => exact fun h1 V => ⟨i, V.int, k F1 τ1 H1 (some i) r1 g1 h1⟩
  | _ => exact fun h1 => h1.elim
def liftSl (K : PySem.W.Frag) (B : D → Option Int → Option Int → (EV → Prop) → Prop) : V → Option Int → Option Int → Hp → VK → Prop := fun x l u H Q => ∃ F d q, Same F H ∧ ValR K F H x d ∧ B d l u q ∧ Post K F H q Q
def dSl (B : D → Option Int → Option Int → (EV → Prop) → Prop) (te : DTE) (tl th : DSt → (Option Int → DSt → Prop) → Prop) : DTE := fun τ q => te τ fun ev τ1 => tl τ1 fun l τ2 => th τ2 fun u τ3 => B (val τ3 ev) l u fun ev => q ev τ3
theorem de_slice {lo hi : Option Expr} {p2 : Pos} {B : D → Option Int → Option Int → (EV → Prop) → Prop} {tl th : DSt → (Option Int → DSt → Prop) → Prop} (hr : SlR X (liftSl X.K B)) (he : DE X a ta) (hl : PO X lo (liftPO X.K tl)) (hu : PO X hi (liftPO X.K th)) :
    DE X (.Subscript a (.Slice lo hi none p2) pos) (dSl B ta tl th) := by
  refine pe_imp (pe_slice hr he hl hu) fun σ H Q ⟨Z, F, τ, q, r, ht, k⟩ => ?_
  refine ⟨Z, F, τ, _, r, ht, fun F1 τ1 H1 ev v r1 g1 e1 h1 => ?_⟩
  refine ⟨Z, F1, τ1, _, r1, h1, fun F2 τ2 H2 l r2 g2 h2 => ?_⟩
  refine ⟨Z, F2, τ2, _, r2, h2, fun F3 τ3 H3 u r3 g3 h3 => ?_⟩
  refine ⟨F3, _, _, r3.sub, r3.val ((e1.grow g2).grow g3), h3, fun F' H' ev w s1 s2 s3 n nr hq => ?_⟩
  obtain ⟨r4, g4, e4⟩ := bridge r3 ((g1.trans g2).trans g3) s1 s2 s3 n nr
  exact k F' τ3 H' ev w r4 g4 e4 hq

/-! ### tests -/
def truthW : D → (Bool → Prop) → Prop
  | .none, q => q false
  | .bool b, q => q b
  | .int i, q => q (i != 0)
  | .str s, q => s.length ≤ sizeLine ∧ q ((s.length : Int) != 0)
  | .list xs, q => q (!xs.isEmpty)
  | .tuple xs, q => q (!xs.isEmpty)
  | _, _ => False
def dTruth (t : DTE) : DTT := fun τ q => t τ fun ev τ1 => truthW (val τ1 ev) fun b => q b τ1
def boolW : EV → (Bool → Prop) → Prop
  | .dat (.bool b), q => q b
  | _, _ => False
def dTest (t : DTE) : DTT := fun τ q => t τ fun ev τ1 => boolW ev fun b => q b τ1
theorem isEmpty_dq {K : PySem.W.Frag} {F : Hp} {vs : List V} {ds : List D} (h : DqAll K F vs ds) : vs.isEmpty = ds.isEmpty := by cases h <;> rfl
theorem truth_ok {K : PySem.W.Frag} {F H : Hp} {v : V} {d : D} {q : Bool → Prop} (s : Same F H) (h : ValR K F H v d) (hq : truthW d q) : ∃ k, TruV K v H k ∧ q k := by
  cases d with
  | none => rw [h.non]; exact ⟨false, rfl, hq⟩
  | bool b => rw [h.bool]; exact ⟨b, rfl, hq⟩
  | int b => rw [h.int]; exact ⟨_, rfl, hq⟩
  | str b => rw [h.str]; exact ⟨_, ⟨hq.1, rfl⟩, hq.2⟩
  | list xs =>
    obtain ⟨a, vs, rfl, h1, h2⟩ := h.list s
    exact ⟨_, .inl ⟨vs, h1, rfl⟩, by rw [isEmpty_dq h2]; exact hq⟩
  | tuple xs =>
    obtain ⟨a, vs, rfl, h1, h2⟩ := h.tuple s
    exact ⟨_, .inr (.inl ⟨vs, h1, rfl⟩), by rw [isEmpty_dq h2]; exact hq⟩
  | dict kvs => exact hq.elim
theorem dt_truth (ha : DE X a ta) (he : ∀ whole, isTrue a X.env whole = (do let v ← whole; standAt a.pos; holding [v] (truthy v)) := by intro _; rfl) : DT X a (dTruth ta) := by
  refine pt_imp (pt_truth ha he) fun σ H Q ⟨Z, F, τ, q, r, ht, k⟩ => ?_
  refine ⟨Z, F, τ, _, r, ht, fun F1 τ1 H1 ev v r1 g1 e1 h1 => ?_⟩
  obtain ⟨b, h2, h3⟩ := truth_ok r1.sub (r1.val e1) h1
  exact ⟨b, h2, k F1 τ1 H1 b r1 g1 h3⟩
theorem boolW_ok {K : PySem.W.Frag} {Hb F H : Hp} {τ : DSt} {σ : St} {ev : EV} {v : V} {q : Bool → Prop} (e : EVR K Z Hb F H τ σ ev v) (h : boolW ev q) : ∃ b, v = .bl b ∧ q b := by
  cases ev with
  | dat d => cases d with
    | bool b =>
      have e : Dq K F v (.bool b) := e
      cases e
      exact ⟨b, rfl, h⟩
    | _ => exact (show False from h).elim
  | _ => exact (show False from h).elim
theorem dt_cmp {op : CmpOp} {B : B2} (ho : OpR X (compareOp op) (liftO2 X.K B)) (ha : DE X a ta) (hb : DE X b tb) (hm : behindInMarks op b = false) : DT X (.Compare a [op] [b] pos) (dTest (dOp2 B ta tb)) := by
  refine pt_imp (pt_cmpR ho ha hb hm) fun σ H Q ⟨Z, F, τ, q, r, ht, k⟩ => ?_
  refine lift2 (ta := ta) (tb := tb) (B := B) (fun _ _ _ _ z => z) ⟨Z, F, τ, _, r, ht, fun F1 τ1 H1 ev v r1 g1 e1 h1 => ?_⟩
  obtain ⟨b, e2, h2⟩ := boolW_ok e1 h1
  exact ⟨b, e2, k F1 τ1 H1 b r1 g1 h2⟩
def br (b : Bool) (A B : Prop) : Prop := match b with
  | true => A
  | false => B
/-- a op b op' c -/
def dChain (B B' : B2) (ta tb tc : DTE) : DTE := fun τ q => ta τ fun ea τ1 => tb τ1 fun eb τ2 => B (val τ2 ea) (val τ2 eb) fun e => boolW e fun k => br k (tc τ2 fun ec τ3 => B' (val τ3 eb) (val τ3 ec) fun ev => q ev τ3) (q (.dat (.bool false)) τ2)
theorem de_chain {op op' : CmpOp} {B B' : B2} (ho : OpR X (compareOp op) (liftO2 X.K B)) (ho' : OpR X (compareOp op') (liftO2 X.K B')) (ha : DE X a ta) (hb : DE X b tb) (hc : DE X c tc)
    (hm : lastMarks [op, op'] [b, c] = false := by with_unfolding_all rfl) : DE X (.Compare a [op, op'] [b, c] pos) (dChain B B' ta tb tc) := by
  refine pe_imp (pe_chain ho ho' ha hb hc hm) fun σ H Q ⟨Z, F, τ, q, r, ht, k⟩ => ?_
  refine ⟨Z, F, τ, _, r, ht, fun F1 τ1 H1 ea v r1 g1 e1 h1 => ?_⟩
  refine ⟨Z, F1, τ1, _, r1, h1, fun F2 τ2 H2 eb u r2 g2 e2 h2 => ?_⟩
  refine ⟨F2, _, _, _, r2.sub, r2.val (e1.grow g2), r2.val e2, h2, fun F' H' ev w s1 s2 s3 n nr hq => ?_⟩
  obtain ⟨r3, g3, e3⟩ := bridge r2 (g1.trans g2) s1 s2 s3 n nr
  obtain ⟨kk, e4, hq⟩ := boolW_ok e3 hq
  refine ⟨kk, e4, ?_⟩
  cases kk with
  | false => exact k F' τ2 H' (.dat (.bool false)) (.bl false) r3 g3 (Dq.bl false) hq
  | true =>
    rw [if_pos rfl]
    refine ⟨Z, F', τ2, _, r3, hq, fun F4 τ4 H4 ec w4 r4 g4 e4 h4 => ?_⟩
    refine ⟨F4, _, _, _, r4.sub, r4.val (((e2.grow (Gr.more s1 s3 n))).grow g4), r4.val e4, h4, fun F5 H5 ev5 w5 s1 s2 s3 n nr hq => ?_⟩
    obtain ⟨r5, g5, e5⟩ := bridge r4 (g3.trans g4) s1 s2 s3 n nr
    exact k F5 τ4 H5 ev5 w5 r5 g5 e5 hq
end
end DL
set_option Elab.async false
set_option linter.all false
set_option maxRecDepth 100000
set_option maxHeartbeats 4000000
namespace DL
open PySem L2

theorem br_t {b : Bool} {A B : Prop} (h : b = true) (k : A) : br b A B := by subst h; exact k
theorem br_f {b : Bool} {A B : Prop} (h : b = false) (k : B) : br b A B := by subst h; exact k
theorem br_dt {p : Prop} [Decidable p] {A B : Prop} (h : p) (k : A) : br (decide p) A B := br_t (decide_eq_true h) k
theorem br_df {p : Prop} [Decidable p] {A B : Prop} (h : ¬ p) (k : B) : br (decide p) A B := br_f (decide_eq_false h) k
theorem br_nt {p : Prop} [Decidable p] {A B : Prop} (h : ¬ p) (k : A) : br (!decide p) A B := br_t (by rw [decide_eq_false h]; rfl) k
theorem br_nf {p : Prop} [Decidable p] {A B : Prop} (h : p) (k : B) : br (!decide p) A B := br_f (by rw [decide_eq_true h]; rfl) k
theorem br_d {p : Prop} [Decidable p] {A B : Prop} (h1 : p → A) (h2 : ¬ p → B) : br (decide p) A B := by
  by_cases h : p
  · exact br_dt h (h1 h)
  · exact br_df h (h2 h)
theorem br_n {p : Prop} [Decidable p] {A B : Prop} (h1 : ¬ p → A) (h2 : p → B) : br (!decide p) A B := by
  by_cases h : p
  · exact br_nf h (h2 h)
  · exact br_nt h (h1 h)
theorem br_of {b : Bool} {A B : Prop} (h1 : b = true → A) (h2 : b = false → B) : br b A B := by
  cases b with
  | true => exact h1 rfl
  | false => exact h2 rfl
theorem br_if {b : Bool} {A B : Prop} (h : br b A B) : if b = true then A else B := by
  cases b with
  | true => exact h
  | false => rw [if_neg Bool.false_ne_true]; exact h

/-! ### and, or, not -/
abbrev DW (X : Cx) (e : Expr) (t : DTT) : Prop := PW X e (liftT X.K t)
section
variable {Z : Fz} {X : Cx} {a b c : Expr} {ta tb tc : DTE} {ua ub : DTT} {pos : Pos} {rest : List Expr}
def dAnd (t u : DTT) : DTT := fun τ q => t τ fun c τ1 => br c (u τ1 q) (q false τ1)
def dOr (t u : DTT) : DTT := fun τ q => t τ fun c τ1 => br c (q true τ1) (u τ1 q)
def dNot (t : DTT) : DTT := fun τ q => t τ fun c τ1 => q (!c) τ1
theorem dt_pw (h : DW X a ua) : DT X a ua := h.pt
theorem dw_and1 (h : DT X a ua) : DW X (.BoolOp .And [a] pos) ua := pw_and1 h
theorem dw_or1 (h : DT X a ua) : DW X (.BoolOp .Or [a] pos) ua := pw_or1 h
theorem lift_br {K : PySem.W.Frag} {F H : Hp} {τ : DSt} {σ : St} {q : Bool → DSt → Prop} {Q : Bool → Hp → Prop} {F1 H1 : Hp} {τ1 : DSt} (u : DTT) (r1 : R K Z F1 τ1 σ H1) (g1 : Gr F H τ σ F1 H1 τ1)
    (k : ∀ F' τ' H' b, R K Z F' τ' σ H' → Gr F H τ σ F' H' τ' → q b τ' → Q b H') (h : u τ1 q) : liftT K u σ H1 Q :=
  ⟨Z, F1, τ1, q, r1, h, fun F' τ' H' b r' g' h' => k F' τ' H' b r' (g1.trans g') h'⟩
theorem dw_and (ha : DT X a ua) (hb : DW X (.BoolOp .And (b :: rest) pos) ub) : DW X (.BoolOp .And (a :: b :: rest) pos) (dAnd ua ub) := by
  refine pw_imp (pw_and ha hb) fun σ H Q ⟨Z, F, τ, q, r, ht, k⟩ => ?_
  refine ⟨Z, F, τ, _, r, ht, fun F1 τ1 H1 c r1 g1 h1 => br_if ?_⟩
  cases c with
  | true => exact lift_br ub r1 g1 k h1
  | false => exact k F1 τ1 H1 false r1 g1 h1
theorem dw_or (ha : DT X a ua) (hb : DW X (.BoolOp .Or (b :: rest) pos) ub) : DW X (.BoolOp .Or (a :: b :: rest) pos) (dOr ua ub) := by
  refine pw_imp (pw_or ha hb) fun σ H Q ⟨Z, F, τ, q, r, ht, k⟩ => ?_
  refine ⟨Z, F, τ, _, r, ht, fun F1 τ1 H1 c r1 g1 h1 => br_if ?_⟩
  cases c with
  | true => exact k F1 τ1 H1 true r1 g1 h1
  | false => exact lift_br ub r1 g1 k h1
theorem dt_not (ha : DT X a ua) : DT X (.UnaryOp .Not a pos) (dNot ua) := by
  refine pt_imp (pt_not ha) fun σ H Q ⟨Z, F, τ, q, r, ht, k⟩ => ?_
  exact ⟨Z, F, τ, _, r, ht, fun F1 τ1 H1 c r1 g1 h1 => k F1 τ1 H1 (!c) r1 g1 h1⟩
/-- as values: all of them bools -/
def dAndV (t u : DTE) : DTE := fun τ q => t τ fun e τ1 => boolW e fun c => br c (u τ1 q) (q (.dat (.bool false)) τ1)
def dOrV (t u : DTE) : DTE := fun τ q => t τ fun e τ1 => boolW e fun c => br c (q (.dat (.bool true)) τ1) (u τ1 q)
def dNotV (t : DTE) : DTE := fun τ q => t τ fun e τ1 => boolW e fun c => q (.dat (.bool (!c))) τ1
theorem de_one {op} (h : DE X a ta) : DE X (.BoolOp op [a] pos) ta := pe_one h
theorem de_and (ha : DE X a ta) (hb : DE X (.BoolOp .And (b :: rest) pos) tb) : DE X (.BoolOp .And (a :: b :: rest) pos) (dAndV ta tb) := by
  refine pe_imp (pe_and ha hb) fun σ H Q ⟨Z, F, τ, q, r, ht, k⟩ => ?_
  refine ⟨Z, F, τ, _, r, ht, fun F1 τ1 H1 e v r1 g1 e1 h1 => ?_⟩
  obtain ⟨c, z, h1⟩ := boolW_ok e1 h1
  refine ⟨c, z, br_if ?_⟩
  cases c with
  | true => exact ⟨Z, F1, τ1, q, r1, h1, fun F' τ' H' ev v r' g' e' h' => k F' τ' H' ev v r' (g1.trans g') (e'.base g1.dom) h'⟩
  | false => exact k F1 τ1 H1 (.dat (.bool false)) (.bl false) r1 g1 (Dq.bl false) h1
theorem de_or (ha : DE X a ta) (hb : DE X (.BoolOp .Or (b :: rest) pos) tb) : DE X (.BoolOp .Or (a :: b :: rest) pos) (dOrV ta tb) := by
  refine pe_imp (pe_or ha hb) fun σ H Q ⟨Z, F, τ, q, r, ht, k⟩ => ?_
  refine ⟨Z, F, τ, _, r, ht, fun F1 τ1 H1 e v r1 g1 e1 h1 => ?_⟩
  obtain ⟨c, z, h1⟩ := boolW_ok e1 h1
  refine ⟨c, z, br_if ?_⟩
  cases c with
  | true => exact k F1 τ1 H1 (.dat (.bool true)) (.bl true) r1 g1 (Dq.bl true) h1
  | false => exact ⟨Z, F1, τ1, q, r1, h1, fun F' τ' H' ev v r' g' e' h' => k F' τ' H' ev v r' (g1.trans g') (e'.base g1.dom) h'⟩
theorem de_not (ha : DE X a ta) : DE X (.UnaryOp .Not a pos) (dNotV ta) := by
  refine pe_imp (pe_not ha) fun σ H Q ⟨Z, F, τ, q, r, ht, k⟩ => ?_
  refine ⟨Z, F, τ, _, r, ht, fun F1 τ1 H1 e v r1 g1 e1 h1 => ?_⟩
  obtain ⟨c, z, h1⟩ := boolW_ok e1 h1
  exact ⟨c, z, k F1 τ1 H1 (.dat (.bool (!c))) (.bl (!c)) r1 g1 (Dq.bl _) h1⟩
def dIfE (t : DTT) (ta tb : DTE) : DTE := fun τ q => t τ fun c τ1 => br c (ta τ1 q) (tb τ1 q)
theorem de_if (hc : DT X c ua) (ha : DE X a ta) (hb : DE X b tb) : DE X (.IfExp c a b pos) (dIfE ua ta tb) := by
  refine pe_imp (pe_ifExp hc ha hb) fun σ H Q ⟨Z, F, τ, q, r, ht, k⟩ => ?_
  refine ⟨Z, F, τ, _, r, ht, fun F1 τ1 H1 c r1 g1 h1 => br_if ?_⟩
  cases c with
  | true => exact ⟨Z, F1, τ1, q, r1, h1, fun F' τ' H' ev v r' g' e' h' => k F' τ' H' ev v r' (g1.trans g') (e'.base g1.dom) h'⟩
  | false => exact ⟨Z, F1, τ1, q, r1, h1, fun F' τ' H' ev v r' g' e' h' => k F' τ' H' ev v r' (g1.trans g') (e'.base g1.dom) h'⟩
end

/-! ### statements -/
structure DEnds where
  nx : DSt → Prop
  rt : EV → DSt → Prop
  bk : DSt → Prop := fun _ => False
  ct : DSt → Prop := fun _ => False
abbrev DTS := DEnds → DSt → Prop
structure EndsOk (K : PySem.W.Frag) (Z : Fz) (E : DEnds) (D : Ends) : Prop where
  nx : ∀ F τ σ H, R K Z F τ σ H → E.nx τ → D.nx σ H
  rt : ∀ F τ σ H ev v, R K Z F τ σ H → EVR K Z Z.H0 F H τ σ ev v → E.rt ev τ → D.rt v H
  bk : ∀ F τ σ H, R K Z F τ σ H → E.bk τ → D.bk σ H
  ct : ∀ F τ σ H, R K Z F τ σ H → E.ct τ → D.ct σ H
def liftS (K : PySem.W.Frag) (t : DTS) : TS := fun D σ H => ∃ (Z : Fz) (F : Hp) (τ : DSt) (E : DEnds), R K Z F τ σ H ∧ t E τ ∧ EndsOk K Z E D
abbrev DS (X : Cx) (st : Stmt) (t : DTS) : Prop := PS X st (liftS X.K t)
abbrev DSs (X : Cx) (st : List Stmt) (t : DTS) : Prop := PSs X st (liftS X.K t)
section
variable {Z : Fz} {X : Cx} {st : Stmt} {rest : List Stmt} {t u : DTS} {e c : Expr} {te : DTE} {tc : DTT} {pos : Pos}
def dNext : DTS := fun E τ => E.nx τ
def dSeq (t u : DTS) : DTS := fun E τ => t { E with nx := u E } τ
theorem dss_nil : DSs X [] dNext := pss_imp pss_nil fun D σ H ⟨Z, F, τ, E, r, h, k⟩ => k.nx F τ σ H r h
theorem dss_cons (h1 : DS X st t) (h2 : DSs X rest u) : DSs X (st :: rest) (dSeq t u) :=
  pss_imp (pss_cons h1 h2) fun D σ H ⟨Z, F, τ, E, r, h, k⟩ => ⟨Z, F, τ, _, r, h, ⟨fun F τ σ H r h => ⟨Z, F, τ, E, r, h, k⟩, k.rt, k.bk, k.ct⟩⟩
theorem dss_one (h1 : DS X st t) : DSs X [st] t := pss_one h1
theorem ds_pass : DS X (.Pass pos) dNext := ps_imp ps_pass fun D σ H ⟨Z, F, τ, E, r, h, k⟩ => k.nx F τ σ H r h
def dBreak : DTS := fun E τ => E.bk τ
def dCont : DTS := fun E τ => E.ct τ
theorem ds_break : DS X (.Break pos) dBreak := ps_imp ps_break fun D σ H ⟨Z, F, τ, E, r, h, k⟩ => k.bk F τ σ H r h
theorem ds_continue : DS X (.Continue pos) dCont := ps_imp ps_continue fun D σ H ⟨Z, F, τ, E, r, h, k⟩ => k.ct F τ σ H r h
theorem ds_doc {x j pos pos'} : DS X (.Expr (.Constant (.str x) j pos) pos') dNext := ps_imp ps_doc fun D σ H ⟨Z, F, τ, E, r, h, k⟩ => k.nx F τ σ H r h
def dNever : DTS := fun _ _ => False
theorem ds_never : DS X st dNever := ps_imp ps_never fun D σ H ⟨Z, F, τ, E, r, h, k⟩ => h.elim
theorem dss_never : DSs X rest dNever := pss_imp pss_never fun D σ H ⟨Z, F, τ, E, r, h, k⟩ => h.elim
def dDrop (t : DTE) : DTS := fun E τ => t τ fun _ τ1 => E.nx τ1
theorem ds_expr (he : DE X e te) (hs : swapsWith e none pos.line X.env = pure false := by rfl) : DS X (.Expr e pos) (dDrop te) :=
  ps_imp (ps_expr he hs) fun D σ H ⟨Z, F, τ, E, r, h, k⟩ => ⟨Z, F, τ, _, r, h, fun F' τ' H' ev v r' g' e' h' => k.nx F' τ' σ H' r' h'⟩
def dRet (t : DTE) : DTS := fun E τ => t τ E.rt
theorem ds_ret (he : DE X e te) : DS X (.Return (some e) pos) (dRet te) :=
  ps_imp (ps_ret he) fun D σ H ⟨Z, F, τ, E, r, h, k⟩ => ⟨Z, F, τ, _, r, h, fun F' τ' H' ev v r' g' e' h' => k.rt F' τ' σ H' ev v r' (e'.base r.dom) h'⟩
def dRetN : DTS := fun E τ => E.rt (.dat .none) τ
theorem ds_retN : DS X (.Return none pos) dRetN :=
  ps_imp ps_retN fun D σ H ⟨Z, F, τ, E, r, h, k⟩ => k.rt F τ σ H (.dat .none) .non r .non h
def dIf (c : DTT) (t u : DTS) : DTS := fun E τ => c τ fun b τ1 => br b (t E τ1) (u E τ1)
theorem ds_if {a b : List Stmt} (hc : DT X c tc) (ha : DSs X a t) (hb : DSs X b u) : DS X (.If c a b pos) (dIf tc t u) :=
  ps_imp (ps_if hc ha hb) fun D σ H ⟨Z, F, τ, E, r, h, k⟩ => ⟨Z, F, τ, _, r, h, fun F1 τ1 H1 b r1 g1 h1 => br_if (by
    cases b with
    | true => exact ⟨Z, F1, τ1, E, r1, h1, k⟩
    | false => exact ⟨Z, F1, τ1, E, r1, h1, k⟩)⟩
end

/-! ### stores to names -/
section
variable {K : PySem.W.Frag} {Z : Fz} {F H : Hp} {τ : DSt} {σ : St}
/-- a value fit for a slot -/
def DvR (K : PySem.W.Frag) (Z : Fz) (F H : Hp) (τ : DSt) (σ : St) : DV → V → Prop
  | .dat d, v => Dq K F v d
  | .own xs, v => ∃ a vs, v = .ref a ∧ H a = some (.lst vs) ∧ F a = none ∧ Z.H0 a = none ∧ ¬ Own τ σ a ∧ DqAll K F vs xs
  | _, _ => False
theorem get_set {α : Type} {l : List α} {i j : Nat} {x y : α} (h : (l.set i x)[j]? = some y) : (j = i ∧ i < l.length ∧ y = x) ∨ (j ≠ i ∧ l[j]? = some y) := by
  by_cases z : i = j
  · subst z
    by_cases hl : i < l.length
    · rw [List.getElem?_set_self hl] at h; cases h; exact .inl ⟨rfl, hl, rfl⟩
    · rw [List.getElem?_eq_none (by simpa using hl)] at h; cases h
  · rw [List.getElem?_set_ne z] at h; exact .inr ⟨fun e => z e.symm, h⟩
theorem lst_set' {i j : Nat} {dv : DV} (h : Lst (τ.set i dv)[j]?) : (j = i ∧ i < τ.length ∧ Lst (some dv)) ∨ (j ≠ i ∧ Lst τ[j]?) := by
  obtain ⟨xs, h⟩ := h
  rcases h with h | h
  · rcases get_set h with ⟨e1, e2, e3⟩ | ⟨e1, e2⟩
    · exact .inl ⟨e1, e2, xs, .inl (by rw [e3])⟩
    · exact .inr ⟨e1, xs, .inl e2⟩
  · rcases get_set h with ⟨e1, e2, e3⟩ | ⟨e1, e2⟩
    · exact .inl ⟨e1, e2, xs, .inr (by rw [e3])⟩
    · exact .inr ⟨e1, xs, .inr e2⟩
theorem own_set {i : Nat} {dv : DV} {v : V} {b : Addr} (hl : τ.length = σ.length) (h : Own (τ.set i dv) (σ.set i (some v)) b) : (v = .ref b ∧ Lst (some dv)) ∨ Own τ σ b := by
  obtain ⟨j, h1, h2⟩ := h
  rcases lst_set' h2 with ⟨e1, e2, e3⟩ | ⟨e1, e2⟩
  · rcases get_set h1 with ⟨_, _, q⟩ | ⟨q, _⟩
    · cases q; exact .inl ⟨rfl, e3⟩
    · exact absurd e1 q
  · rcases get_set h1 with ⟨q, _⟩ | ⟨_, q⟩
    · exact absurd q e1
    · exact .inr ⟨j, q, e2⟩
theorem R.store {i : Nat} {dv : DV} {v : V} (r : R K Z F τ σ H) (h : DvR K Z F H τ σ dv v) : R K Z F (τ.set i dv) (σ.set i (some v)) H where
  sub := r.sub
  f0 := r.f0
  len := by rw [List.length_set, List.length_set]; exact r.len
  slot := fun j d hd => by
    rcases get_set hd with ⟨e1, e2, e3⟩ | ⟨e1, e2⟩
    · subst e1 e3
      rw [List.getElem?_set_self (by rw [← r.len]; exact e2)]
      cases d with
      | emp => exact h.elim
      | io xs => exact h.elim
      | bor xs => exact h.elim
      | dat d => exact ⟨v, rfl, h⟩
      | own xs =>
        obtain ⟨a, vs, e, h1, h2, h3, h4, h5⟩ := h
        exact ⟨a, vs, by rw [e], h1, h2, h3, h5⟩
    · rw [List.getElem?_set_ne (fun z => e1 z.symm)]
      exact r.slot j d e2
  apart := fun j k a h1 h2 h3 h4 => by
    have key : ∀ {b : Addr} {m : Nat}, v = .ref b → Lst (some dv) → σ[m]? = some (some (.ref b)) → Lst τ[m]? → False := fun {b m} ev el e1 e2 => by
      obtain ⟨xs, el⟩ := el
      rcases el with el | el
      · cases el
        obtain ⟨c, vs, e, _, _, _, n, _⟩ := h
        rw [ev] at e; cases e
        exact n ⟨m, e1, e2⟩
      · cases el; exact h.elim
    rcases lst_set' h3 with ⟨e1, e2, e3⟩ | ⟨e1, e2⟩
    · rcases lst_set' h4 with ⟨f1, f2, f3⟩ | ⟨f1, f2⟩
      · rw [e1, f1]
      · subst e1
        rw [List.getElem?_set_self (by rw [← r.len]; exact e2)] at h1
        rw [List.getElem?_set_ne (fun z => f1 z.symm)] at h2
        cases h1
        exact (key rfl e3 h2 f2).elim
    · rcases lst_set' h4 with ⟨f1, f2, f3⟩ | ⟨f1, f2⟩
      · subst f1
        rw [List.getElem?_set_self (by rw [← r.len]; exact f2)] at h2
        rw [List.getElem?_set_ne (fun z => e1 z.symm)] at h1
        cases h2
        exact (key rfl f3 h1 e2).elim
      · rw [List.getElem?_set_ne (fun z => e1 z.symm)] at h1
        rw [List.getElem?_set_ne (fun z => f1 z.symm)] at h2
        exact r.apart j k a h1 h2 e2 f2
  frame := r.frame
  dom := r.dom
  froz := r.froz
  wr := r.wr
/-- values to what slots hold -/
def toDV : List EV → DSt → (List DV → DSt → Prop) → Prop
  | [], τ, q => q [] τ
  | .tmp xs :: es, τ, q => toDV es τ fun ds τ' => q (.own xs :: ds) τ'
  | .dat d :: es, τ, q => toDV es τ fun ds τ' => q (.dat d :: ds) τ'
  | .slot i :: es, τ, q => frz τ (.slot i) fun d τ1 => toDV es τ1 fun ds τ2 => q (.dat d :: ds) τ2
def DvsR (K : PySem.W.Frag) (Z : Fz) (F H : Hp) (τ : DSt) (σ : St) (ws : List (DV × V)) : Prop :=
  (∀ p ∈ ws, DvR K Z F H τ σ p.1 p.2) ∧ ws.Pairwise fun p q => ∀ xs ys a, p.1 = .own xs → q.1 = .own ys → p.2 = .ref a → q.2 ≠ .ref a
theorem toDV_ok : ∀ {ws : List (EV × V)} {F Hb : Hp} {τ : DSt} {q : List DV → DSt → Prop}, R K Z F τ σ H → EVs K Z Hb F H τ σ ws → toDV (ws.map (·.1)) τ q →
    ∃ F' τ' us, R K Z F' τ' σ H ∧ Same F F' ∧ (∀ a, Own τ' σ a → Own τ σ a) ∧ (∀ a, F a = none → F' a ≠ none → Own τ σ a) ∧ us.map (·.2) = ws.map (·.2) ∧ DvsR K Z F' H τ' σ us ∧
      (∀ u ∈ us, ∀ xs, u.1 = .own xs → ∃ p ∈ ws, p.1 = .tmp xs ∧ p.2 = u.2) ∧ q (us.map (·.1)) τ'
  | [], F, Hb, τ, q, r, _, h => ⟨F, τ, [], r, Same.refl _, fun _ h => h, fun a h1 h2 => absurd h1 h2, rfl, ⟨fun _ z => (nomatch z), List.Pairwise.nil⟩, fun _ z => (nomatch z), h⟩
  | (.tmp xs, v) :: ws, F, Hb, τ, q, r, ev, h => by
    have h : toDV (ws.map (·.1)) τ fun ds τ' => q (.own xs :: ds) τ' := h
    have pw := List.pairwise_cons.mp ev.2
    obtain ⟨F', τ', us, r', s, ow, nw, em, ⟨d1, d2⟩, kk, hq⟩ := toDV_ok r ⟨fun p hp => ev.1 p (List.mem_cons_of_mem _ hp), pw.2⟩ h
    obtain ⟨a, vs, e, h1, h2, h3, h4, h5, h6⟩ := ev.1 _ List.mem_cons_self
    refine ⟨F', τ', (.own xs, v) :: us, r', s, ow, nw, by rw [List.map_cons, List.map_cons, em], ⟨fun p hp => ?_, List.pairwise_cons.mpr ⟨fun u hu ys zs b z1 z2 z3 => ?_, d2⟩⟩, fun u hu ys z => ?_, hq⟩
    · rcases List.mem_cons.mp hp with rfl | hp
      · refine ⟨a, vs, e, h1, none_of fun z => h5 (nw a h2 z), h3, fun z => h5 (ow a z), dpAll_mono s _ _ h6⟩
      · exact d1 p hp
    · obtain ⟨p, hp, p1, p2⟩ := kk u hu zs z2
      rw [← p2]
      exact pw.1 p hp xs zs b rfl p1 z3
    · rcases List.mem_cons.mp hu with rfl | hu
      · cases z; exact ⟨_, List.mem_cons_self, rfl, rfl⟩
      · obtain ⟨p, hp, q⟩ := kk u hu ys z
        exact ⟨p, List.mem_cons_of_mem _ hp, q⟩
  | (.dat d, v) :: ws, F, Hb, τ, q, r, ev, h => by
    have h : toDV (ws.map (·.1)) τ fun ds τ' => q (.dat d :: ds) τ' := h
    have pw := List.pairwise_cons.mp ev.2
    obtain ⟨F', τ', us, r', s, ow, nw, em, ⟨d1, d2⟩, kk, hq⟩ := toDV_ok r ⟨fun p hp => ev.1 p (List.mem_cons_of_mem _ hp), pw.2⟩ h
    have e : Dq K F v d := ev.1 _ List.mem_cons_self
    refine ⟨F', τ', (.dat d, v) :: us, r', s, ow, nw, by rw [List.map_cons, List.map_cons, em], ⟨fun p hp => ?_, List.pairwise_cons.mpr ⟨fun u hu ys zs b z1 z2 z3 => ?_, d2⟩⟩, fun u hu ys z => ?_, hq⟩
    · rcases List.mem_cons.mp hp with rfl | hp
      · exact dp_mono s _ _ e
      · exact d1 p hp
    · cases z1
    · rcases List.mem_cons.mp hu with rfl | hu
      · cases z
      · obtain ⟨p, hp, q⟩ := kk u hu ys z
        exact ⟨p, List.mem_cons_of_mem _ hp, q⟩
  | (.slot i, v) :: ws, F, Hb, τ, q, r, ev, h => by
    have h : frz τ (.slot i) fun d τ1 => toDV (ws.map (·.1)) τ1 fun ds τ2 => q (.dat d :: ds) τ2 := h
    have pw := List.pairwise_cons.mp ev.2
    obtain ⟨F1, τ1, d, r1, _, s1, p1, h1, lv1, ow1, nw1⟩ := frz_ok (Fb := fun _ => none) (Hb := fun _ => none) (τb := τ) r ⟨fun a o z => (nomatch z), fun a o z => (nomatch z), fun a z => absurd rfl z, fun a _ z => absurd rfl z, fun a z => z, fun i z => z⟩ ((ev.1 _ List.mem_cons_self : EVR K Z Hb F H τ σ (.slot i) v).base fun a z => absurd rfl z) h
    have ev1 : EVs K Z Hb F1 H τ1 σ ws := ⟨fun p hp => evr_frz (ev.1 p (List.mem_cons_of_mem _ hp)) s1 lv1 ow1 nw1 (pw.1 p hp), pw.2⟩
    obtain ⟨F', τ', us, r', s, ow, nw, em, ⟨d1, d2⟩, kk, hq⟩ := toDV_ok r1 ev1 h1
    refine ⟨F', τ', (.dat d, v) :: us, r', s1.trans s, fun a z => own_of_lst ow1 (ow a z), fun a z1 z2 => ?_, by rw [List.map_cons, List.map_cons, em], ⟨fun p hp => ?_, List.pairwise_cons.mpr ⟨fun u hu ys zs b z1 z2 z3 => ?_, d2⟩⟩, fun u hu ys z => ?_, hq⟩
    · cases y : F1 a with
      | none => exact own_of_lst ow1 (nw a y z2)
      | some o =>
        rcases (nw1 a z1 (some_ne y)).2 with x | ⟨_, x⟩
        · exact x
        · cases x
    · rcases List.mem_cons.mp hp with rfl | hp
      · exact dp_mono s _ _ p1
      · exact d1 p hp
    · cases z1
    · rcases List.mem_cons.mp hu with rfl | hu
      · cases z
      · obtain ⟨p, hp, q⟩ := kk u hu ys z
        exact ⟨p, List.mem_cons_of_mem _ hp, q⟩
def setAll : DSt → List Nat → List DV → DSt
  | τ, i :: is, d :: ds => setAll (τ.set i d) is ds
  | τ, _, _ => τ
def setAllV : St → List Nat → List V → St
  | σ, i :: is, v :: vs => setAllV (σ.set i (some v)) is vs
  | σ, _, _ => σ
theorem storeAll : ∀ {us : List (DV × V)} {is : List Nat} {τ : DSt} {σ : St}, R K Z F τ σ H → DvsR K Z F H τ σ us → R K Z F (setAll τ is (us.map (·.1))) (setAllV σ is (us.map (·.2))) H
  | [], [], τ, σ, r, _ => r
  | [], _ :: _, τ, σ, r, _ => r
  | _ :: _, [], τ, σ, r, _ => r
  | (d, v) :: us, i :: is, τ, σ, r, h => by
    have pw := List.pairwise_cons.mp h.2
    show R K Z F (setAll (τ.set i d) is (us.map (·.1))) (setAllV (σ.set i (some v)) is (us.map (·.2))) H
    refine storeAll (r.store (i := i) (h.1 _ List.mem_cons_self)) ⟨fun p hp => ?_, pw.2⟩
    have y := h.1 p (List.mem_cons_of_mem _ hp)
    obtain ⟨pd, pv⟩ := p
    cases pd with
    | emp => exact y
    | io xs => exact y
    | bor xs => exact y
    | dat d => exact y
    | own xs =>
      obtain ⟨a, vs, e, h1, h2, h3, h4, h5⟩ := y
      refine ⟨a, vs, e, h1, h2, h3, fun z => ?_, h5⟩
      rcases own_set r.len z with ⟨z1, z2⟩ | z
      · obtain ⟨ys, z2⟩ := z2
        have hd := h.1 _ List.mem_cons_self
        rcases z2 with z2 | z2
        · cases z2
          exact pw.1 _ hp ys xs a rfl rfl z1 e
        · cases z2; exact hd
      · exact h4 z
end
end DL
set_option Elab.async false
set_option linter.all false
set_option maxRecDepth 100000
set_option maxHeartbeats 4000000
namespace DL
open PySem L2

section
variable {K : PySem.W.Frag} {Z : Fz} {F H Hb : Hp} {τ : DSt} {σ : St}
theorem store_evs {ws : List (EV × V)} {is : List Nat} {E : DSt → Prop} {Q : St → Hp → Prop} (r : R K Z F τ σ H) (e : EVs K Z Hb F H τ σ ws) (h : toDV (ws.map (·.1)) τ fun ds τ' => E (setAll τ' is ds))
    (k : ∀ F τ σ H, R K Z F τ σ H → E τ → Q σ H) : Q (setAllV σ is (ws.map (·.2))) H := by
  obtain ⟨F', τ', us, r', s, ow, nw, em, dv, kk, hq⟩ := toDV_ok r e h
  rw [← em]
  exact k F' _ _ _ (storeAll r' dv) hq
theorem evs1 {ev : EV} {v : V} (e : EVR K Z Hb F H τ σ ev v) : EVs K Z Hb F H τ σ [(ev, v)] :=
  ⟨fun p hp => (by
    rcases List.mem_cons.mp hp with rfl | hp
    · exact e
    · cases hp), List.pairwise_cons.mpr ⟨fun _ z => (nomatch z), List.Pairwise.nil⟩⟩
end

section
variable {X : Cx} {e : Expr} {te : DTE} {pos : Pos}
def dSet (i : Nat) (t : DTE) : DTS := fun E τ => t τ fun ev τ1 => toDV [ev] τ1 fun ds τ2 => E.nx (setAll τ2 [i] ds)
theorem set_of {X : Cx} {i : Nat} {D : Ends} {σ : St} {H : Hp} (h : liftS X.K (dSet i te) D σ H) : tAsg (liftE X.K te) (gName i) D σ H := by
  obtain ⟨Z, F, τ, E, r, h, k⟩ := h
  exact ⟨Z, F, τ, _, r, h, fun F1 τ1 H1 ev v r1 g1 e1 h1 => store_evs (ws := [(ev, v)]) (is := [i]) (Q := D.nx) r1 (evs1 e1) h1 k.nx⟩
theorem ds_set {i : Nat} {x : Str} {pos' : Pos} (hN : X.N.Nodup) (hi : X.N[i]? = some x) (hx : Loc X.env.scope x) (he : DE X e te) (hs : swapsWith e (some (.Name x pos')) pos.line X.env = pure false := by rfl)
    (hf : X.fn x = true ∨ X.env.scope.names.lookup x = some .local := by first | exact .inl rfl | exact .inr rfl | assumption) : DS X (.Assign [.Name x pos'] e pos) (dSet i te) :=
  ps_imp (ps_set hN hi hx he hs hf) fun D σ H h => set_of h
/-- a, b, .. = e1, e2, .. -/
def dPar (is : List Nat) (t : DTA) : DTS := fun E τ => t τ fun es τ1 => es.length = is.length ∧ es.length ≤ sizeLine ∧ toDV es τ1 fun ds τ2 => E.nx (setAll τ2 is ds)
theorem ds_par {i j : Nat} {x y : Str} {a b : Expr} {ta : DTA} {px py pt : Pos} {kt k2 pt2} (hc : X.calm = true) (hN : X.N.Nodup) (hi : X.N[i]? = some x) (hj : X.N[j]? = some y) (hij : i ≠ j)
    (hx : X.env.scope.names.lookup x = some .local) (hy : X.env.scope.names.lookup y = some .local) (ha : DA X [a, b] ta)
    (hw : swappedStores [.Tuple [.Name x px, .Name y py] kt pt] (.Tuple [a, b] k2 pt2) X.env = pure (some [x, y]))
    (hs : swapsWithSole [.Tuple [.Name x px, .Name y py] kt pt] (.Tuple [a, b] k2 pt2) pos.line X.env = pure false := by rfl) :
    DS X (.Assign [.Tuple [.Name x px, .Name y py] kt pt] (.Tuple [a, b] k2 pt2) pos) (dPar [i, j] ta) := by
  refine ps_imp (ps_par hc hN hi hj hij hx hy ha hw hs) fun D σ H ⟨Z, F, τ, E, r, h, k⟩ => ?_
  refine ⟨Z, F, τ, _, r, h, fun F1 τ1 H1 ws r1 g1 e1 h1 => ?_⟩
  obtain ⟨hl, _, h1⟩ := h1
  match ws, e1, h1, hl with
  | [(e, v), (e', v')], e1, h1, _ =>
    exact ⟨v, v', rfl, store_evs (ws := [(e, v), (e', v')]) (is := [i, j]) (Q := D.nx) r1 e1 h1 k.nx⟩
def gNames : List Nat → TGs
  | [] => gNil
  | i :: is => gCons (gName i) (gNames is)
theorem gNames_of : ∀ {is : List Nat} {vs : List V} {σ : St} {H : Hp} {Q : St → Hp → Prop}, vs.length = is.length → Q (setAllV σ is vs) H → gNames is vs σ H Q
  | [], [], _, _, _, _, h => ⟨rfl, h⟩
  | [], _ :: _, _, _, _, hl, _ => by cases hl
  | _ :: _, [], _, _, _, hl, _ => by cases hl
  | i :: is, v :: vs, σ, H, Q, hl, h => ⟨v, vs, rfl, gNames_of (is := is) (vs := vs) (by simpa using hl) h⟩
theorem ds_parT {is : List Nat} {es ts : List Expr} {ta : DTA} {k1 k2 : _} {p1 p2 : Pos} (hc : X.calm = true) (ha : DA X es ta) (hg : PGs X ts (gNames is))
    (hn : (assignEach ts X.env).length = is.length := by rfl) (hst : (assignEach ts X.env).findIdx? (·.1) = none := by rfl)
    (hs : swapsWithSole [.Tuple ts k1 p1] (.Tuple es k2 p2) pos.line X.env = pure false := by rfl) (hw : swappedStores [.Tuple ts k1 p1] (.Tuple es k2 p2) X.env = pure none := by rfl)
    (h1 : (assignEach [.Tuple ts k1 p1] X.env).map (·.2) = [assign (.Tuple ts k1 p1) X.env] := by rfl) : DS X (.Assign [.Tuple ts k1 p1] (.Tuple es k2 p2) pos) (dPar is ta) := by
  refine ps_imp (ps_asg (pe_tup ha) (pg_tup hc hg hn hst) hs hw h1) fun D σ H ⟨Z, F, τ, E, r, h, k⟩ => ?_
  refine ⟨Z, F, τ, _, r, h, fun F1 τ1 H1 ws r1 g1 e1 h1 => ?_⟩
  obtain ⟨hl, hz, h1⟩ := h1
  refine ⟨by simpa using hz, fun p hp => ?_⟩
  have s := upd_same_of (G := H1) (p := p) (o := .tup (ws.map (·.2))) hp
  have g := Gr.more (τ := τ1) (σ := σ) (Same.refl F1) s (fun a x1 x2 => absurd x1 x2)
  have r2 := r1.more (Same.refl F1) (r1.sub.trans s) s (fun a x1 x2 => absurd x1 x2)
  refine ⟨p, _, rfl, SqT.of upd_same, by simpa using hl, gNames_of (by simpa using hl) ?_⟩
  exact store_evs (Q := D.nx) r2 ⟨fun p hp => (e1.1 p hp).grow g, e1.2⟩ h1 k.nx
end

/-! ### targets of data -/
abbrev DTG := D → DSt → (DSt → Prop) → Prop
structure Asgn (is : List Nat) (τ : DSt) (σ : St) (τ' : DSt) (σ' : St) : Prop where
  len : σ'.length = σ.length
  off : ∀ j, j ∉ is → σ'[j]? = σ[j]? ∧ τ'[j]? = τ[j]?
  on : ∀ j, j ∈ is → ¬ Lst τ'[j]?
theorem Asgn.own {is : List Nat} {τ τ' : DSt} {σ σ' : St} (a : Asgn is τ σ τ' σ') {b : Addr} (h : Own τ' σ' b) : Own τ σ b := by
  obtain ⟨j, h1, h2⟩ := h
  by_cases hj : j ∈ is
  · exact absurd h2 (a.on j hj)
  · obtain ⟨x1, x2⟩ := a.off j hj
    exact ⟨j, by rw [← x1]; exact h1, by rw [← x2]; exact h2⟩
def liftG (K : PySem.W.Frag) (is : List Nat) (g : DTG) : TG := fun v σ H Q => ∃ (Z : Fz) (F : Hp) (τ : DSt) (q : _) (d : D), R K Z F τ σ H ∧ Dq K F v d ∧ g d τ q ∧
  ∀ τ' σ', R K Z F τ' σ' H → Asgn is τ σ τ' σ' → q τ' → Q σ' H
abbrev DTGs := List D → DSt → (DSt → Prop) → Prop
def liftGs (K : PySem.W.Frag) (is : List Nat) (g : DTGs) : TGs := fun vs σ H Q => ∃ (Z : Fz) (F : Hp) (τ : DSt) (q : _) (ds : List D), R K Z F τ σ H ∧ DqAll K F vs ds ∧ g ds τ q ∧
  ∀ τ' σ', R K Z F τ' σ' H → Asgn is τ σ τ' σ' → q τ' → Q σ' H
abbrev DG (X : Cx) (tg : Expr) (is : List Nat) (g : DTG) : Prop := PG X tg (liftG X.K is g)
abbrev DGs (X : Cx) (ts : List Expr) (is : List Nat) (g : DTGs) : Prop := PGs X ts (liftGs X.K is g)
theorem pg_imp {X : Cx} {e : Expr} {t t' : TG} (h : PG X e t) (i : ∀ v σ H Q, t' v σ H Q → t v σ H Q) : PG X e t' := ⟨fun pins s σ H v u Q I r hw => h.run pins s σ H v u Q I r (i v σ H Q hw)⟩
theorem pgs_imp {X : Cx} {e : List Expr} {t t' : TGs} (h : PGs X e t) (i : ∀ v σ H Q, t' v σ H Q → t v σ H Q) : PGs X e t' := ⟨fun pins s σ H v u Q I r hw => h.run pins s σ H v u Q I r (i v σ H Q hw)⟩
section
variable {X : Cx} {pos : Pos}
def gdName (i : Nat) : DTG := fun d τ q => q (τ.set i (.dat d))
theorem asgn_one {i : Nat} {τ : DSt} {σ : St} {d : D} {v : V} : Asgn [i] τ σ (τ.set i (.dat d)) (σ.set i (some v)) where
  len := by rw [List.length_set]
  off := fun j hj => by
    have hj : i ≠ j := fun z => hj (by rw [z]; exact List.mem_cons_self)
    exact ⟨List.getElem?_set_ne hj, List.getElem?_set_ne hj⟩
  on := fun j hj h => by
    rcases List.mem_cons.mp hj with rfl | hj
    · exact (lst_set h).2 rfl
    · cases hj
theorem dg_name {i : Nat} {x : Str} (hN : X.N.Nodup) (hi : X.N[i]? = some x) (hx : Loc X.env.scope x) (hf : X.fn x = true ∨ X.env.scope.names.lookup x = some .local := by first | exact .inl rfl | exact .inr rfl | assumption) : DG X (.Name x pos) [i] (gdName i) := by
  refine pg_imp (pg_name hN hi hx hf) fun v σ H Q ⟨Z, F, τ, q, d, r, hd, h, k⟩ => ?_
  exact k _ _ (r.store (dv := .dat d) hd) asgn_one h
def gdNil : DTGs := fun ds τ q => ds = [] ∧ q τ
def gdCons (g : DTG) (gs : DTGs) : DTGs := fun ds τ q => match ds with
  | d :: ds => g d τ fun τ1 => gs ds τ1 q
  | [] => False
def gdTup (n : Nat) (gs : DTGs) : DTG := fun d τ q => match d with
  | .tuple ds => ds.length = n ∧ gs ds τ q
  | _ => False
theorem dgs_nil : DGs X [] [] gdNil := by
  refine pgs_imp pgs_nil fun vs σ H Q ⟨Z, F, τ, q, ds, r, hd, h, k⟩ => ?_
  obtain ⟨rfl, h⟩ := h
  cases hd
  exact ⟨rfl, k τ σ r ⟨rfl, fun _ _ => ⟨rfl, rfl⟩, fun _ z => (nomatch z)⟩ h⟩
theorem asgn_app {is js : List Nat} {τ τ1 τ2 : DSt} {σ σ1 σ2 : St} (a : Asgn is τ σ τ1 σ1) (b : Asgn js τ1 σ1 τ2 σ2) : Asgn (is ++ js) τ σ τ2 σ2 where
  len := b.len.trans a.len
  off := fun j hj => by
    obtain ⟨x1, x2⟩ := a.off j fun z => hj (List.mem_append_left _ z)
    obtain ⟨y1, y2⟩ := b.off j fun z => hj (List.mem_append_right _ z)
    exact ⟨y1.trans x1, y2.trans x2⟩
  on := fun j hj h => by
    by_cases z : j ∈ js
    · exact b.on j z h
    · rcases List.mem_append.mp hj with y | y
      · rw [(b.off j z).2] at h; exact a.on j y h
      · exact z y
theorem dgs_cons {e : Expr} {es : List Expr} {is js : List Nat} {g : DTG} {gs : DTGs} (h1 : DG X e is g) (h2 : DGs X es js gs)
    (hs : (assignEach (e :: es) X.env).map (·.2) = assign e X.env :: (assignEach es X.env).map (·.2) := by rfl) : DGs X (e :: es) (is ++ js) (gdCons g gs) := by
  refine pgs_imp (pgs_cons h1 h2 hs) fun vs σ H Q ⟨Z, F, τ, q, ds, r, hd, h, k⟩ => ?_
  match ds, h with
  | d :: ds, h =>
    cases hd with
    | cons e1 e2 =>
      refine ⟨_, _, rfl, Z, F, τ, _, d, r, e1, h, fun τ1 σ1 r1 a1 h1 => ?_⟩
      exact ⟨Z, F, τ1, _, ds, r1, e2, h1, fun τ2 σ2 r2 a2 h2 => k τ2 σ2 r2 (asgn_app a1 a2) h2⟩
theorem dg_tup {es : List Expr} {k : Nat} {is : List Nat} {gs : DTGs} {n : Nat} (hc : X.calm = true) (h : DGs X es is gs)
    (hn : (assignEach es X.env).length = n := by rfl) (hst : (assignEach es X.env).findIdx? (·.1) = none := by rfl) : DG X (.Tuple es k pos) is (gdTup n gs) := by
  refine pg_imp (pg_tup hc h hn hst) fun v σ H Q ⟨Z, F, τ, q, d, r, hd, h, k⟩ => ?_
  cases d with
  | tuple ds =>
    cases hd with
    | tup s al => exact ⟨_, _, rfl, Same.sqT r.sub s, al.len.trans h.1, Z, F, τ, q, ds, r, al, h.2, k⟩
  | _ => exact (show False from h).elim
/-- target = data -/
def dUnp (g : DTG) (t : DTE) : DTS := fun E τ => t τ fun ev τ1 => match ev with
  | .dat d => g d τ1 E.nx
  | _ => False
theorem ds_unp {tg e : Expr} {te : DTE} {is : List Nat} {g : DTG} (he : DE X e te) (hg : DG X tg is g) (hs : swapsWithSole [tg] e pos.line X.env = pure false := by rfl) (hw : swappedStores [tg] e X.env = pure none := by rfl)
    (h1 : (assignEach [tg] X.env).map (·.2) = [assign tg X.env] := by rfl) : DS X (.Assign [tg] e pos) (dUnp g te) := by
  refine ps_imp (ps_asg he hg hs hw h1) fun D σ H ⟨Z, F, τ, E, r, h, k⟩ => ?_
  refine ⟨Z, F, τ, _, r, h, fun F1 τ1 H1 ev v r1 g1 e1 h1 => ?_⟩
  match ev, e1, h1 with
  | .dat d, e1, h1 => exact ⟨Z, F1, τ1, E.nx, d, r1, e1, h1, fun τ' σ' r' _ h' => k.nx F1 τ' σ' H1 r' h'⟩
end
end DL
set_option Elab.async false
set_option linter.all false
set_option maxRecDepth 100000
set_option maxHeartbeats 4000000
namespace DL
open PySem L2

/-! ### a changeable list is changed -/
def optW {α : Type} (o : Option α) (k : α → Prop) : Prop := match o with
  | some x => k x
  | none => False
theorem optW_of {α : Type} {o : Option α} {k : α → Prop} (h : optW o k) : ∃ x, o = some x ∧ k x := by
  cases o with
  | none => exact h.elim
  | some x => exact ⟨x, rfl, h⟩
theorem optW_mk {α : Type} {o : Option α} {k : α → Prop} {x : α} (h : o = some x) (hk : k x) : optW o k := by rw [h]; exact hk
def lstW (o : Option DV) (k : (List D → DV) → List D → Prop) : Prop := match o with
  | some (.own xs) => k .own xs
  | some (.io xs) => k .io xs
  | _ => False
section
variable {K : PySem.W.Frag} {Z : Fz} {F H Fb Hb : Hp} {τ τb : DSt} {σ : St}
theorem lst_mk {mk : List D → DV} {xs : List D} (h : mk = .own ∨ mk = .io) : Lst (some (mk xs)) := by
  rcases h with rfl | rfl
  · exact ⟨xs, .inl rfl⟩
  · exact ⟨xs, .inr rfl⟩
theorem lstW_of {o : Option DV} {k : (List D → DV) → List D → Prop} (h : lstW o k) : ∃ mk xs, (mk = DV.own ∨ mk = DV.io) ∧ o = some (mk xs) ∧ k mk xs := by
  unfold lstW at h
  split at h
  · exact ⟨_, _, .inl rfl, rfl, h⟩
  · exact ⟨_, _, .inr rfl, rfl, h⟩
  · exact h.elim
theorem slot_lst {mk : List D → DV} {xs : List D} {i : Nat} (r : R K Z F τ σ H) (hm : mk = .own ∨ mk = .io) (h : τ[i]? = some (mk xs)) :
    ∃ a vs, σ[i]? = some (some (.ref a)) ∧ H a = some (.lst vs) ∧ F a = none ∧ DqAll K F vs xs := by
  have s := r.slot i _ h
  rcases hm with rfl | rfl
  · obtain ⟨a, vs, e, h1, h2, _, h3⟩ := s; exact ⟨a, vs, e, h1, h2, h3⟩
  · obtain ⟨a, vs, e, h1, h2, _, h3⟩ := s; exact ⟨a, vs, e, h1, h2, h3⟩
theorem R.write {mk : List D → DV} {xs ys : List D} {i : Nat} {a : Addr} {ws : List V} (r : R K Z F τ σ H) (hm : mk = .own ∨ mk = .io) (h : τ[i]? = some (mk xs)) (hs : σ[i]? = some (some (.ref a)))
    (hw : DqAll K F ws ys) : R K Z F (τ.set i (mk ys)) σ (upd H a (.lst ws)) ∧ Gr F H τ σ F (upd H a (.lst ws)) (τ.set i (mk ys)) := by
  obtain ⟨b, vs0, e, h1, h2, h3⟩ := slot_lst r hm h
  rw [hs] at e
  cases e
  have hi : i < τ.length := (List.getElem?_eq_some_iff.mp h).1
  have oA : Own τ σ a := ⟨i, hs, by rw [h]; exact lst_mk hm⟩
  have ls : ∀ j : Nat, Lst (τ.set i (mk ys))[j]? → Lst τ[j]? := fun j hj => by
    rcases lst_set' hj with ⟨e1, e2, e3⟩ | ⟨_, e2⟩
    · subst e1; rw [h]; exact lst_mk hm
    · exact e2
  refine ⟨⟨fun b o hb => ?_, r.f0, by rw [List.length_set]; exact r.len, fun j d hd => ?_, fun j k b e1 e2 e3 e4 => r.apart j k b e1 e2 (ls j e3) (ls k e4), fun b o hb hw => ?_, fun b hb => ?_, r.froz, r.wr⟩,
    ⟨Same.refl _, fun b o hb hn => ?_, fun b hb => ?_, fun b hb _ _ => hb, ls, fun j ⟨d, e1, e2⟩ => ?_⟩⟩
  · rw [upd_ne (ne_of_none hb h2)]; exact r.sub _ _ hb
  · rcases get_set hd with ⟨e1, e2, e3⟩ | ⟨e1, e2⟩
    · subst e1 e3
      have s := r.slot j _ h
      rcases hm with rfl | rfl
      · obtain ⟨c, us, q0, q1, q2, q3, q4⟩ := s
        rw [hs] at q0; cases q0
        exact ⟨a, ws, hs, upd_same, h2, q3, hw⟩
      · obtain ⟨c, us, q0, q1, q2, q3, q4⟩ := s
        rw [hs] at q0; cases q0
        exact ⟨a, ws, hs, upd_same, h2, q3, hw⟩
    · have s := r.slot j d e2
      have ne : ∀ {b : Addr}, σ[j]? = some (some (.ref b)) → Lst τ[j]? → b ≠ a := fun {b} q1 q2 z => by
        subst z
        exact e1 (r.apart j i b q1 hs q2 (by rw [h]; exact lst_mk hm))
      cases d with
      | emp => trivial
      | dat d => exact s
      | own zs => obtain ⟨c, us, q0, q1, q2, q3, q4⟩ := s; exact ⟨c, us, q0, by rw [upd_ne (ne q0 ⟨zs, by rw [e2]; exact .inl rfl⟩)]; exact q1, q2, q3, q4⟩
      | io zs => obtain ⟨c, us, q0, q1, q2, q3, q4⟩ := s; exact ⟨c, us, q0, by rw [upd_ne (ne q0 ⟨zs, by rw [e2]; exact .inr rfl⟩)]; exact q1, q2, q3, q4⟩
      | bor zs => exact s
  · have : b ≠ a := fun z => by
      subst z
      have s := r.slot i _ h
      rcases hm with rfl | rfl
      · obtain ⟨c, us, q0, q1, q2, q3, q4⟩ := s
        rw [hs] at q0; cases q0
        rw [q3] at hb; cases hb
      · obtain ⟨c, us, q0, q1, q2, q3, q4⟩ := s
        rw [hs] at q0; cases q0
        exact hw q3
    rw [upd_ne this]; exact r.frame _ _ hb hw
  · by_cases z : b = a
    · subst z; rw [upd_same]; exact fun z => by cases z
    · rw [upd_ne z]; exact r.dom b hb
  · rw [upd_ne (fun z => by subst z; exact hn oA)]; exact hb
  · by_cases z : b = a
    · subst z; rw [upd_same]; exact fun z => by cases z
    · rw [upd_ne z]; exact hb
  · by_cases z : i = j
    · subst z; exact ⟨_, List.getElem?_set_self hi, by rcases hm with rfl | rfl <;> exact fun z => by cases z⟩
    · exact ⟨d, by rw [List.getElem?_set_ne z]; exact e1, e2⟩
end

section
variable {X : Cx} {e i : Expr} {te ti : DTE} {pos apos cpos : Pos} {x : Str} {j : Nat}
/-- x[i] = e, x a name that holds a changeable list -/
def dSetIx (j : Nat) (te ti : DTE) : DTS := fun E τ => te τ fun ev τ1 => frz τ1 ev fun d τ2 => lstW τ2[j]? fun _ _ => ti τ2 fun ei τ3 => lstW τ3[j]? fun mk xs => match val τ3 ei with
  | .int k => optW (ixN xs.length k) fun n => E.nx (τ3.set j (mk (xs.set n d)))
  | _ => False
theorem ds_setIx {px p2 : Pos} (he : DE X e te) (ho : PE X (.Name x px) (tVar j)) (hi : DE X i ti)
    (ha : ∀ v, assign (.Subscript (.Name x px) i p2) X.env v = (do
      let ov ← holding [v] (eval (.Name x px) X.env)
      let iv ← holding [v, ov] (eval i X.env)
      standAt p2
      holding [v, ov, iv] (setItem ov iv v)
      release [v, ov, iv] []) := by intro _; rfl)
    (hs : swapsWithSole [.Subscript (.Name x px) i p2] e pos.line X.env = pure false := by rfl) (hw : swappedStores [.Subscript (.Name x px) i p2] e X.env = pure none := by rfl)
    (h1 : (assignEach [.Subscript (.Name x px) i p2] X.env).map (·.2) = [assign (.Subscript (.Name x px) i p2) X.env] := by rfl) :
    DS X (.Assign [.Subscript (.Name x px) i p2] e pos) (dSetIx j te ti) := by
  refine ps_imp (ps_asg he (pg_sub ho hi set_list ha) hs hw h1) fun D σ H ⟨Z, F, τ, E, r, h, k⟩ => ?_
  refine ⟨Z, F, τ, _, r, h, fun F1 τ1 H1 ev v r1 g1 e1 h1 => ?_⟩
  obtain ⟨F2, τ2, d, r2, g2, s2, p2, h2, lv2, ow2, nw2⟩ := frz_ok r1 g1 e1 h1
  obtain ⟨mk0, xs0, hm0, ho0, h2⟩ := lstW_of h2
  obtain ⟨a, vs0, hl, _⟩ := slot_lst r2 hm0 ho0
  refine ⟨_, hl, Z, F2, τ2, _, r2, h2, fun F3 τ3 H3 ei iv r3 g3 e3 h3 => ?_⟩
  obtain ⟨mk, xs, hm, ho, h3⟩ := lstW_of h3
  obtain ⟨a', vs, q0, q1, q2, q3⟩ := slot_lst r3 hm ho
  rw [hl] at q0
  cases q0
  have V := r3.val e3
  revert h3 V
  cases val τ3 ei with
  | int n =>
    intro h3 V
    obtain ⟨m, hix, h3⟩ := optW_of h3
    refine ⟨a, vs, n, m, rfl, V.int, q1, by rw [q3.len]; exact hix, ?_⟩
    exact k.nx F3 _ σ _ (r3.write hm ho hl (DqAll.set (dp_mono g3.f _ _ p2) m q3)).1 h3
  | _ => exact fun h3 => h3.elim

/-! ### methods that change a list held by a name -/
theorem ty_list {K : PySem.W.Frag} {H : Hp} {a : Addr} {vs : List V} (h : H a = some (.lst vs)) : tyV K "list" (.ref a) H := .inl ⟨rfl, _, .inl (.inl h)⟩
def dApp (j : Nat) (te : DTE) : DTE := fun τ q => lstW τ[j]? fun _ _ => te τ fun ev τ1 => frz τ1 ev fun d τ2 => lstW τ2[j]? fun mk xs => xs.length < sizeLine ∧ q (.dat .none) (τ2.set j (mk (xs ++ [d])))
theorem de_app {px : Pos} (ho : PE X (.Name x px) (tVar j)) (he : DE X e te) (hpe : ∀ {to : TE} {t : TA}, PE X (.Name x px) to → PA X [e] t → PE X (.Call (.Attribute (.Name x px) "append" apos) [e] [] cpos) (tBM X.K "list" rAppend to t))
    (hst : starEach [e] X.env = (false, eval e X.env) :: starEach [] X.env := by rfl) : DE X (.Call (.Attribute (.Name x px) "append" apos) [e] [] cpos) (dApp j te) := by
  refine pe_imp (hpe ho (pa_cons he pa_nil hst)) fun σ H Q ⟨Z, F, τ, q, r, ht, k⟩ => ?_
  obtain ⟨mk0, xs0, hm0, ho0, ht⟩ := lstW_of ht
  obtain ⟨a, vs0, hl, hH, _⟩ := slot_lst r hm0 ho0
  refine ⟨_, hl, ty_list hH, Z, F, τ, _, r, ht, fun F1 τ1 H1 ev v r1 g1 e1 h1 => ?_⟩
  obtain ⟨F2, τ2, d, r2, g2, s2, p2, h2, lv2, ow2, nw2⟩ := frz_ok r1 g1 e1 h1
  obtain ⟨mk, xs, hm, ho, hz, h3⟩ := lstW_of h2
  obtain ⟨a', vs, q0, q1, q2, q3⟩ := slot_lst r2 hm ho
  rw [hl] at q0
  cases q0
  refine ⟨a, vs, v, rfl, rfl, q1, by rw [q3.len]; exact hz, ?_⟩
  obtain ⟨r3, g3⟩ := r2.write hm ho hl (DqAll.app q3 (.cons p2 .nil))
  exact k F2 _ _ (.dat .none) .non r3 (g2.trans g3) .non h3
def dPopAt (j : Nat) (te : DTE) : DTE := fun τ q => lstW τ[j]? fun _ _ => te τ fun ev τ1 => lstW τ1[j]? fun mk xs => match val τ1 ev with
  | .int i => -(2 ^ 63) ≤ i ∧ i < 2 ^ 63 ∧ optW (seqIndex? i xs.length) fun k => optW xs[k]? fun d => q (.dat d) (τ1.set j (mk (xs.eraseIdx k)))
  | _ => False
theorem de_popAt {px : Pos} (ho : PE X (.Name x px) (tVar j)) (he : DE X e te) (hpe : ∀ {to : TE} {t : TA}, PE X (.Name x px) to → PA X [e] t → PE X (.Call (.Attribute (.Name x px) "pop" apos) [e] [] cpos) (tBM X.K "list" rPopAt to t))
    (hst : starEach [e] X.env = (false, eval e X.env) :: starEach [] X.env := by rfl) : DE X (.Call (.Attribute (.Name x px) "pop" apos) [e] [] cpos) (dPopAt j te) := by
  refine pe_imp (hpe ho (pa_cons he pa_nil hst)) fun σ H Q ⟨Z, F, τ, q, r, ht, k⟩ => ?_
  obtain ⟨mk0, xs0, hm0, ho0, ht⟩ := lstW_of ht
  obtain ⟨a, vs0, hl, hH, _⟩ := slot_lst r hm0 ho0
  refine ⟨_, hl, ty_list hH, Z, F, τ, _, r, ht, fun F1 τ1 H1 ev v r1 g1 e1 h1 => ?_⟩
  obtain ⟨mk, xs, hm, ho, h2⟩ := lstW_of h1
  obtain ⟨a', vs, q0, q1, q2, q3⟩ := slot_lst r1 hm ho
  rw [hl] at q0
  cases q0
  have V := r1.val e1
  revert h2 V
  cases val τ1 ev with
  | int n =>
    intro h2 V
    obtain ⟨b1, b2, h2⟩ := h2
    obtain ⟨m, hk, h2⟩ := optW_of h2
    obtain ⟨d, hd, h3⟩ := optW_of h2
    obtain ⟨y, hy, hyd⟩ := q3.get hd
    refine ⟨a, vs, n, m, y, rfl, by rw [V.int], q1, b1, b2, by rw [q3.len]; exact hk, hy, ?_⟩
    obtain ⟨r3, g3⟩ := r1.write hm ho hl (DqAll.erase m q3)
    exact k F1 _ _ (.dat d) y r3 (g1.trans g3) hyd h3
  | _ => exact fun h3 => h3.elim
end
end DL
set_option Elab.async false
set_option linter.all false
set_option maxRecDepth 100000
set_option maxHeartbeats 4000000
namespace DL
open PySem L2

/-! ### what is walked -/
structure WalkD (K : PySem.W.Frag) (J : It) (xs : List D) (G : Hp → Hp → Prop) : Prop where
  go : ∀ i F H, i < xs.length → Same F H → G F H → J.go i H
  stop : ∀ F H, Same F H → G F H → J.stop xs.length H
  yld : ∀ i F H x H', i < xs.length → Same F H → G F H → J.yld i H x H' → ∃ F' d, xs[i]? = some d ∧ Same F F' ∧ Same F' H' ∧ Same H H' ∧ (∀ a, F a = none → F' a ≠ none → H a = none) ∧ Dq K F' x d
section
variable {K : PySem.W.Frag} {a b : Addr} {xs ys : List D}
theorem walkD_list : WalkD K (Itl K a) xs fun F H => ∃ vs, SqL K H a vs ∧ DqAll K F vs xs where
  go := fun i F H hi _ ⟨vs, h1, h2⟩ => ⟨vs, vs[i]'(by rw [h2.len]; exact hi), h1, by simp [h2.len, hi]⟩
  stop := fun F H _ ⟨vs, h1, h2⟩ => ⟨vs, h1, Nat.le_of_eq h2.len⟩
  yld := fun i F H x H' hi s ⟨vs, h1, h2⟩ ⟨e, y⟩ => by
    subst e
    obtain ⟨d, h3, h4⟩ := h2.getV (y vs h1)
    exact ⟨F, d, h3, Same.refl _, s, Same.refl _, fun a x1 x2 => absurd x1 x2, h4⟩
theorem walkD_tup : WalkD K (Itt K a) xs fun F H => ∃ vs, SqT K H a vs ∧ DqAll K F vs xs where
  go := fun i F H hi _ ⟨vs, h1, h2⟩ => ⟨vs, vs[i]'(by rw [h2.len]; exact hi), h1, by simp [h2.len, hi]⟩
  stop := fun F H _ ⟨vs, h1, h2⟩ => ⟨vs, h1, Nat.le_of_eq h2.len⟩
  yld := fun i F H x H' hi s ⟨vs, h1, h2⟩ ⟨e, y⟩ => by
    subst e
    obtain ⟨d, h3, h4⟩ := h2.getV (y vs h1)
    exact ⟨F, d, h3, Same.refl _, s, Same.refl _, fun a x1 x2 => absurd x1 x2, h4⟩
@[irreducible] def rangeD (lo : Int) (n : Nat) : List D := (List.range n).map fun i : Nat => PyData.int (lo + (i : Int))
theorem walkD_range {lo : Int} {n : Nat} : WalkD K (Itr lo n) (rangeD lo n) fun _ _ => True where
  go := fun i F H hi _ _ => by
    have hi : i < n := by simpa [rangeD] using hi
    exact hi
  stop := fun F H _ _ => by show n ≤ _; simp [rangeD]
  yld := fun i F H x H' hi s _ ⟨e, y⟩ => by
    subst e y
    have hi : i < n := by simpa [rangeD] using hi
    exact ⟨F, .int (lo + i), by simp [rangeD, hi], Same.refl _, s, Same.refl _, fun a x1 x2 => absurd x1 x2, .int _⟩
/-- a new pair at each turn -/
theorem pairD {F H : Hp} {T : Addr} {x y : V} {d e : D} (s : Same F H) (h : H T = none) (hx : Dq K F x d) (hy : Dq K F y e) :
    ∃ F' f, f = PyData.tuple [d, e] ∧ Same F F' ∧ Same F' (upd H T (.tup [x, y])) ∧ Same H (upd H T (.tup [x, y])) ∧ (∀ a, F a = none → F' a ≠ none → H a = none) ∧ Dq K F' (.ref T) f := by
  have hF := s.free h
  refine ⟨upd F T (.tup [x, y]), _, rfl, upd_same_of hF, fun b u hb => ?_, upd_same_of h, fun a h1 h2 => ?_, .tup (SqT.of upd_same) (.cons (dp_mono (upd_same_of hF) _ _ hx) (.cons (dp_mono (upd_same_of hF) _ _ hy) .nil))⟩
  · by_cases z : b = T
    · subst z; rw [upd_same] at hb ⊢; exact hb
    · rw [upd_ne z] at hb ⊢; exact s _ _ hb
  · by_cases z : a = T
    · subst z; exact h
    · rw [upd_ne z] at h2; exact absurd h1 h2
def enumD (xs : List D) : List D := xs.zipIdx.map fun p => PyData.tuple [.int (p.2 : Nat), p.1]
theorem enumD_len : (enumD xs).length = xs.length := by simp [enumD]
theorem enumD_get {i : Nat} {d : D} (h : xs[i]? = some d) : (enumD xs)[i]? = some (.tuple [.int (i : Nat), d]) := by
  simp [enumD, List.getElem?_zipIdx, h]
theorem walkD_enum : WalkD K (Ite K a) (enumD xs) fun F H => ∃ vs, SqL K H a vs ∧ DqAll K F vs xs where
  go := fun i F H hi _ ⟨vs, h1, h2⟩ => ⟨vs, vs[i]'(by rw [h2.len]; rw [enumD_len] at hi; exact hi), h1, by rw [enumD_len] at hi; simp [h2.len, hi]⟩
  stop := fun F H _ ⟨vs, h1, h2⟩ => ⟨vs, h1, by rw [enumD_len]; exact Nat.le_of_eq h2.len⟩
  yld := fun i F H x H' hi s ⟨vs, h1, h2⟩ ⟨T, u, e1, e2, e3, y⟩ => by
    subst e1 e3
    obtain ⟨d, h3, h4⟩ := h2.getV (y vs h1)
    obtain ⟨F', f, rfl, q⟩ := pairD s e2 (.int (i : Nat)) h4
    exact ⟨F', _, enumD_get h3, q⟩
end

/-- for a for: what is walked stands still for good -/
abbrev DTI := DSt → (List D → DSt → Prop) → Prop
def liftI (K : PySem.W.Frag) (t : DTI) : TI := fun σ H Rr => ∃ (Z : Fz) (F : Hp) (τ : DSt) (q : _), R K Z F τ σ H ∧ t τ q ∧
  ∀ F' τ' H' J xs (G : Hp → Hp → Prop), R K Z F' τ' σ H' → Gr F H τ σ F' H' τ' → WalkD K J xs G → (∀ F2 H2, Same F' F2 → Same F2 H2 → G F2 H2) → q xs τ' → Rr J H'
abbrev DI (X : Cx) (tg iter : Expr) (t : DTI) : Prop := PI X tg iter (liftI X.K t)
/-- for a comprehension: it stands still while a word of the state holds -/
abbrev DTC := DSt → (List D → (DSt → Prop) → DSt → Prop) → Prop
def Sub2 (σ2 σ : St) : Prop := ∀ (i : Nat) v, σ2[i]? = some (some v) → σ[i]? = some (some v)
def liftC (K : PySem.W.Frag) (t : DTC) : TI := fun σ H Rr => ∃ (Z : Fz) (F : Hp) (τ : DSt) (q : _), R K Z F τ σ H ∧ t τ q ∧
  ∀ F' τ' H' J xs (stay : DSt → Prop) (G : Hp → Hp → Prop), R K Z F' τ' σ H' → Gr F H τ σ F' H' τ' → WalkD K J xs G →
    (∀ F2 τ2 σ2 H2, R K Z F2 τ2 σ2 H2 → Sub2 σ2 σ → Same F' F2 → (∀ a o, H' a = some o → ¬ Own τ' σ a → H2 a = some o) → stay τ2 → G F2 H2) → q xs stay τ' → Rr J H'
abbrev DC (X : Cx) (tg iter : Expr) (t : DTC) : Prop := PI X tg iter (liftC X.K t)
theorem pi_imp {X : Cx} {tg e : Expr} {t t' : TI} (h : PI X tg e t) (i : ∀ σ H Q, t' σ H Q → t σ H Q) : PI X tg e t' := ⟨fun pins s σ H Rr I hw => h.run pins s σ H Rr I (i σ H Rr hw)⟩
/-- what a for walks, in a comprehension -/
def dcOf (t : DTI) : DTC := fun τ q => t τ fun xs τ1 => q xs (fun _ => True) τ1
section
variable {X : Cx} {tg iter e : Expr} {te : DTE} {ta : DTA} {pos p : Pos}
theorem dc_of {t : DTI} (h : DI X tg iter t) : DC X tg iter (dcOf t) := pi_imp h fun σ H Rr ⟨Z, F, τ, q, r, ht, k⟩ =>
  ⟨Z, F, τ, _, r, ht, fun F' τ' H' J xs G r' g w st h' => k F' τ' H' J xs (fun _ => True) G r' g w (fun F2 τ2 σ2 H2 r2 _ s2 _ _ => st F2 H2 s2 r2.sub) h'⟩
/-- a list or a tuple -/
def iSeq (K : PySem.W.Frag) (tl : TE) : TI := fun σ H R => tl σ H fun x H1 => ∃ a, x = .ref a ∧ (((∃ xs, SqL K H1 a xs) ∧ R (Itl K a) H1) ∨ ((∃ xs, SqT K H1 a xs) ∧ R (Itt K a) H1))
theorem pi_seq {l : Expr} {tl : TE} (hl : PE X l tl) : PI X tg l (iSeq X.K tl) := by
  refine ⟨fun pins s σ H R I h => ?_⟩
  refine thn (hl.run pins s σ H _ I h) fun v s1 ⟨x, H1, I1, r1, q1⟩ => ?_
  obtain ⟨a, e, q⟩ := q1
  subst e
  cases r1
  rcases q with ⟨⟨xs, hq⟩, q⟩ | ⟨⟨xs, hq⟩, q⟩
  · obtain ⟨its, rv, p, hz⟩ := I1.list hq
    refine wpAny_pyIter_list p.isList ?_
    refine ⟨s1.heap.objs.size, [s1.heap.objs.size], _, _, H1, rfl, I1.kept (t' := s1.toks) fun b o e => Heap.get?_push_of_some _ e, turn_list a _, ⟨_, Heap.get?_push_size _ rfl, rfl, rfl⟩, fun b hb => ?_, q⟩
    have e : b = s1.heap.objs.size := by simpa using hb
    subst e
    exact I1.fpOk (Nat.le_refl _) (I1.hok.fresh (Nat.le_refl _))
  · obtain ⟨its, rv, p, hz⟩ := I1.tuple hq
    refine wpAny_pyIter_tuple (show s1.heap.IsTuple a its.toArray from p) ?_
    refine ⟨s1.heap.objs.size, [s1.heap.objs.size], _, _, H1, rfl, I1.kept (t' := s1.toks) fun b o e => Heap.get?_push_of_some _ e, turn_tuple a _, ⟨_, Heap.get?_push_size _ rfl, rfl, rfl⟩, fun b hb => ?_, q⟩
    have e : b = s1.heap.objs.size := by simpa using hb
    subst e
    exact I1.fpOk (Nat.le_refl _) (I1.hok.fresh (Nat.le_refl _))
def seqW : D → (List D → Prop) → Prop
  | .list xs, k => k xs
  | .tuple xs, k => k xs
  | _, _ => False
def diSeq (t : DTE) : DTI := fun τ q => t τ fun ev τ1 => frz τ1 ev fun d τ2 => seqW d fun xs => q xs τ2
theorem di_seq (he : DE X e te) : DI X tg e (diSeq te) := by
  refine pi_imp (pi_seq he) fun σ H Rr ⟨Z, F, τ, q, r, ht, k⟩ => ?_
  refine ⟨Z, F, τ, _, r, ht, fun F1 τ1 H1 ev v r1 g1 e1 h1 => ?_⟩
  obtain ⟨F2, τ2, d, r2, g2, s2, p2, h2, lv2, ow2, nw2⟩ := frz_ok r1 g1 e1 h1
  cases d with
  | list xs =>
    cases p2 with
    | lst h3 h4 =>
      refine ⟨_, rfl, .inl ⟨⟨_, r2.sub.seq h3⟩, k F2 τ2 H1 _ xs _ r2 g2 walkD_list (fun F3 H3 x1 x2 => ⟨_, x2.seq (x1.seq h3), dpAll_mono x1 _ _ h4⟩) h2⟩⟩
  | tuple xs =>
    cases p2 with
    | tup h3 h4 =>
      refine ⟨_, rfl, .inr ⟨⟨_, Same.sqT r2.sub h3⟩, k F2 τ2 H1 _ xs _ r2 g2 walkD_tup (fun F3 H3 x1 x2 => ⟨_, Same.sqT x2 (Same.sqT x1 h3), dpAll_mono x1 _ _ h4⟩) h2⟩⟩
  | _ => exact (show False from h2).elim
/-- in a comprehension, without freezing -/
def dcSeq (t : DTE) : DTC := fun τ q => t τ fun ev τ1 => match ev with
  | .slot i => lstW τ1[i]? fun mk xs => q xs (fun τ2 => τ2[i]? = some (mk xs)) τ1
  | .dat d => seqW d fun xs => q xs (fun _ => True) τ1
  | .tmp xs => q xs (fun _ => True) τ1
theorem dc_seq (he : DE X e te) : DC X tg e (dcSeq te) := by
  refine pi_imp (pi_seq he) fun σ H Rr ⟨Z, F, τ, q, r, ht, k⟩ => ?_
  refine ⟨Z, F, τ, _, r, ht, fun F1 τ1 H1 ev v r1 g1 e1 h1 => ?_⟩
  match ev, e1, h1 with
  | .dat (.list xs), e1, h1 =>
    have p2 : Dq X.K F1 v (.list xs) := e1
    cases p2 with
    | lst h3 h4 => exact ⟨_, rfl, .inl ⟨⟨_, r1.sub.seq h3⟩, k F1 τ1 H1 _ xs _ _ r1 g1 walkD_list (fun F3 τ3 σ3 H3 r3 _ x1 _ _ => ⟨_, r3.sub.seq (x1.seq h3), dpAll_mono x1 _ _ h4⟩) h1⟩⟩
  | .dat (.tuple xs), e1, h1 =>
    have p2 : Dq X.K F1 v (.tuple xs) := e1
    cases p2 with
    | tup h3 h4 => exact ⟨_, rfl, .inr ⟨⟨_, Same.sqT r1.sub h3⟩, k F1 τ1 H1 _ xs _ _ r1 g1 walkD_tup (fun F3 τ3 σ3 H3 r3 _ x1 _ _ => ⟨_, Same.sqT r3.sub (Same.sqT x1 h3), dpAll_mono x1 _ _ h4⟩) h1⟩⟩
  | .tmp xs, e1, h1 =>
    obtain ⟨a, vs, e0, q1, q2, q3, q4, q5, q6⟩ := e1
    subst e0
    exact ⟨a, rfl, .inl ⟨⟨_, SqL.of q1⟩, k F1 τ1 H1 _ xs _ _ r1 g1 walkD_list (fun F3 τ3 σ3 H3 r3 _ x1 x2 _ => ⟨vs, SqL.of (x2 a _ q1 q5), dpAll_mono x1 _ _ q6⟩) h1⟩⟩
  | .slot i, e1, h1 =>
    obtain ⟨mk, xs, hm, ho, h1⟩ := lstW_of h1
    obtain ⟨a, vs, q0, q1, q2, q3⟩ := slot_lst r1 hm ho
    have z := e1.1
    rw [q0] at z
    cases z
    exact ⟨a, rfl, .inl ⟨⟨_, SqL.of q1⟩, k F1 τ1 H1 _ xs _ _ r1 g1 walkD_list (fun F3 τ3 σ3 H3 r3 sb x1 x2 st => by
      obtain ⟨a', vs', z0, z1, z2, z3⟩ := slot_lst r3 hm st
      have z4 := sb i _ z0
      rw [q0] at z4
      cases z4
      exact ⟨vs', SqL.of z1, z3⟩) h1⟩⟩
/-- range -/
def rng1W : List D → (Nat → Prop) → Prop
  | [.int n], k => -(2 ^ 62) ≤ n ∧ n < 2 ^ 62 ∧ k n.toNat
  | _, _ => False
def rng2W : List D → (Int → Nat → Prop) → Prop
  | [.int a, .int b], k => (-(2 ^ 62) ≤ a ∧ a < 2 ^ 62 ∧ -(2 ^ 62) ≤ b ∧ b < 2 ^ 62) ∧ k a (b - a).toNat
  | _, _ => False
def diRng1 (t : DTA) : DTI := fun τ q => t τ fun es τ1 => rng1W (es.map (val τ1)) fun n => q (rangeD 0 n) τ1
def diRng2 (t : DTA) : DTI := fun τ q => t τ fun es τ1 => rng2W (es.map (val τ1)) fun a n => q (rangeD a n) τ1
theorem di_rng1 {a : Expr} (hg : Gl X "range") (hm : X.mg "range" = none) (ha : DA X [a] ta) (hs : starEach [a] X.env = [(false, eval a X.env)] := by rfl) : DI X tg (.Call (.Name "range" p) [a] [] pos) (diRng1 ta) := by
  refine pi_imp (pi_range1 hg hm ha hs) fun σ H Rr ⟨Z, F, τ, q, r, ht, k⟩ => ?_
  refine ⟨Z, F, τ, _, r, ht, fun F1 τ1 H1 ws r1 g1 e1 h1 => ?_⟩
  have P := vals_of r1 e1.1
  revert h1 P
  generalize (ws.map (·.1)).map (val τ1) = ds
  generalize ws.map (·.2) = vs
  intro h1 P
  match ds, h1, P with
  | [.int n], h1, .cons p .nil => exact ⟨n, by rw [p.int], h1.1, h1.2.1, k F1 τ1 H1 _ _ _ r1 g1 walkD_range (fun _ _ _ _ => trivial) h1.2.2⟩
theorem di_rng2 {a b : Expr} (hg : Gl X "range") (hm : X.mg "range" = none) (ha : DA X [a, b] ta) (hs : starEach [a, b] X.env = [(false, eval a X.env), (false, eval b X.env)] := by rfl) (hs2 : starEach [b] X.env = [(false, eval b X.env)] := by rfl) :
    DI X tg (.Call (.Name "range" p) [a, b] [] pos) (diRng2 ta) := by
  refine pi_imp (pi_range2 hg hm ha hs hs2) fun σ H Rr ⟨Z, F, τ, q, r, ht, k⟩ => ?_
  refine ⟨Z, F, τ, _, r, ht, fun F1 τ1 H1 ws r1 g1 e1 h1 => ?_⟩
  have P := vals_of r1 e1.1
  revert h1 P
  generalize (ws.map (·.1)).map (val τ1) = ds
  generalize ws.map (·.2) = vs
  intro h1 P
  match ds, h1, P with
  | [.int n, .int m], h1, .cons p (.cons p' .nil) => exact ⟨n, m, by rw [p.int, p'.int], h1.1, k F1 τ1 H1 _ _ _ r1 g1 walkD_range (fun _ _ _ _ => trivial) h1.2⟩
end

/-! ### for -/
def forW (g : DTG) (b : DTS) (E : DEnds) : List D → DSt → Prop
  | [], τ => E.nx τ
  | x :: xs, τ => g x τ fun τ1 => b { E with nx := forW g b E xs, ct := forW g b E xs, bk := E.nx } τ1
def dFor (t : DTI) (g : DTG) (b : DTS) : DTS := fun E τ => t τ fun xs τ1 => forW g b E xs τ1
theorem R.rebase {K : PySem.W.Frag} {Z : Fz} {F F' H : Hp} {τ : DSt} {σ : St} (r : R K Z F τ σ H) (s0 : Same Z.F0 F') (fz : ∀ a, F' a ≠ none → Z.F0 a ≠ none ∨ Z.H0 a = none) (s : Same F' F) : R K { Z with F0 := F' } F τ σ H where
  sub := r.sub
  f0 := s
  len := r.len
  slot := fun i d h => by
    have s := r.slot i d h
    cases d with
    | emp => trivial
    | dat d => exact s
    | own xs => exact s
    | io xs => exact s
    | bor xs => exact s
  apart := r.apart
  frame := r.frame
  dom := r.dom
  froz := fun a h => by
    rcases r.froz a h with h | h
    · obtain ⟨o, h⟩ := ne_some h
      exact .inl (some_ne (s0 _ _ h))
    · exact .inr h
  wr := fun a h => by
    obtain ⟨w1, w2⟩ := r.wr a h
    refine ⟨none_of fun z => ?_, w2⟩
    rcases fz a z with y | y
    · exact y w1
    · exact w2 y
theorem R.unbase {K : PySem.W.Frag} {Z : Fz} {F F' H : Hp} {τ : DSt} {σ : St} (r : R K { Z with F0 := F' } F τ σ H) (s0 : Same Z.F0 F') (fz : ∀ a, F' a ≠ none → Z.F0 a ≠ none ∨ Z.H0 a = none) (wr : ∀ a, Z.Wr a → Z.F0 a = none ∧ Z.H0 a ≠ none) : R K Z F τ σ H where
  sub := r.sub
  f0 := s0.trans r.f0
  len := r.len
  slot := fun i d h => by
    have s := r.slot i d h
    cases d with
    | emp => trivial
    | dat d => exact s
    | own xs => exact s
    | io xs => exact s
    | bor xs => exact s
  apart := r.apart
  frame := r.frame
  dom := r.dom
  froz := fun a h => by
    rcases r.froz a h with h | h
    · exact fz a h
    · exact .inr h
  wr := wr
theorem evr_rebase {K : PySem.W.Frag} {Z : Fz} {F F' Hb H : Hp} {τ : DSt} {σ : St} {ev : EV} {v : V} (h : EVR K { Z with F0 := F' } Hb F H τ σ ev v) : EVR K Z Hb F H τ σ ev v := by
  cases ev with
  | dat d => exact h
  | tmp xs => exact h
  | slot i => exact h
theorem ds_for {X : Cx} {tg iter : Expr} {body : List Stmt} {t : DTI} {is : List Nat} {g : DTG} {b : DTS} {pos : Pos} (hp : PassesOwn (model X.prog X.w) X.A X.env X.xe) (hc : X.calm = true) (hi : DI X tg iter t) (hg : DG X tg is g) (hb : DSs X body b)
    (hs : ∀ x, foldedSetIterable iter X.env x = pure x := by intro _; rfl) : DS X (.For tg iter body [] pos) (dFor t g b) := by
  refine ps_imp (ps_for hp hc hi hg hb hs) fun D σ H ⟨Z, F, τ, E, r, h, k⟩ => ?_
  refine ⟨Z, F, τ, _, r, h, fun F1 τ1 H1 J xs G r1 g1 w st h1 => ?_⟩
  have fz := r1.froz
  have s0 := r1.f0
  have wr := r1.wr
  refine ⟨fun i m σ H => i ≤ xs.length ∧ m = xs.length - i ∧ ∃ F2 τ2, R X.K { Z with F0 := F1 } F2 τ2 σ H ∧ forW g b E (xs.drop i) τ2, ⟨xs.length, Nat.zero_le _, rfl, F1, τ1, r1.rebase s0 fz (Same.refl _), h1⟩, ?_⟩
  rintro i m σ2 H2 ⟨hi, rfl, F2, τ2, r2, h2⟩
  have hG : G F2 H2 := st F2 H2 r2.f0 r2.sub
  by_cases hlt : i < xs.length
  · refine .inr ⟨w.go i F2 H2 hlt r2.sub hG, fun σ H => ∃ F3 τ3, R X.K { Z with F0 := F1 } F3 τ3 σ H ∧ forW g b E (xs.drop (i + 1)) τ3, fun σ' H' ⟨F3, τ3, r3, h3⟩ => ⟨xs.length - (i + 1), by omega, hlt, rfl, F3, τ3, r3, h3⟩, fun x H3 y => ?_⟩
    obtain ⟨F3, d, hd, s1, s2, s3, n, p3⟩ := w.yld i F2 H2 x H3 hlt r2.sub hG y
    have r3 := r2.more s1 s2 s3 n
    have ed : xs.drop i = d :: xs.drop (i + 1) := by
      obtain ⟨z1, z2⟩ := List.getElem?_eq_some_iff.mp hd
      rw [← z2]; exact List.drop_eq_getElem_cons z1
    rw [ed] at h2
    refine ⟨_, F3, τ2, _, d, r3, p3, h2, fun τ4 σ4 r4 _ h4 => ?_⟩
    refine ⟨_, F3, τ4, _, r4, h4, ⟨fun F5 τ5 σ5 H5 r5 h5 => ⟨F5, τ5, r5, h5⟩, fun F5 τ5 σ5 H5 ev v r5 e5 h5 => k.rt F5 τ5 σ5 H5 ev v (r5.unbase s0 fz wr) (evr_rebase e5) h5, fun F5 τ5 σ5 H5 r5 h5 => k.nx F5 τ5 σ5 H5 (r5.unbase s0 fz wr) h5, fun F5 τ5 σ5 H5 r5 h5 => ⟨F5, τ5, r5, h5⟩⟩⟩
  · have e : i = xs.length := by omega
    subst e
    refine .inl ⟨w.stop F2 H2 r2.sub hG, k.nx F2 τ2 σ2 H2 (r2.unbase s0 fz wr) ?_⟩
    rw [List.drop_length] at h2
    exact h2

/-! ### while -/
def whileN (c : DTT) (b : DTS) (E : DEnds) : Nat → DSt → Prop
  | 0, _ => False
  | n + 1, τ => c τ fun k τ1 => br k (b { E with nx := whileN c b E n, ct := whileN c b E n, bk := E.nx } τ1) (E.nx τ1)
def dWhile (c : DTT) (b : DTS) : DTS := fun E τ => ∃ n, whileN c b E n τ
theorem ds_while {X : Cx} {c : Expr} {body : List Stmt} {tc : DTT} {b : DTS} {pos : Pos} (hp : PassesOwn (model X.prog X.w) X.A X.env X.xe) (hc : DT X c tc) (hb : DSs X body b) : DS X (.While c body [] pos) (dWhile tc b) := by
  refine ps_imp (ps_while hp hc hb) fun D σ H ⟨Z, F, τ, E, r, h, k⟩ => ?_
  obtain ⟨n, h⟩ := h
  refine ⟨fun m σ H => ∃ F τ, R X.K Z F τ σ H ∧ whileN tc b E m τ, ⟨n, F, τ, r, h⟩, ?_⟩
  rintro m σ1 H1 ⟨F1, τ1, r1, h1⟩
  cases m with
  | zero => exact h1.elim
  | succ m =>
    refine ⟨Z, F1, τ1, _, r1, h1, fun F2 τ2 H2 kk r2 g2 h2 => br_if ?_⟩
    cases kk with
    | false => exact k.nx F2 τ2 σ1 H2 r2 h2
    | true =>
      refine ⟨fun σ H => ∃ F τ, R X.K Z F τ σ H ∧ whileN tc b E m τ, fun σ' H' x => ⟨m, Nat.lt_succ_self _, x⟩, Z, F2, τ2, _, r2, h2, ⟨fun F5 τ5 σ5 H5 r5 h5 => ⟨F5, τ5, r5, h5⟩, k.rt, fun F5 τ5 σ5 H5 r5 h5 => k.nx F5 τ5 σ5 H5 r5 h5, fun F5 τ5 σ5 H5 r5 h5 => ⟨F5, τ5, r5, h5⟩⟩⟩
end DL
set_option Elab.async false
set_option linter.all false
set_option maxRecDepth 100000
set_option maxHeartbeats 4000000
namespace DL
open PySem L2

/-! ### comprehensions -/
def wipeD (τ : DSt) : List Nat → DSt
  | [] => τ
  | v :: vs => (wipeD τ vs).set v .emp
def rst (τ0 : DSt) : List Nat → DSt → DSt
  | [], τ => τ
  | v :: vs, τ => (rst τ0 vs τ).set v (τ0[v]?.getD .emp)
def compW (g : DTG) (tt : DTT) (te : DTE) (vs : List Nat) (stay : DSt → Prop) (q : List D → DSt → Prop) : List D → List D → DSt → Prop
  | [], acc, τ => stay τ ∧ q acc τ
  | x :: xs, acc, τ => stay τ ∧ g x τ fun τ1 => tt τ1 fun b τ2 => br b (te τ2 fun ev τ3 => frz τ3 ev fun d τ4 => compW g tt te vs stay q xs (acc ++ [d]) (wipeD τ4 vs)) (compW g tt te vs stay q xs acc (wipeD τ2 vs))
def dLc (t : DTC) (g : DTG) (tt : DTT) (te : DTE) (vs : List Nat) : DTE := fun τ q => t τ fun items stay τ1 => items.length ≤ sizeLine ∧
  compW g tt te vs stay (fun ys τ2 => q (.tmp ys) (rst τ1 vs τ2)) items [] (wipeD τ1 vs)
theorem wipeD_len {τ : DSt} : ∀ {vs : List Nat}, (wipeD τ vs).length = τ.length
  | [] => rfl
  | v :: vs => by show ((wipeD τ vs).set v .emp).length = _; rw [List.length_set, wipeD_len]
theorem wipeD_off {τ : DSt} {i : Nat} : ∀ {vs : List Nat}, i ∉ vs → (wipeD τ vs)[i]? = τ[i]?
  | [], _ => rfl
  | v :: vs, h => by
    show ((wipeD τ vs).set v .emp)[i]? = _
    rw [List.getElem?_set_ne (fun e => h (by rw [e]; exact List.mem_cons_self)), wipeD_off fun z => h (List.mem_cons_of_mem _ z)]
theorem wipeD_on {τ : DSt} {i : Nat} {d : DV} : ∀ {vs : List Nat}, i ∈ vs → (wipeD τ vs)[i]? = some d → d = .emp
  | v :: vs, h, e => by
    have e : ((wipeD τ vs).set v .emp)[i]? = some d := e
    rcases get_set e with ⟨_, _, z⟩ | ⟨z1, z2⟩
    · exact z
    · rcases List.mem_cons.mp h with y | y
      · exact absurd y z1
      · exact wipeD_on y z2
theorem wipe_off {σ : St} {i : Nat} : ∀ {vs : List Nat}, i ∉ vs → (wipe σ vs)[i]? = σ[i]?
  | [], _ => rfl
  | v :: vs, h => by
    show ((wipe σ vs).set v none)[i]? = _
    rw [List.getElem?_set_ne (fun e => h (by rw [e]; exact List.mem_cons_self)), wipe_off fun z => h (List.mem_cons_of_mem _ z)]
theorem rst_len {τ0 τ : DSt} : ∀ {vs : List Nat}, (rst τ0 vs τ).length = τ.length
  | [] => rfl
  | v :: vs => by show ((rst τ0 vs τ).set v _).length = _; rw [List.length_set, rst_len]
theorem rst_off {τ0 τ : DSt} {i : Nat} : ∀ {vs : List Nat}, i ∉ vs → (rst τ0 vs τ)[i]? = τ[i]?
  | [], _ => rfl
  | v :: vs, h => by
    show ((rst τ0 vs τ).set v _)[i]? = _
    rw [List.getElem?_set_ne (fun e => h (by rw [e]; exact List.mem_cons_self)), rst_off fun z => h (List.mem_cons_of_mem _ z)]
theorem rst_on {τ0 τ : DSt} {i : Nat} {d : DV} : ∀ {vs : List Nat}, i ∈ vs → (rst τ0 vs τ)[i]? = some d → d = τ0[i]?.getD .emp
  | v :: vs, h, e => by
    have e : ((rst τ0 vs τ).set v _)[i]? = some d := e
    rcases get_set e with ⟨e1, _, z⟩ | ⟨z1, z2⟩
    · rw [e1]; exact z
    · rcases List.mem_cons.mp h with y | y
      · exact absurd y z1
      · exact rst_on y z2
theorem lst_emp : ¬ Lst (some DV.emp) := fun ⟨_, h⟩ => by rcases h with h | h <;> cases h
theorem lst_none : ¬ Lst none := fun ⟨_, h⟩ => by rcases h with h | h <;> cases h

section
variable {K : PySem.W.Frag} {Z : Fz} {F H F' H' : Hp} {τ τ' : DSt} {σ : St}
/-- the block's own names forgotten -/
theorem R.wipe (r : R K Z F τ σ H) (vs : List Nat) : R K Z F (wipeD τ vs) (L2.wipe σ vs) H := by
  have ls : ∀ i : Nat, Lst (wipeD τ vs)[i]? → Lst τ[i]? ∧ i ∉ vs := fun i h => by
    by_cases hi : i ∈ vs
    · cases e : (wipeD τ vs)[i]? with
      | none => rw [e] at h; exact absurd h lst_none
      | some d =>
        have := wipeD_on hi e
        rw [e, this] at h
        exact absurd h lst_emp
    · rw [wipeD_off hi] at h; exact ⟨h, hi⟩
  refine ⟨r.sub, r.f0, by rw [wipeD_len, wipe_length]; exact r.len, fun i d hd => ?_, fun i j a e1 e2 e3 e4 => ?_, r.frame, r.dom, r.froz, r.wr⟩
  · by_cases hi : i ∈ vs
    · have := wipeD_on hi hd
      subst this
      trivial
    · rw [wipeD_off hi] at hd
      rw [wipe_off hi]
      exact r.slot i d hd
  · exact r.apart i j a (wipe_some e1).1 (wipe_some e2).1 (ls i e3).1 (ls j e4).1
/-- an object that nobody holds is changed -/
theorem R.side {d : Addr} {o : HO} (r : R K Z F τ σ H) (hF : F d = none) (hn : ¬ Own τ σ d) (h0 : Z.H0 d = none) : R K Z F τ σ (upd H d o) where
  sub := fun b u hb => by rw [upd_ne (ne_of_none hb hF)]; exact r.sub _ _ hb
  f0 := r.f0
  len := r.len
  slot := fun i dv e => by
    have s := r.slot i dv e
    have ne : ∀ {b : Addr}, σ[i]? = some (some (.ref b)) → Lst τ[i]? → b ≠ d := fun {b} q1 q2 z => hn ⟨i, by rw [← z]; exact q1, q2⟩
    cases dv with
    | emp => trivial
    | dat x => exact s
    | own xs => obtain ⟨c, us, q0, q1, q2, q3, q4⟩ := s; exact ⟨c, us, q0, by rw [upd_ne (ne q0 ⟨xs, by rw [e]; exact .inl rfl⟩)]; exact q1, q2, q3, q4⟩
    | io xs => obtain ⟨c, us, q0, q1, q2, q3, q4⟩ := s; exact ⟨c, us, q0, by rw [upd_ne (ne q0 ⟨xs, by rw [e]; exact .inr rfl⟩)]; exact q1, q2, q3, q4⟩
    | bor xs => exact s
  apart := r.apart
  frame := fun a u h hw => by rw [upd_ne (ne_of_none h h0)]; exact r.frame a u h hw
  dom := fun a h => by
    by_cases z : a = d
    · subst z; rw [upd_same]; exact fun z => by cases z
    · rw [upd_ne z]; exact r.dom a h
  froz := r.froz
  wr := r.wr
/-- what a block's turns leave, seen from outside -/
structure Gc (F H : Hp) (τ : DSt) (σ : St) (vs : List Nat) (F' H' : Hp) (τ' : DSt) : Prop where
  f : Same F F'
  keep : ∀ a o, H a = some o → ¬ Own τ σ a → H' a = some o
  dom : ∀ a, H a ≠ none → H' a ≠ none
  new : ∀ a, F a = none → H a ≠ none → ¬ Own τ σ a → F' a = none
  lst : ∀ i : Nat, Lst τ'[i]? → Lst τ[i]? ∧ i ∉ vs
  live : ∀ i, i ∉ vs → Live τ i → Live τ' i
theorem Gc.own {vs : List Nat} {σ2 : St} (g : Gc F H τ σ vs F' H' τ') (hs : ∀ i, i ∉ vs → σ2[i]? = σ[i]?) {a : Addr} (h : Own τ' σ2 a) : Own τ σ a := by
  obtain ⟨i, h1, h2⟩ := h
  obtain ⟨l1, l2⟩ := g.lst i h2
  exact ⟨i, by rw [← hs i l2]; exact h1, l1⟩
theorem Gc.step {vs : List Nat} {σ2 : St} {F2 H2 : Hp} {τ2 : DSt} (g : Gc F H τ σ vs F' H' τ') (hs : ∀ i, i ∉ vs → σ2[i]? = σ[i]?) (s : Gr F' H' τ' σ2 F2 H2 τ2) : Gc F H τ σ vs F2 H2 τ2 where
  f := g.f.trans s.f
  keep := fun a o h n => s.keep a o (g.keep a o h n) fun z => n (g.own hs z)
  dom := fun a h => s.dom a (g.dom a h)
  new := fun a h h2 n => s.new a (g.new a h h2 n) (g.dom a h2) fun z => n (g.own hs z)
  lst := fun i h => g.lst i (s.lst i h)
  live := fun i hi h => s.live i (g.live i hi h)
theorem Gc.wipe {vs : List Nat} (g : Gc F H τ σ vs F' H' τ') : Gc F H τ σ vs F' H' (wipeD τ' vs) where
  f := g.f
  keep := g.keep
  dom := g.dom
  new := g.new
  lst := fun i h => by
    by_cases hi : i ∈ vs
    · cases e : (wipeD τ' vs)[i]? with
      | none => rw [e] at h; exact absurd h lst_none
      | some d =>
        have := wipeD_on hi e
        rw [e, this] at h
        exact absurd h lst_emp
    · rw [wipeD_off hi] at h; exact g.lst i h
  live := fun i hi h => by
    obtain ⟨d, e1, e2⟩ := g.live i hi h
    exact ⟨d, by rw [wipeD_off hi]; exact e1, e2⟩
theorem Gc.side {vs : List Nat} {d : Addr} {o : HO} (g : Gc F H τ σ vs F' H' τ') (hd : H d = none) : Gc F H τ σ vs F' (upd H' d o) τ' where
  f := g.f
  keep := fun a u h n => by rw [upd_ne (ne_of_none h hd)]; exact g.keep a u h n
  dom := fun a h => by
    by_cases z : a = d
    · subst z; rw [upd_same]; exact fun z => by cases z
    · rw [upd_ne z]; exact g.dom a h
  new := g.new
  lst := g.lst
  live := g.live
theorem own_wipe {vs : List Nat} {a : Addr} (h : Own (wipeD τ vs) σ a) : Own τ σ a := by
  obtain ⟨i, h1, h2⟩ := h
  by_cases hi : i ∈ vs
  · cases e : (wipeD τ vs)[i]? with
    | none => rw [e] at h2; exact absurd h2 lst_none
    | some d =>
      have := wipeD_on hi e
      rw [e, this] at h2
      exact absurd h2 lst_emp
  · rw [wipeD_off hi] at h2; exact ⟨i, h1, h2⟩
/-- behind the block -/
theorem R.rst {vs : List Nat} (r0 : R K Z F τ σ H) (g : Gc F H (wipeD τ vs) σ vs F' H' τ') (r : R K Z F' τ' (L2.wipe σ vs) H') : R K Z F' (rst τ vs τ') σ H' ∧ Gr F H τ σ F' H' (rst τ vs τ') := by
  have lw : ∀ i : Nat, Lst (wipeD τ vs)[i]? → Lst τ[i]? ∧ i ∉ vs := fun i h => by
    by_cases hi : i ∈ vs
    · cases e : (wipeD τ vs)[i]? with
      | none => rw [e] at h; exact absurd h lst_none
      | some d =>
        have := wipeD_on hi e
        rw [e, this] at h
        exact absurd h lst_emp
    · rw [wipeD_off hi] at h; exact ⟨h, hi⟩
  have ls : ∀ i : Nat, Lst (DL.rst τ vs τ')[i]? → Lst τ[i]? := fun i h => by
    by_cases hi : i ∈ vs
    · cases e : (DL.rst τ vs τ')[i]? with
      | none => rw [e] at h; exact absurd h lst_none
      | some d =>
        have := rst_on hi e
        rw [e, this] at h
        cases q : τ[i]? with
        | none => rw [q] at h; exact absurd h lst_emp
        | some x => rw [q] at h; exact h
    · rw [rst_off hi] at h; exact (lw i (g.lst i h).1).1
  have hl : τ.length = τ'.length := by rw [r.len, wipe_length]; exact r0.len
  have sl : ∀ (i : Nat) d, (DL.rst τ vs τ')[i]? = some d → SlotOk K Z F' H' σ[i]? d := fun i d hd => by
    by_cases hi : i ∈ vs
    · have e := rst_on hi hd
      cases q : τ[i]? with
      | none => rw [q] at e; subst e; trivial
      | some x =>
        rw [q] at e
        have e : d = x := e
        subst e
        have s := r0.slot i d q
        -- an outer slot's list is no inner slot's: it stands
        have st : ∀ {b : Addr} {ws : List V}, σ[i]? = some (some (.ref b)) → Lst τ[i]? → H b = some (.lst ws) → F b = none → H' b = some (.lst ws) ∧ F' b = none := fun {b ws} q1 q2 q3 q4 => by
          have nb : ¬ Own (wipeD τ vs) σ b := fun ⟨j, y1, y2⟩ => by
            obtain ⟨y3, y4⟩ := lw j y2
            have := r0.apart i j b q1 y1 q2 y3
            subst this
            exact y4 hi
          exact ⟨g.keep _ _ q3 nb, g.new _ q4 (some_ne q3) nb⟩
        cases d with
        | emp => trivial
        | dat y => obtain ⟨x, e, p⟩ := s; exact ⟨x, e, dp_mono g.f _ _ p⟩
        | own xs => obtain ⟨c, us, q0, q1, q2, q3, q4⟩ := s; obtain ⟨z1, z2⟩ := st q0 ⟨xs, by rw [q]; exact .inl rfl⟩ q1 q2; exact ⟨c, us, q0, z1, z2, q3, dpAll_mono g.f _ _ q4⟩
        | io xs => obtain ⟨c, us, q0, q1, q2, q3, q4⟩ := s; obtain ⟨z1, z2⟩ := st q0 ⟨xs, by rw [q]; exact .inr rfl⟩ q1 q2; exact ⟨c, us, q0, z1, z2, q3, dpAll_mono g.f _ _ q4⟩
        | bor xs =>
          obtain ⟨c, us, q0, q1, q2⟩ := s
          exact ⟨c, us, q0, dpAll_mono g.f _ _ q1, q2.imp (fun z => g.f.seq z) id⟩
    · rw [rst_off hi] at hd
      have s := r.slot i d hd
      rw [wipe_off hi] at s
      exact s
  refine ⟨⟨r.sub, r.f0, by rw [rst_len]; rw [← hl]; exact r0.len, sl, fun i j a e1 e2 e3 e4 => r0.apart i j a e1 e2 (ls i e3) (ls j e4), r.frame, r.dom, r.froz, r.wr⟩,
    ⟨g.f, fun a o h n => g.keep a o h fun z => n (own_wipe z), g.dom, fun a h1 h2 n => g.new a h1 h2 fun z => n (own_wipe z), ls, fun i h => ?_⟩⟩
  by_cases hi : i ∈ vs
  · obtain ⟨d, e1, e2⟩ := h
    have hlt : i < (DL.rst τ vs τ').length := by rw [rst_len, ← hl]; exact (List.getElem?_eq_some_iff.mp e1).1
    have := rst_on (τ0 := τ) (τ := τ') hi (List.getElem?_eq_getElem hlt)
    refine ⟨_, List.getElem?_eq_getElem hlt, ?_⟩
    rw [this, e1]
    exact e2
  · obtain ⟨x, y1, y2⟩ := h
    obtain ⟨d, e1, e2⟩ := g.live i hi ⟨x, by rw [wipeD_off hi]; exact y1, y2⟩
    exact ⟨d, by rw [rst_off hi]; exact e1, e2⟩
end

/-! ### the rule -/
theorem asgn_wipe {is vs : List Nat} {τ τ' : DSt} {σ σ' : St} (a : Asgn is τ (wipe σ vs) τ' σ') (hs : ∀ i ∈ is, i ∈ vs) : wipe σ' vs = wipe σ vs := by
  apply List.ext_getElem?
  intro i
  by_cases hi : i ∈ vs
  · have wn : ∀ {ρ : St} {us : List Nat}, i ∈ us → (L2.wipe ρ us)[i]? = if i < ρ.length then some none else none := fun {ρ us} => by
      induction us with
      | nil => intro h; cases h
      | cons u us ih =>
        intro h
        show ((L2.wipe ρ us).set u none)[i]? = _
        by_cases z : u = i
        · subst z
          by_cases hl : u < ρ.length
          · rw [List.getElem?_set_self (by rw [wipe_length]; exact hl), if_pos hl]
          · rw [List.getElem?_eq_none (by rw [List.length_set, wipe_length]; omega), if_neg hl]
        · rw [List.getElem?_set_ne z]
          rcases List.mem_cons.mp h with y | y
          · exact absurd y.symm z
          · exact ih y
    rw [wn hi, wn hi, a.len, wipe_length]
  · rw [wipe_off hi, wipe_off hi, (a.off i (fun z => hi (hs i z))).1, wipe_off hi]
structure PTsD (X : Cx) (ifs : List Expr) (t : DTT) : Prop where
  run : PTs X ifs (liftT X.K t)
def dYes : DTT := fun τ q => q true τ
theorem dts_nil {X : Cx} : PTsD X [] dYes := ⟨⟨fun pins s σ H Q I ⟨Z, F, τ, q, r, ht, k⟩ => pts_nil.run pins s σ H Q I (k F τ H true r Gr.refl ht)⟩⟩
theorem dts_one {X : Cx} {c : Expr} {t : DTT} (h : DT X c t) : PTsD X [c] t := ⟨pts_one h⟩
theorem lc_of {X : Cx} {t : DTC} {is : List Nat} {g : DTG} {tt : DTT} {te : DTE} {vs : List Nat} {σ : St} {H : Hp} {Q : VK} (hv : ∀ i ∈ is, i ∈ vs) (h : liftE X.K (dLc t g tt te vs) σ H Q) :
    tLc (liftC X.K t) (liftG X.K is g) (liftT X.K tt) (liftE X.K te) vs σ H Q := by
  obtain ⟨Z, F, τ, q, r, ht, k⟩ := h
  refine ⟨Z, F, τ, _, r, ht, fun F1 τ1 H1 J xs stay G r1 g1 w st h1 => ?_⟩
  obtain ⟨hz, h1⟩ := h1
  intro d hd
  have nF : F1 d = none := r1.sub.free hd
  have n0 : Z.H0 d = none := none_of fun z => r1.dom d z hd
  have nown : ¬ Own (wipeD τ1 vs) σ d := fun z => by
    obtain ⟨ws, z, _⟩ := own_some r1 (own_wipe z)
    rw [hd] at z; cases z
  have so : ∀ i, i ∉ vs → (wipe σ vs)[i]? = σ[i]? := fun i hi => wipe_off hi
  refine ⟨fun i m H => i ≤ xs.length ∧ m = xs.length - i ∧ ∃ F2 τ2 accV acc, R X.K Z F2 τ2 (wipe σ vs) H ∧ H d = some (.lst accV) ∧ F2 d = none ∧ DqAll X.K F2 accV acc ∧ acc.length ≤ i ∧ Gc F1 H1 (wipeD τ1 vs) σ vs F2 H τ2 ∧
    compW g tt te vs stay (fun ys τ2 => q (.tmp ys) (rst τ1 vs τ2)) (xs.drop i) acc τ2, ⟨xs.length, Nat.zero_le _, rfl, F1, wipeD τ1 vs, [], [], ?_, upd_same, nF, .nil, Nat.le_refl _, ?_, h1⟩, ?_⟩
  · exact (r1.wipe vs).side nF (fun z => by
      obtain ⟨i, z1, z2⟩ := z
      exact nown ⟨i, (wipe_some z1).1, z2⟩) n0
  · refine Gc.side ⟨Same.refl _, fun a o h _ => h, fun a h => h, fun a h _ _ => h, fun i h => ⟨h, fun hi => ?_⟩, fun i _ h => h⟩ hd
    cases e : (wipeD τ1 vs)[i]? with
    | none => rw [e] at h; exact absurd h lst_none
    | some x =>
      have := wipeD_on hi e
      rw [e, this] at h
      exact absurd h lst_emp
  · rintro i m H2 ⟨hi, rfl, F2, τ2, accV, acc, r2, hD, hF2, hacc, hlen, g2, h2⟩
    have dn : ∀ {τ3 : DSt} {σ3 : St} {F3 H3 : Hp}, Gc F1 H1 (wipeD τ1 vs) σ vs F3 H3 τ3 → (∀ i, i ∉ vs → σ3[i]? = σ[i]?) → ¬ Own τ3 σ3 d := fun g hs z => nown (g.own hs z)
    by_cases hlt : i < xs.length
    · obtain ⟨x0, hx0⟩ : ∃ x, xs[i]? = some x := ⟨xs[i], by simp [hlt]⟩
      have ed : xs.drop i = x0 :: xs.drop (i + 1) := by
        obtain ⟨z1, z2⟩ := List.getElem?_eq_some_iff.mp hx0
        rw [← z2]; exact List.drop_eq_getElem_cons z1
      rw [ed] at h2
      obtain ⟨hst, h2⟩ := h2
      have hG : G F2 H2 := st F2 τ2 _ H2 r2 (fun i v e => (wipe_some e).1) g2.f (fun a o h n => g2.keep a o h fun z => n (own_wipe z)) hst
      refine .inr ⟨w.go i F2 H2 hlt r2.sub hG, fun H => ∃ F2 τ2 accV acc, R X.K Z F2 τ2 (wipe σ vs) H ∧ H d = some (.lst accV) ∧ F2 d = none ∧ DqAll X.K F2 accV acc ∧ acc.length ≤ i + 1 ∧ Gc F1 H1 (wipeD τ1 vs) σ vs F2 H τ2 ∧
        compW g tt te vs stay (fun ys τ2 => q (.tmp ys) (rst τ1 vs τ2)) (xs.drop (i + 1)) acc τ2, fun H' x => ⟨xs.length - (i + 1), by omega, hlt, rfl, x⟩, fun x H3 y => ?_⟩
      obtain ⟨F3, x', hx', s1, s2, s3, n3, p3⟩ := w.yld i F2 H2 x H3 hlt r2.sub hG y
      rw [hx0] at hx'
      cases hx'
      have r3 := r2.more s1 s2 s3 n3
      have g3 := g2.step so (Gr.more (σ := wipe σ vs) (τ := τ2) s1 s3 n3)
      have hD3 : H3 d = some (.lst accV) := s3 _ _ hD
      have hF3 : F3 d = none := none_of fun z => by have := n3 d hF2 z; rw [hD] at this; cases this
      refine ⟨Z, F3, τ2, _, x0, r3, p3, h2, fun τ4 σ4 r4 a4 h4 => ⟨asgn_wipe a4 hv, ?_⟩⟩
      have so4 : ∀ i, i ∉ vs → σ4[i]? = σ[i]? := fun i hi => by rw [(a4.off i fun z => hi (hv i z)).1]; exact wipe_off hi
      have g4 : Gc F1 H1 (wipeD τ1 vs) σ vs F3 H3 τ4 := ⟨g3.f, g3.keep, g3.dom, g3.new, fun i h => by
        by_cases hi : i ∈ is
        · exact absurd h (a4.on i hi)
        · rw [(a4.off i hi).2] at h; exact g3.lst i h, fun i hi h => by
        obtain ⟨x, e1, e2⟩ := g3.live i hi h
        exact ⟨x, by rw [(a4.off i fun z => hi (hv i z)).2]; exact e1, e2⟩⟩
      refine ⟨Z, F3, τ4, _, r4, h4, fun F5 τ5 H5 b r5 g5 h5 => br_if ?_⟩
      have g5' := g4.step so4 g5
      have hD5 : H5 d = some (.lst accV) := g5.keep d _ hD3 (dn g4 so4)
      have hF5 : F5 d = none := g5.new d hF3 (some_ne hD3) (dn g4 so4)
      have wipe4 : wipe σ4 vs = wipe σ vs := asgn_wipe a4 hv
      cases b with
      | false =>
        have r6 := r5.wipe vs
        rw [wipe4] at r6
        exact ⟨F5, wipeD τ5 vs, accV, acc, r6, hD5, hF5, dpAll_mono (s1.trans g5.f) _ _ hacc, by omega, g5'.wipe, h5⟩
      | true =>
        refine ⟨Z, F5, τ5, _, r5, h5, fun F6 τ6 H6 ev v r6 g6 e6 h6 => ?_⟩
        have g6' := g5'.step so4 g6
        have hD6 : H6 d = some (.lst accV) := g6.keep d _ hD5 (dn g5' so4)
        have hF6 : F6 d = none := g6.new d hF5 (some_ne hD5) (dn g5' so4)
        obtain ⟨F7, τ7, y7, r7, gg7, s7, p7, h7, lv7, ow7, nw7⟩ := frz_ok r6 g6 e6 h6
        have g7' := g5'.step so4 gg7
        have hF7 : F7 d = none := none_of fun z => by
          obtain ⟨z1, z2⟩ := nw7 d hF6 z
          rcases z2 with z2 | ⟨ys, z2⟩
          · exact dn g6' so4 z2
          · subst z2 z1
            obtain ⟨b, bs, e, b1, b2, b3, b4, b5, b6⟩ := e6
            cases e
            rw [hD5] at b4; cases b4
        refine ⟨accV, hD6, ?_, ?_⟩
        · rw [hacc.len]; omega
        · have r8 := (r7.side (o := .lst (accV ++ [v])) hF7 (dn g7' so4) n0).wipe vs
          rw [wipe4] at r8
          exact ⟨F7, wipeD τ7 vs, accV ++ [v], acc ++ [y7], r8, upd_same, hF7, DqAll.app (dpAll_mono ((s1.trans g5.f).trans (g6.f.trans s7)) _ _ hacc) (.cons p7 .nil), by rw [List.length_append, List.length_singleton]; omega, (g7'.side hd).wipe, h7⟩
    · have e : i = xs.length := by omega
      subst e
      rw [List.drop_length] at h2
      obtain ⟨hst, h2⟩ := h2
      have hG : G F2 H2 := st F2 τ2 _ H2 r2 (fun i v e => (wipe_some e).1) g2.f (fun a o h n => g2.keep a o h fun z => n (own_wipe z)) hst
      obtain ⟨r9, g9⟩ := r1.rst g2 r2
      refine .inl ⟨w.stop F2 H2 r2.sub hG, k F2 _ H2 (.tmp acc) (.ref d) r9 (g1.trans g9) ⟨d, accV, rfl, hD, hF2, n0, none_of fun z => g1.dom d z hd, fun z => ?_, hacc⟩ h2⟩
      obtain ⟨ws, z, _⟩ := own_some r1 (g9.own d z)
      rw [hd] at z; cases z
section
variable {X : Cx}
theorem de_lc {elt tg iter : Expr} {ifs : List Expr} {scope : Scope} {own : List (Str × Nat)} {pos : Pos} {t : DTC} {is : List Nat} {g : DTG} {tt : DTT} {te : DTE} (hc : X.calm = true) (hN : X.N.Nodup) (hi : DC X tg iter t) (ok : BlkOk X.N X.env.scope scope own)
    (hg : ∀ (s : Shared) (H : Hp) (C : Addr) (cl : List (Str × Addr)) (fp : List Addr), DG (X.blk s H scope (compEnvC scope cl C X.env) fp) tg is g) (ht : ∀ (s : Shared) (H : Hp) (C : Addr) (cl : List (Str × Addr)) (fp : List Addr), PTsD (X.blk s H scope (compEnvC scope cl C X.env) fp) ifs tt)
    (he : ∀ (s : Shared) (H : Hp) (C : Addr) (cl : List (Str × Addr)) (fp : List Addr), DE (X.blk s H scope (compEnvC scope cl C X.env) fp) elt te) (hv : ∀ i ∈ is, i ∈ own.map (·.2) := by decide) (hs : ∀ x, foldedSetIterable iter X.env x = pure x := by intro _; rfl) :
    DE X (.ListComp elt [⟨tg, iter, ifs, 0⟩] scope pos) (dLc t g tt te (own.map (·.2))) :=
  pe_imp (pe_lc hc hN hi ok hg (fun s H C cl fp => (ht s H C cl fp).run) he hs) fun σ H Q h => lc_of hv h
theorem ds_setLc {i : Nat} {y : Str} {py : Pos} {elt tg iter : Expr} {ifs : List Expr} {scope : Scope} {own : List (Str × Nat)} {pos spos : Pos} {t : DTC} {is : List Nat} {g : DTG} {tt : DTT} {te : DTE} (hc : X.calm = true) (hN : X.N.Nodup) (hy : X.N[i]? = some y) (hyl : X.env.scope.names.lookup y = some .local)
    (hsw : swapsWith (.ListComp elt [⟨tg, iter, ifs, 0⟩] scope pos) (some (.Name y py)) spos.line X.env = pure true) (hi : DC X tg iter t) (ok : BlkOk X.N X.env.scope scope own)
    (hg : ∀ (s : Shared) (H : Hp) (C : Addr) (cl : List (Str × Addr)) (fp : List Addr), DG (X.blk s H scope (compEnvC scope cl C X.env) fp) tg is g) (ht : ∀ (s : Shared) (H : Hp) (C : Addr) (cl : List (Str × Addr)) (fp : List Addr), PTsD (X.blk s H scope (compEnvC scope cl C X.env) fp) ifs tt)
    (he : ∀ (s : Shared) (H : Hp) (C : Addr) (cl : List (Str × Addr)) (fp : List Addr), DE (X.blk s H scope (compEnvC scope cl C X.env) fp) elt te) (hv : ∀ i ∈ is, i ∈ own.map (·.2) := by decide) (hs : ∀ x, foldedSetIterable iter X.env x = pure x := by intro _; rfl) :
    DS X (.Assign [.Name y py] (.ListComp elt [⟨tg, iter, ifs, 0⟩] scope pos) spos) (dSet i (dLc t g tt te (own.map (·.2)))) :=
  ps_imp (ps_setLc hc hN hy hyl hsw hi ok hg (fun s H C cl fp => (ht s H C cl fp).run) he hs) fun D σ H h => by
    have h := set_of h
    exact lc_of hv h
end
end DL
set_option Elab.async false
set_option linter.all false
set_option maxRecDepth 100000
set_option maxHeartbeats 4000000
namespace DL
open PySem L2

/-! ### room, and nothing under way -/
structure RoomG (k : Nat) (A : Around) : Prop where
  room : Room k A
  gd : A.guards = some []
theorem RoomG.mono {j k : Nat} {A : Around} (r : RoomG k A) (h : j ≤ k) : RoomG j A := ⟨r.room.mono h, r.gd⟩
theorem RoomG.deeper {k : Nat} {A : Around} (r : RoomG (k + 1) A) (env : Env) : RoomG k (A.deeper env) := ⟨r.room.deeper env, r.gd⟩
abbrev EN : XK := fun _ _ _ => False
structure FnG (P : Program) (w : World) (K : PySem.W.Frag) (mg : Str → Option Value) (base : Heap) (k : Nat) (f : Addr) (fd : FuncData) (ps : List Str) (sp : Sp) : Prop where
  len : ∀ vs H Q E, sp vs H Q E → vs.length = ps.length
  run : ∀ (A : Around) (outer : List Env) (s : Shared) (H : Hp) (args : Args) (us : List Value) (vs : List V) (Q : VK), RoomG k A → Env0 P w K mg base A outer s H → BindsTo s fd args (ps.zip us) → Vals vs us → sp vs H Q EN →
    codeAny (model P w) A (.call (.ref f) args) (CR CX0 outer P w H s Q EN) s
theorem FnG.mono {P : Program} {w : World} {K : PySem.W.Frag} {mg : Str → Option Value} {base : Heap} {j k : Nat} {f : Addr} {fd : FuncData} {ps : List Str} {sp : Sp} (F : FnG P w K mg base j f fd ps sp) (h : j ≤ k) : FnG P w K mg base k f fd ps sp :=
  ⟨F.len, fun A outer s H args us vs Q hr => F.run A outer s H args us vs Q (hr.mono h)⟩
section
variable {X : Cx} {k : Nat} {f : Addr} {fd : FuncData} {ps : List Str} {sp : Sp} {x : Str} {p pos : Pos} {e : Expr} {es : List Expr} {t : TA}
theorem run_g {pins : List (Addr × Obj)} {σ : L2.St} {H : Hp} {s : Shared} {Q : VK} {us : List Value} {vs : List V} (F : FnG X.prog X.w X.K X.mg X.base k f fd ps sp) (hr : RoomG k X.A) (hb : Binds X.K fd ps [])
    (I : Inv X pins σ H s) (r : Vals vs us) (h : sp vs H Q EN) : wpAny (model X.prog X.w) X.A (call (.ref f) us) (EP X pins σ Q) X.xe s := by
  have hl : (us ++ []).length = ps.length := by rw [List.append_nil, ← r.length]; exact F.len _ _ _ _ h
  have hb := hb s us I.kIn hl
  rw [List.append_nil] at hb
  refine wpAny_call (codeAny_mono (F.run X.A X.stack s H ⟨us, []⟩ us vs Q hr I.env0 hb r h) fun r s' hq => ?_)
  cases r with
  | error e => exact hq.elim
  | ok fl =>
    cases fl with
    | ret u => exact I.after hq
    | next => exact False.elim hq
    | brk => exact False.elim hq
    | cont => exact False.elim hq
theorem pe_callG (F : FnG X.prog X.w X.K X.mg X.base k f fd ps sp) (hr : RoomG k X.A) (hg : Gl X x) (hm : X.mg x = some (.ref f)) (hk : PySem.W.keepIn X.K (.ref f) = true) (hb : Binds X.K fd ps [])
    (ha : PA X (e :: es) t) (hdb : (x == ("__debug__" : Str)) = false := by decide) (he : starEach (e :: es) X.env = (false, eval e X.env) :: starEach es X.env := by rfl) (hpl : (backTo pos (starEach es X.env)).any (·.1) = false := by rfl) :
    PE X (.Call (.Name x p) (e :: es) [] pos) (fun σ H Q => t σ H fun vs H1 => sp vs H1 Q EN) := by
  refine ⟨fun pins s σ H Q I h => ?_⟩
  refine wpAny_Call_Name_kw (ld_glob I hg hm ?_ hdb)
  refine PySem.W.callWith_K (h₀ := X.base) I.ok.mod.kin hk (thn (ha.run pos pins s σ H _ I h) fun us s1 ⟨vs, H1, I1, r, q⟩ => ⟨I1.kIn, ?_⟩) he hpl
  exact run_g F hr hb I1 r q
end
section
variable {P : Program} {w : World} {K : PySem.W.Frag} {mg : Str → Option Value} {base : Heap}
theorem fn_g {x qual : Str} {st : Stmt} {f : Addr} {fd : FuncData} {N ps : List Str} {k : Nat} {sp : Sp} (Fn : Fun K x qual st f fd) (S : FnScope N ps (defScope st)) (len : ∀ vs H Q E, sp vs H Q E → vs.length = ps.length)
    (hbody : ∀ (cdv : Value) (A : Around) (outer : List Env) (s : Shared) (H : Hp) (vs : List V) (Q : VK), RoomG k (A.deeper (PyProof.Rows.envOfC qual (defScope st) s.heap.objs.size f cdv)) → sp vs H Q EN →
      ∃ t, PSs (cxOf CX0 P w K mg base N qual (defScope st) f cdv A outer s H EN).nox (defBody st) t ∧ t { nx := fun _ H' => Q .non H', rt := Q } (L2.start N vs) H) : FnG P w K mg base (k + 1) f fd ps sp := by
  obtain ⟨oc, od, kV, doc, pm, an, cdv, ct, osl, rfl, lk, hcd⟩ := Fn.ex
  refine ⟨len, fun A outer s H args us vs Q hr e0 hb r hsp => ?_⟩
  have hl := len _ _ _ _ hsp
  have KX : K.In s.heap := e0.mod.kin.keeps fun b o e => (e0.bs b o e).1
  have lim : s.heap.NoLimit := e0.mod.nolimit.keeps fun b o e => (e0.bs b o e).1
  have hkind : ∀ y ∈ ps.zip us, (defScope st).names.lookup y.1 = some .local ∨ ((defScope st).names.lookup y.1 = some .cell ∧ ((cellsFrom (s.heap.objs.size + 1) (defScope st).names []).lookup y.1).isSome = true) := fun ⟨n, v⟩ hy => by
    rcases S.par n (List.of_mem_zip hy).1 with q | q
    · exact .inl q
    · exact .inr ⟨q, PySem.W.cellsFrom_some _ _ _ (.inl q)⟩
  refine PySem.codeAny_call_function hr.room.depth (KX _ _ lk) rfl S.co S.gen rfl (PySem.W.codeRec_of KX hcd) (hb _ _ _ _ ?_)
  refine PySem.wpAny_newFunctionEnv_cells S.kind hkind fun env he s1 x => ?_
  subst he
  refine ⟨lim.keeps x.toInCall.keep, codeAny_func ?_⟩
  obtain ⟨t, ht, hq⟩ := hbody cdv A outer s H vs Q (hr.deeper _) hsp
  have I : Inv (cxOf CX0 P w K mg base N qual (defScope st) f cdv A outer s H EN) [] (L2.start N vs) H s1 := inv_start S hr.room.hd e0 hl r x
  refine wpAny_mono (ht.nox.run [] s1 (L2.start N vs) H _ I hq) (fun fl s' hs => ?_) fun e s' hs => hs
  have fin : ∀ {σ' : L2.St} {H' : Hp} {v : V} {u : Value}, Inv (cxOf CX0 P w K mg base N qual (defScope st) f cdv A outer s H EN) [] σ' H' s' → RelV v u → Q v H' → CE outer P w H s Q u s' :=
    fun {σ' H' v u} J rv q => ⟨v, H', J.os, J.bare, J.base, J.hok, rv, q⟩
  cases fl with
  | ret u =>
    obtain ⟨v, σ', H', J, rv, q⟩ := hs
    exact fin J rv q
  | next =>
    obtain ⟨σ', H', J, q⟩ := hs
    exact fin (v := V.non) (u := Value.none) J rfl q
  | brk =>
    obtain ⟨_, _, _, q⟩ := hs
    exact False.elim q
  | cont =>
    obtain ⟨_, _, _, q⟩ := hs
    exact False.elim q
end

/-! ### what a def promises, over data -/
inductive Arg where
  | dat (d : D)
  | bor (xs : List D)
  | io (xs : List D)
abbrev DSp := List Arg → (EV → List D → Prop) → Prop
def isIo : Arg → Prop
  | .io _ => True
  | _ => False
def IoA (as : List Arg) (vs : List V) (a : Addr) : Prop := ∃ xs, as.head? = some (.io xs) ∧ vs.head? = some (.ref a)
def ArgR (K : PySem.W.Frag) (F H : Hp) (as : List Arg) (vs : List V) : Arg → V → Prop
  | .dat d, v => Dq K F v d
  | .bor xs, v => ∃ a ws, v = .ref a ∧ DqAll K F ws xs ∧ (SqL K F a ws ∨ (H a = some (.lst ws) ∧ ¬ IoA as vs a))
  | .io xs, v => ∃ a ws, v = .ref a ∧ H a = some (.lst ws) ∧ F a = none ∧ DqAll K F ws xs
def toSp (K : PySem.W.Frag) (S : DSp) : Sp := fun vs H Q _ => ∃ (F : Hp) (as : List Arg) (q : EV → List D → Prop), Same F H ∧ Paired (ArgR K F H as vs) as vs ∧ (∀ a ∈ as.tail, ¬ isIo a) ∧ S as q ∧
  ∀ F' H' r v ys, Same F F' → Same F' H' → (∀ a o, H a = some o → ¬ IoA as vs a → H' a = some o) → (∀ a, H a ≠ none → H' a ≠ none) → (∀ a, F a = none → H a ≠ none → F' a = none) →
    (∀ a, IoA as vs a → ∃ ws, H' a = some (.lst ws) ∧ DqAll K F' ws ys) → NewR K F' H H' r v → q r ys → Q v H'
def argDV : Arg → DV
  | .dat d => .dat d
  | .bor xs => .bor xs
  | .io xs => .io xs
def startD (n : Nat) (as : List Arg) : DSt := as.map argDV ++ List.replicate (n - as.length) .emp
def retW (τ : DSt) (ev : EV) (k : EV → Prop) : Prop := match ev with
  | .dat d => k (.dat d)
  | .tmp xs => k (.tmp xs)
  | .slot i => match τ[i]? with
    | some (.own xs) => k (.tmp xs)
    | some (.dat d) => k (.dat d)
    | _ => False
def ioK (as : List Arg) (τ : DSt) (k : List D → Prop) : Prop := match as with
  | .io _ :: _ => match τ[(0 : Nat)]? with
    | some (DV.io ys) => k ys
    | _ => False
  | _ => k []
def endsD (as : List Arg) (q : EV → List D → Prop) : DEnds where
  nx := fun τ => ioK as τ fun ys => q (.dat .none) ys
  rt := fun ev τ => retW τ ev fun r => ioK as τ fun ys => q r ys

section
variable {K : PySem.W.Frag} {F H : Hp}
theorem paired_ix {α β : Type} {G : α → β → Prop} : ∀ {l : List α} {m : List β}, Paired G l m → ∀ {i : Nat} {a : α}, l[i]? = some a → ∃ b, m[i]? = some b ∧ G a b
  | _, _, .nil, i, a, e => by simp at e
  | _, _, .cons (b := b) h _, 0, a, e => by
    simp at e
    subst e
    exact ⟨b, rfl, h⟩
  | _, _, .cons _ t, i + 1, a, e => by
    obtain ⟨b, h1, h2⟩ := paired_ix t (i := i) (a := a) (by simpa using e)
    exact ⟨b, by simpa using h1, h2⟩
theorem start_get {N : List Str} {vs : List V} {i : Nat} {v : V} (h : vs[i]? = some v) : (L2.start N vs)[i]? = some (some v) := by
  unfold L2.start
  have hi := (List.getElem?_eq_some_iff.mp h).1
  rw [List.getElem?_append_left (by simpa using hi), List.getElem?_map, h]
  rfl
theorem startD_get {n : Nat} {as : List Arg} {i : Nat} {d : DV} (h : (startD n as)[i]? = some d) : (∃ a, as[i]? = some a ∧ d = argDV a) ∨ d = .emp := by
  unfold startD at h
  by_cases hi : i < as.length
  · rw [List.getElem?_append_left (by simpa using hi), List.getElem?_map] at h
    cases e : as[i]? with
    | none => rw [e] at h; cases h
    | some a => rw [e] at h; cases h; exact .inl ⟨a, rfl, rfl⟩
  · rw [List.getElem?_append_right (by simpa using hi), List.getElem?_replicate] at h
    split at h
    · cases h; exact .inr rfl
    · cases h
theorem start_R {N : List Str} {as : List Arg} {vs : List V} (s : Same F H) (p : Paired (ArgR K F H as vs) as vs) (ht : ∀ a ∈ as.tail, ¬ isIo a) : R K ⟨H, F, IoA as vs⟩ F (startD N.length as) (L2.start N vs) H := by
  have hl : as.length = vs.length := Paired.length p
  have head : ∀ {i : Nat} {xs : List D}, as[i]? = some (.io xs) → i = 0 := fun {i xs} h => by
    cases i with
    | zero => rfl
    | succ i =>
      cases as with
      | nil => simp at h
      | cons a r => exact absurd (show isIo (.io xs) from trivial) (ht _ (List.mem_of_getElem? (i := i) (by simpa using h)))
  have lst : ∀ {i : Nat}, Lst (startD N.length as)[i]? → ∃ xs, as[i]? = some (.io xs) := fun {i} ⟨xs, h⟩ => by
    rcases h with h | h
    · rcases startD_get h with ⟨a, e, z⟩ | z
      · cases a <;> cases z
      · cases z
    · rcases startD_get h with ⟨a, e, z⟩ | z
      · cases a with
        | io ys => exact ⟨ys, e⟩
        | _ => cases z
      · cases z
  refine ⟨s, Same.refl _, by unfold startD L2.start; simp [hl], fun i d hd => ?_, fun i j a _ _ h3 h4 => ?_, fun a o h _ => h, fun a h => h, fun a h => .inl h, fun a ⟨xs, h1, h2⟩ => ?_⟩
  · rcases startD_get hd with ⟨a, e, rfl⟩ | rfl
    · obtain ⟨v, hv, ha⟩ := paired_ix p e
      rw [start_get hv]
      cases a with
      | dat d => exact ⟨v, rfl, ha⟩
      | bor xs =>
        obtain ⟨b, ws, rfl, h1, h2⟩ := ha
        exact ⟨b, ws, rfl, h1, h2⟩
      | io xs =>
        obtain ⟨b, ws, rfl, h1, h2, h3⟩ := ha
        have z := head e
        subst z
        exact ⟨b, ws, rfl, h1, h2, ⟨xs, by rw [List.head?_eq_getElem?]; exact e, by rw [List.head?_eq_getElem?]; exact hv⟩, h3⟩
    · trivial
  · obtain ⟨xs, h3⟩ := lst h3
    obtain ⟨ys, h4⟩ := lst h4
    rw [head h3, head h4]
  · obtain ⟨v, hv, ha⟩ := paired_ix p (i := 0) (by rw [← List.head?_eq_getElem?]; exact h1)
    rw [List.head?_eq_getElem?, hv] at h2
    cases h2
    obtain ⟨b, ws, e, q1, q2, _⟩ := ha
    cases e
    exact ⟨q2, some_ne q1⟩
end

section
variable {P : Program} {w : World} {K : PySem.W.Frag} {mg : Str → Option Value} {base : Heap}
theorem fn_d {x qual : Str} {st : Stmt} {f : Addr} {fd : FuncData} {N ps : List Str} {k : Nat} (Fn : Fun K x qual st f fd) (S : FnScope N ps (defScope st)) (sp : DSp) (len : ∀ as q, sp as q → as.length = ps.length) (t : DTS)
    (hd : ∀ (cdv : Value) (A : Around) (outer : List Env) (s : Shared) (H : Hp), RoomG k (A.deeper (PyProof.Rows.envOfC qual (defScope st) s.heap.objs.size f cdv)) →
      DSs (cxOf CX0 P w K mg base N qual (defScope st) f cdv A outer s H EN).nox (defBody st) t)
    (hb : ∀ as q, sp as q → t (endsD as q) (startD N.length as)) : FnG P w K mg base (k + 1) f fd ps (toSp K sp) := by
  refine fn_g Fn S (fun vs H Q E h => ?_) (fun cdv A outer s H vs Q hr h => ?_)
  · obtain ⟨F, as, q, h1, h2, h3, h4, _⟩ := h
    rw [← Paired.length h2]
    exact len as q h4
  · obtain ⟨F, as, q, h1, h2, h3, h4, h5⟩ := h
    refine ⟨_, hd cdv A outer s H hr, ?_⟩
    refine ⟨⟨H, F, IoA as vs⟩, F, _, endsD as q, start_R h1 h2 h3, hb as q h4, ?_⟩
    -- how it ends
    have io : ∀ {F' H' : Hp} {τ : DSt} {σ : L2.St} {k : List D → Prop}, R K ⟨H, F, IoA as vs⟩ F' τ σ H' → ioK as τ k → ∃ ys, k ys ∧ ∀ a, IoA as vs a → ∃ ws, H' a = some (.lst ws) ∧ DqAll K F' ws ys := fun {F' H' τ σ k} r h => by
      match as, r, h with
      | .io xs :: as, r, h =>
        have h : (match τ[(0 : Nat)]? with | some (DV.io ys) => k ys | _ => False) := h
        cases e : τ[(0 : Nat)]? with
        | none => rw [e] at h; exact h.elim
        | some d =>
          rw [e] at h
          cases d with
          | io ys =>
            have sl := r.slot 0 _ e
            obtain ⟨a, ws, _, q1, _, q3, q4⟩ := sl
            refine ⟨ys, h, fun b hb => ?_⟩
            obtain ⟨_, _, z1⟩ := q3
            obtain ⟨_, _, z2⟩ := hb
            rw [z1] at z2
            cases z2
            exact ⟨ws, q1, q4⟩
          | _ => exact h.elim
      | [], r, h => exact ⟨[], h, fun a ⟨_, z, _⟩ => by cases z⟩
      | .dat d :: as, r, h => exact ⟨[], h, fun a ⟨_, z, _⟩ => by cases z⟩
      | .bor d :: as, r, h => exact ⟨[], h, fun a ⟨_, z, _⟩ => by cases z⟩
    have nw : ∀ {F' H' : Hp} {τ : DSt} {σ : L2.St}, R K ⟨H, F, IoA as vs⟩ F' τ σ H' → ∀ a, F a = none → H a ≠ none → F' a = none := fun {F' H' τ σ} r a x1 x2 => none_of fun z => by
      rcases r.froz a z with y | y
      · exact y x1
      · exact x2 y
    refine ⟨fun F' τ σ H' r h => ?_, fun F' τ σ H' ev v r e h => ?_, fun F' τ σ H' r h => h.elim, fun F' τ σ H' r h => h.elim⟩
    · obtain ⟨ys, hq, hi⟩ := io r h
      exact h5 F' H' (.dat .none) .non ys r.f0 r.sub r.frame r.dom (nw r) hi .non hq
    · have h : retW τ ev fun r => ioK as τ fun ys => q r ys := h
      have : ∃ rv, NewR K F' H H' rv v ∧ ioK as τ fun ys => q rv ys := by
        match ev, e, h with
        | .dat d, e, h => exact ⟨.dat d, e, h⟩
        | .tmp xs, e, h =>
          obtain ⟨a, ws, e0, q1, q2, q3, q4, q5, q6⟩ := e
          exact ⟨.tmp xs, ⟨a, ws, e0, q1, q2, q3, q6⟩, h⟩
        | .slot i, e, h =>
          have h : (match τ[i]? with | some (.own xs) => ioK as τ fun ys => q (.tmp xs) ys | some (.dat d) => ioK as τ fun ys => q (.dat d) ys | _ => False) := h
          obtain ⟨e1, d, e2, e3⟩ := e
          rw [e2] at h
          have sl := r.slot i d e2
          cases d with
          | own xs =>
            obtain ⟨a, ws, e0, q1, q2, q3, q4⟩ := sl
            rw [e1] at e0
            cases e0
            exact ⟨.tmp xs, ⟨a, ws, rfl, q1, q2, q3, q4⟩, h⟩
          | dat d =>
            obtain ⟨y, e0, q1⟩ := sl
            rw [e1] at e0
            cases e0
            exact ⟨.dat d, q1, h⟩
          | _ => exact h.elim
      obtain ⟨rv, n, h⟩ := this
      obtain ⟨ys, hq, hi⟩ := io r h
      exact h5 F' H' rv v ys r.f0 r.sub r.frame r.dom (nw r) hi n hq
end

/-! ### calls -/
def listW : D → (List D → Prop) → Prop
  | .list xs, k => k xs
  | _, _ => False
/-- how values go to parameters: true: only read -/
def passW : List Bool → List EV → DSt → (List Arg → DSt → Prop) → Prop
  | [], [], τ, q => q [] τ
  | false :: ms, e :: es, τ, q => frz τ e fun d τ1 => passW ms es τ1 fun as τ2 => q (.dat d :: as) τ2
  | true :: ms, e :: es, τ, q => listW (val τ e) fun xs => passW ms es τ fun as τ2 => q (.bor xs :: as) τ2
  | _, _, _, _ => False
def noB : List Bool → List EV → Nat → Bool
  | true :: ms, .slot j :: es, i => (j != i) && noB ms es i
  | _ :: ms, _ :: es, i => noB ms es i
  | _, _, _ => true
section
variable {K : PySem.W.Frag} {Z : Fz} {H Fb Hb : Hp} {τb : DSt} {σ : L2.St}
def PassR (K : PySem.W.Frag) (F H : Hp) (σ : L2.St) (i0 : Nat) (τ' : DSt) : Arg → V → Prop
  | .dat d, v => Dq K F v d
  | .bor xs, v => ∃ a ws, v = .ref a ∧ DqAll K F ws xs ∧ (SqL K F a ws ∨ (H a = some (.lst ws) ∧ (Lst τ'[i0]? → σ[i0]? ≠ some (some (.ref a)))))
  | .io _, _ => False
theorem PassR.mono {F F' : Hp} {i0 : Nat} {τ' τ'' : DSt} (s : Same F F') (l : Lst τ''[i0]? → Lst τ'[i0]?) : ∀ {a : Arg} {v : V}, PassR K F H σ i0 τ' a v → PassR K F' H σ i0 τ'' a v
  | .dat d, v, h => dp_mono s d v h
  | .bor xs, v, ⟨a, ws, e, h1, h2⟩ => ⟨a, ws, e, dpAll_mono s _ _ h1, h2.imp (fun z => s.seq z) fun ⟨z1, z2⟩ => ⟨z1, fun z => z2 (l z)⟩⟩
  | .io _, _, h => h.elim
theorem pass_ok (i0 : Nat) : ∀ {ws : List (EV × V)} {ms : List Bool} {F : Hp} {τ : DSt} {q : List Arg → DSt → Prop}, R K Z F τ σ H → Gr Fb Hb τb σ F H τ → EVs K Z Hb F H τ σ ws → noB ms (ws.map (·.1)) i0 = true → passW ms (ws.map (·.1)) τ q →
    ∃ F' τ' as, R K Z F' τ' σ H ∧ Gr Fb Hb τb σ F' H τ' ∧ Paired (PassR K F' H σ i0 τ') as (ws.map (·.2)) ∧ q as τ' ∧ Same F F' ∧ (∀ i : Nat, Lst τ'[i]? → Lst τ[i]?)
  | [], [], F, τ, q, r, g, _, _, h => ⟨F, τ, [], r, g, .nil, h, Same.refl _, fun _ h => h⟩
  | [], false :: _, F, τ, q, r, g, _, _, h => (show False from h).elim
  | [], true :: _, F, τ, q, r, g, _, _, h => (show False from h).elim
  | _ :: _, [], F, τ, q, r, g, _, _, h => (show False from h).elim
  | (e, v) :: ws, false :: ms, F, τ, q, r, g, ev, nb, h => by
    have h : frz τ e fun d τ1 => passW ms (ws.map (·.1)) τ1 fun as τ2 => q (.dat d :: as) τ2 := h
    have nb : noB ms (ws.map (·.1)) i0 = true := by
      cases e <;> exact nb
    obtain ⟨F1, τ1, d, r1, g1, s1, p1, h1, lv1, l1, nw1⟩ := frz_ok r g (ev.1 _ List.mem_cons_self) h
    have pw := List.pairwise_cons.mp ev.2
    have ev1 : EVs K Z Hb F1 H τ1 σ ws := ⟨fun p hp => evr_frz (ev.1 p (List.mem_cons_of_mem _ hp)) s1 lv1 l1 nw1 (pw.1 p hp), pw.2⟩
    obtain ⟨F2, τ2, as, r2, g2, p2, h2, s2, l2⟩ := pass_ok i0 r1 g1 ev1 nb h1
    exact ⟨F2, τ2, .dat d :: as, r2, g2, .cons (dp_mono s2 _ _ p1) p2, h2, s1.trans s2, fun i x => l1 i (l2 i x)⟩
  | (e, v) :: ws, true :: ms, F, τ, q, r, g, ev, nb, h => by
    have h : listW (val τ e) fun xs => passW ms (ws.map (·.1)) τ fun as τ2 => q (.bor xs :: as) τ2 := h
    have pw := List.pairwise_cons.mp ev.2
    have ev0 := ev.1 _ List.mem_cons_self
    have ev1 : EVs K Z Hb F H τ σ ws := ⟨fun p hp => ev.1 p (List.mem_cons_of_mem _ hp), pw.2⟩
    obtain ⟨nb0, nb1⟩ : (∀ j, e = .slot j → j ≠ i0) ∧ noB ms (ws.map (·.1)) i0 = true := by
      cases e with
      | dat d => exact ⟨fun j z => (nomatch z), nb⟩
      | tmp d => exact ⟨fun j z => (nomatch z), nb⟩
      | slot j =>
        have nb : ((j != i0) && noB ms (ws.map (·.1)) i0) = true := nb
        rw [Bool.and_eq_true] at nb
        exact ⟨fun k z => by cases z; simpa using nb.1, nb.2⟩
    obtain ⟨xs, ex, h⟩ : ∃ xs, val τ e = .list xs ∧ passW ms (ws.map (·.1)) τ fun as τ2 => q (.bor xs :: as) τ2 := by
      revert h
      cases val τ e with
      | list xs => exact fun h => ⟨xs, rfl, h⟩
      | _ => exact fun h => (show False from h).elim
    have P : PassR K F H σ i0 τ (.bor xs) v := by
      have V := r.val ev0
      rw [ex] at V
      cases e with
      | dat d =>
        have ex : d = .list xs := ex
        subst ex
        have ev0 : Dq K F v (.list xs) := ev0
        cases ev0 with
        | lst h1 h2 => exact ⟨_, _, rfl, h2, .inl h1⟩
      | tmp ys =>
        obtain ⟨a, us, e0, q1, q2, q3, q4, q5, q6⟩ := ev0
        have ex : PyData.list ys = .list xs := ex
        cases ex
        exact ⟨a, us, e0, q6, .inr ⟨q1, fun l z => q5 ⟨i0, z, l⟩⟩⟩
      | slot j =>
        have ne := nb0 j rfl
        obtain ⟨e1, d, e2, e3⟩ := ev0
        have sl := r.slot j d e2
        have ex : dvD τ[j]? = .list xs := ex
        rw [e2] at ex
        cases d with
        | emp => exact absurd rfl e3
        | dat d =>
          have ex : d = .list xs := ex
          subst ex
          obtain ⟨x, e0, p⟩ := sl
          rw [e1] at e0
          cases e0
          cases p with
          | lst h1 h2 => exact ⟨_, _, rfl, h2, .inl h1⟩
        | own ys =>
          have ex : PyData.list ys = .list xs := ex
          cases ex
          obtain ⟨a, us, e0, q1, q2, q3, q4⟩ := sl
          rw [e1] at e0
          cases e0
          exact ⟨a, us, rfl, q4, .inr ⟨q1, fun l z => ne (r.apart j i0 a e1 z ⟨xs, by rw [e2]; exact .inl rfl⟩ l)⟩⟩
        | io ys =>
          have ex : PyData.list ys = .list xs := ex
          cases ex
          obtain ⟨a, us, e0, q1, q2, q3, q4⟩ := sl
          rw [e1] at e0
          cases e0
          exact ⟨a, us, rfl, q4, .inr ⟨q1, fun l z => ne (r.apart j i0 a e1 z ⟨xs, by rw [e2]; exact .inr rfl⟩ l)⟩⟩
        | bor ys =>
          have ex : PyData.list ys = .list xs := ex
          cases ex
          obtain ⟨a, us, e0, q1, q2⟩ := sl
          rw [e1] at e0
          cases e0
          refine ⟨a, us, rfl, q1, ?_⟩
          rcases q2 with q2 | ⟨q2, q3⟩
          · exact .inl q2
          · refine .inr ⟨r.frame _ _ q2 q3, fun l z => ?_⟩
            obtain ⟨zs, l⟩ := l
            rcases l with l | l
            · obtain ⟨b, _, y0, _, _, y3, _⟩ := r.slot i0 _ l
              rw [z] at y0; cases y0
              rw [q2] at y3; cases y3
            · obtain ⟨b, _, y0, _, _, y3, _⟩ := r.slot i0 _ l
              rw [z] at y0; cases y0
              exact q3 y3
    obtain ⟨F2, τ2, as, r2, g2, p2, h2, s2, l2⟩ := pass_ok i0 r g ev1 nb1 h
    exact ⟨F2, τ2, .bor xs :: as, r2, g2, .cons (P.mono s2 (l2 i0)) p2, h2, s2, l2⟩
end

theorem pass_noio {K : PySem.W.Frag} {F H : Hp} {σ : L2.St} {i0 : Nat} {τ' : DSt} : ∀ {as : List Arg} {vs : List V}, Paired (PassR K F H σ i0 τ') as vs → ∀ a ∈ as, ¬ isIo a
  | _, _, .nil, a, z, _ => nomatch z
  | .dat d :: _, _, .cons h t, a, hb, y => by
    rcases List.mem_cons.mp hb with rfl | hb
    · exact y
    · exact pass_noio t a hb y
  | .bor d :: _, _, .cons h t, a, hb, y => by
    rcases List.mem_cons.mp hb with rfl | hb
    · exact y
    · exact pass_noio t a hb y
  | .io d :: _, _, .cons h t, a, hb, y => h.elim

section
variable {X : Cx} {k : Nat} {f : Addr} {fd : FuncData} {ps : List Str} {S : DSp} {x : Str} {p pos : Pos} {e : Expr} {es : List Expr} {ta : DTA}
/-- a call whose list arguments are at most read -/
def dCall (ms : List Bool) (S : DSp) (t : DTA) : DTE := fun τ q => t τ fun es τ1 => passW ms es τ1 fun as τ2 => S as fun r _ => q r τ2
theorem de_call {ms : List Bool} (F : FnG X.prog X.w X.K X.mg X.base k f fd ps (toSp X.K S)) (hr : RoomG k X.A) (hg : Gl X x) (hm : X.mg x = some (.ref f)) (hk : PySem.W.keepIn X.K (.ref f) = true) (hb : Binds X.K fd ps [])
    (ha : DA X (e :: es) ta) (hdb : (x == ("__debug__" : Str)) = false := by decide) (he : starEach (e :: es) X.env = (false, eval e X.env) :: starEach es X.env := by rfl) (hpl : (backTo pos (starEach es X.env)).any (·.1) = false := by rfl) :
    DE X (.Call (.Name x p) (e :: es) [] pos) (dCall ms S ta) := by
  refine pe_imp (pe_callG F hr hg hm hk hb ha hdb he hpl) fun σ H Q ⟨Z, F, τ, q, r, ht, k⟩ => ?_
  refine ⟨Z, F, τ, _, r, ht, fun F1 τ1 H1 ws r1 g1 e1 h1 => ?_⟩
  have nb : ∀ {ms : List Bool} {ws : List (EV × V)}, (∀ p ∈ ws, EVR X.K Z H F1 H1 τ1 σ p.1 p.2) → noB ms (ws.map (·.1)) σ.length = true := fun {ms ws} => by
    induction ws generalizing ms with
    | nil => intro _; cases ms with
      | nil => rfl
      | cons b ms => cases b <;> rfl
    | cons w ws ih =>
      intro h
      cases ms with
      | nil => rfl
      | cons b ms =>
        have ih := ih (ms := ms) fun p hp => h p (List.mem_cons_of_mem _ hp)
        obtain ⟨ev, v⟩ := w
        cases b with
        | false => cases ev <;> exact ih
        | true =>
          cases ev with
          | slot j =>
            show ((j != σ.length) && noB ms (ws.map (·.1)) σ.length) = true
            have z := (h _ List.mem_cons_self).1
            have : j < σ.length := (List.getElem?_eq_some_iff.mp z).1
            rw [ih, Bool.and_true]
            simp
            omega
          | _ => exact ih
  obtain ⟨F2, τ2, as, r2, g2, p2, h2, s2, l2⟩ := pass_ok σ.length r1 g1 e1 (nb e1.1) h1
  have noio := @pass_noio X.K F2 H1 σ σ.length τ2
  have nIo : ∀ {vs : List V} a, ¬ IoA as vs a := fun {vs} a ⟨xs, z, _⟩ => noio p2 (.io xs) (by
    rw [List.head?_eq_getElem?] at z
    exact List.mem_of_getElem? z) trivial
  refine ⟨F2, as, _, r2.sub, ?_, fun a ha => noio p2 a (List.mem_of_mem_tail ha), h2, fun F' H' rv v ys s1 s2 s3 _ n _ nr hq => ?_⟩
  · refine L2.Paired.mapP p2 fun a b h => ?_
    cases a with
    | dat d => exact h
    | io xs => exact h.elim
    | bor xs =>
      obtain ⟨a, ws, e, h1, h2⟩ := h
      exact ⟨a, ws, e, h1, h2.imp id fun z => ⟨z.1, nIo a⟩⟩
  · obtain ⟨r3, g3, e3⟩ := bridge r2 g2 s1 s2 (fun a o h => s3 a o h (nIo a)) (fun a z1 z2 => none_of fun z3 => z2 (n a z1 z3)) nr
    exact k F' τ2 H' rv v r3 g3 e3 hq
/-- a call whose first argument is a name's list, changed in place -/
def dCallIo (i : Nat) (ms : List Bool) (S : DSp) (t : DTA) : DTE := fun τ q => lstW τ[i]? fun _ _ => t τ fun es τ1 => match es with
  | .slot j :: es => j = i ∧ noB ms es i = true ∧ passW ms es τ1 fun as τ2 => lstW τ2[i]? fun mk xs => S (.io xs :: as) fun r ys => q r (τ2.set i (mk ys))
  | _ => False
theorem de_callIo {i : Nat} {ms : List Bool} (F : FnG X.prog X.w X.K X.mg X.base k f fd ps (toSp X.K S)) (hr : RoomG k X.A) (hg : Gl X x) (hm : X.mg x = some (.ref f)) (hk : PySem.W.keepIn X.K (.ref f) = true) (hb : Binds X.K fd ps [])
    (ha : DA X (e :: es) ta) (hdb : (x == ("__debug__" : Str)) = false := by decide) (he : starEach (e :: es) X.env = (false, eval e X.env) :: starEach es X.env := by rfl) (hpl : (backTo pos (starEach es X.env)).any (·.1) = false := by rfl) :
    DE X (.Call (.Name x p) (e :: es) [] pos) (dCallIo i ms S ta) := by
  refine pe_imp (pe_callG F hr hg hm hk hb ha hdb he hpl) fun σ H Q ⟨Z, F, τ, q, r, ht, k⟩ => ?_
  obtain ⟨_, _, _, _, ht⟩ := lstW_of ht
  refine ⟨Z, F, τ, _, r, ht, fun F1 τ1 H1 ws r1 g1 e1 h1 => ?_⟩
  match ws, e1, h1 with
  | (.slot j, v0) :: ws, e1, h1 =>
    obtain ⟨ej, nb, h1⟩ := h1
    subst ej
    have pw := List.pairwise_cons.mp e1.2
    obtain ⟨F2, τ2, as, r2, g2, p2, h2, s2, l2⟩ := pass_ok j r1 g1 ⟨fun p hp => e1.1 p (List.mem_cons_of_mem _ hp), pw.2⟩ nb h1
    obtain ⟨mk, xs, hm, ho, h2⟩ := lstW_of h2
    obtain ⟨a, us, q0, q1, q2, q3⟩ := slot_lst r2 hm ho
    have z := (e1.1 _ List.mem_cons_self).1
    have z : σ[j]? = some (some v0) := z
    rw [q0] at z
    cases z
    have lj : Lst τ2[j]? := by rw [ho]; exact lst_mk hm
    have ioa : ∀ {b : Addr}, IoA (.io xs :: as) (.ref a :: ws.map (·.2)) b ↔ b = a := fun {b} => ⟨fun ⟨_, _, z⟩ => by cases z; rfl, fun z => ⟨xs, rfl, by rw [z]; rfl⟩⟩
    have noio := @pass_noio X.K F2 H1 σ j τ2
    refine ⟨F2, .io xs :: as, _, r2.sub, .cons ⟨a, us, rfl, q1, q2, q3⟩ ?_, noio p2, h2, fun F' H' rv v ys s1 s2 s3 dm n io nr hq => ?_⟩
    · refine L2.Paired.mapP p2 fun b c h => ?_
      cases b with
      | dat d => exact h
      | io xs => exact h.elim
      | bor zs =>
        obtain ⟨b, ws', e, h1, h2⟩ := h
        refine ⟨b, ws', e, h1, h2.imp id fun z => ⟨z.1, fun y => ?_⟩⟩
        obtain ⟨_, _, y⟩ := y
        cases y
        exact z.2 lj q0
    · obtain ⟨wsn, w1, w2⟩ := io a (ioa.mpr rfl)
      have fa : F' a = none := n a q2 (some_ne q1)
      -- first all but the list, then the list
      have t1 : Same F' (upd H' a (.lst us)) := fun b o hb => by rw [upd_ne (ne_of_none hb fa)]; exact s2 _ _ hb
      have t2 : Same H1 (upd H' a (.lst us)) := fun b o hb => by
        by_cases z : b = a
        · subst z; rw [upd_same, ← hb, q1]
        · rw [upd_ne z]; exact s3 b o hb fun y => z (ioa.mp y)
      have t3 : ∀ b, F2 b = none → F' b ≠ none → H1 b = none := fun b z1 z2 => none_of fun z3 => z2 (n b z1 z3)
      have r3 := r2.more s1 t1 t2 t3
      have g3 := g2.trans (Gr.more (τ := τ2) (σ := σ) s1 t2 t3)
      obtain ⟨r4, g4⟩ := r3.write hm ho q0 w2
      have eH : upd (upd H' a (.lst us)) a (.lst wsn) = H' := by
        rw [upd_upd]
        funext b
        by_cases z : b = a
        · subst z; rw [upd_same, w1]
        · rw [upd_ne z]
      rw [eH] at r4 g4
      refine k F' _ H' rv v r4 (g3.trans g4) ?_ hq
      cases rv with
      | slot i => exact nr.elim
      | dat d => exact nr
      | tmp zs =>
        obtain ⟨b, bs, e, b1, b2, b3, b4⟩ := nr
        refine ⟨b, bs, e, b1, b2, none_of fun z => r2.dom b z b3, none_of fun z => g2.dom b z b3, fun z => ?_, b4⟩
        have z := (g3.trans g4).own b z
        have z : Own τ σ b := z
        obtain ⟨_, z, _⟩ := own_some r z
        exact g2.dom b (some_ne z) b3
end
end DL
set_option Elab.async false
set_option linter.all false
set_option maxRecDepth 100000
set_option maxHeartbeats 4000000
namespace DL
open PySem L2

theorem OpR.imp {X : Cx} {f : Value → Value → Sem Value} {r r' : R2} (h : OpR X f r) (i : ∀ x y H Q, r' x y H Q → r x y H Q) : OpR X f r' :=
  fun pins s σ H x y v u Q I rx ry q => h pins s σ H x y v u Q I rx ry (i x y H Q q)
theorem CallR.imp {X : Cx} {f : Value} {r r' : List V → Hp → VK → Prop} (h : CallR X f r) (i : ∀ xs H Q, r' xs H Q → r xs H Q) : CallR X f r' :=
  fun pins s σ H xs us Q I rx q => h pins s σ H xs us Q I rx (i xs H Q q)
theorem UnR.imp {X : Cx} {f : Value → Sem Value} {r r' : V → Hp → VK → Prop} (h : UnR X f r) (i : ∀ x H Q, r' x H Q → r x H Q) : UnR X f r' :=
  fun pins s σ H x v Q I rx q => h pins s σ H x v Q I rx (i x H Q q)
theorem IxR.imp {X : Cx} {r r' : R2} (h : IxR X r) (i : ∀ x y H Q, r' x y H Q → r x y H Q) : IxR X r' :=
  fun value slice pins s σ H x y v u Q I rx ry q hs => h value slice pins s σ H x y v u Q I rx ry (i x y H Q q) hs
theorem SlR.imp {X : Cx} {r r' : V → Option Int → Option Int → Hp → VK → Prop} (h : SlR X r) (i : ∀ x l u H Q, r' x l u H Q → r x l u H Q) : SlR X r' :=
  fun pins s σ H x v vl vu lo hi sl Q I rx hs pl pu q => h pins s σ H x v vl vu lo hi sl Q I rx hs pl pu (i x lo hi H Q q)

/-! ### numbers and sequences -/
def strCat (x y : Str) : Str := x ++ y
def addB : B2 := fun a b q => match a, b with
  | .int i, .int j => q (.dat (.int (i + j)))
  | .str x, .str y => x.length + y.length ≤ sizeLine ∧ q (.dat (.str (strCat x y)))
  | .tuple xs, .tuple ys => xs.length + ys.length ≤ sizeLine ∧ q (.dat (.tuple (xs ++ ys)))
  | .list xs, .list ys => xs.length + ys.length ≤ sizeLine ∧ q (.tmp (xs ++ ys))
  | _, _ => False
def subB : B2 := fun a b q => match a, b with
  | .int i, .int j => q (.dat (.int (i - j)))
  | _, _ => False
def mulOk (i j : Int) : Prop := CMul i j ∨ CMulW i j
def mulB : B2 := fun a b q => match a, b with
  | .int i, .int j => mulOk i j ∧ q (.dat (.int (i * j)))
  | .tuple xs, .int k => (xs ≠ [] ∧ 2 ≤ k ∧ k ≤ 1000 ∧ xs.length ≤ 1000) ∧ q (.dat (.tuple (List.replicate k.toNat xs).flatten))
  | _, _ => False
def divOk (j : Int) : Prop := (0 < j ∧ j < 1073741824) ∨ (0 < j ∧ j.natAbs.log2 < 9000)
def fdivB : B2 := fun a b q => match a, b with
  | .int i, .int j => divOk j ∧ q (.dat (.int (i / j)))
  | _, _ => False
def modB : B2 := fun a b q => match a, b with
  | .int i, .int j => 0 < j ∧ q (.dat (.int (i % j)))
  | _, _ => False
def powOk (i j : Int) : Prop := 0 ≤ j ∧ ((i.natAbs.log2 + 1 : Nat) : Int) * j ≤ 2 ^ 27
def powB : B2 := fun a b q => match a, b with
  | .int i, .int j => powOk i j ∧ q (.dat (.int (i ^ j.toNat)))
  | _, _ => False
def negB : B1 := fun a q => match a with
  | .int i => q (.dat (.int (-i)))
  | _ => False
section
variable {X : Cx} {K : PySem.W.Frag} {F H : Hp} {q : EV → Prop} {Q : VK} {x y : V}
theorem op_catS : OpR X (binaryOp .Add) (fun x y H Q => ∃ l b xs zs, x = .ref l ∧ y = .ref b ∧ SqL X.K H l xs ∧ SqL X.K H b zs ∧ xs.length + zs.length ≤ sizeLine ∧ ∀ p, H p = none → Q (.ref p) (upd H p (.lst (xs ++ zs)))) := by
  intro pins s σ H x y v u Q I rx ry h
  obtain ⟨l, b, xs, zs, rfl, rfl, hH, hB, hz, q⟩ := h
  cases rx
  cases ry
  obtain ⟨its, r, p1, _⟩ := I.list hH
  obtain ⟨its2, r2, p2, _⟩ := I.list hB
  have hl := r.length
  have hl2 := r2.length
  obtain ⟨⟨cls, dd, data, sl⟩, ho, hc, n, hd⟩ := id p1.isList
  obtain ⟨⟨cls2, dd2, data2, sl2⟩, ho2, hc2, n2, hd2⟩ := id p2.isList
  simp only at hc hd hc2 hd2
  subst hc hd hc2 hd2
  refine concat_meets ⟨_, ho, rfl⟩ ⟨_, ho2, rfl⟩ noFill_list_add seq_list_add PySem.F.slot_list_add PySem.F.entry_list_add (PySem.F.args_list_add_2 _ _) (PyProof.Rows.list_addW l b its.toArray its2.toArray n n2 dd dd2 sl sl2 (by rw [List.size_toArray, List.size_toArray]; omega)) ⟨ho, ho2, ?_⟩
  have ea : its.toArray ++ its2.toArray = (its ++ its2).toArray := by simp
  rw [ea]
  exact ⟨.ref _, _, I.lnew (t' := s.toks) (r.append r2) (by rw [List.length_append]; omega), rfl, q _ I.fresh⟩
theorem lift_cases2 {B : B2} {f : Value → Value → Sem Value} (h : ∀ d1 d2, OpR X f fun x y H Q => ∃ F q, Same F H ∧ ValR X.K F H x d1 ∧ ValR X.K F H y d2 ∧ B d1 d2 q ∧ Post X.K F H q Q) : OpR X f (liftO2 X.K B) :=
  fun pins s σ H x y v u Q I rx ry ⟨F, d1, d2, q, hq⟩ => h d1 d2 pins s σ H x y v u Q I rx ry ⟨F, q, hq⟩
theorem op_never {f : Value → Value → Sem Value} {r : R2} (h : ∀ x y H Q, ¬ r x y H Q) : OpR X f r := fun pins s σ H x y v u Q I rx ry q => (h _ _ _ _ q).elim
theorem bo_add : OpR X (binaryOp .Add) (liftO2 X.K addB) := by
  refine lift_cases2 fun d1 d2 => ?_
  cases d1 with
  | int i =>
    cases d2 with
    | int j => exact OpR.imp op_add fun x y H Q ⟨F, q, s, v1, v2, h, P⟩ => ⟨i, j, v1.int, v2.int, P.dat s (.int _) h⟩
    | _ => exact op_never fun x y H Q ⟨F, q, s, v1, v2, h, P⟩ => h
  | str i =>
    cases d2 with
    | str j => exact OpR.imp op_add_str fun x y H Q ⟨F, q, s, v1, v2, h, P⟩ => ⟨i, j, v1.str, v2.str, h.1, P.dat s (.str _) h.2⟩
    | _ => exact op_never fun x y H Q ⟨F, q, s, v1, v2, h, P⟩ => h
  | tuple xs =>
    cases d2 with
    | tuple ys =>
      refine OpR.imp op_catA fun x y H Q ⟨F, q, s, v1, v2, h, P⟩ => ?_
      obtain ⟨a, vs, rfl, h1, h2⟩ := v1.tuple s
      obtain ⟨b, ws, rfl, h3, h4⟩ := v2.tuple s
      have vd1 : Dq X.K F (.ref a) (.tuple xs) := v1.frz
      have vd2 : Dq X.K F (.ref b) (.tuple ys) := v2.frz
      refine ⟨a, b, vs, ws, rfl, rfl, h1, h3, by rw [h2.len, h4.len]; exact h.1, fun z => ?_, fun z z' => ?_, fun _ _ p hp => ?_⟩
      · subst z
        cases h2
        exact P.dat s vd2 h.2
      · subst z'
        cases h4
        exact P.dat s vd1 (by have := h.2; rw [List.append_nil] at this; exact this)
      · exact P.tup s hp (DqAll.app h2 h4) h.2
    | _ => exact op_never fun x y H Q ⟨F, q, s, v1, v2, h, P⟩ => h
  | list xs =>
    cases d2 with
    | list ys =>
      refine OpR.imp op_catS fun x y H Q ⟨F, q, s, v1, v2, h, P⟩ => ?_
      obtain ⟨a, vs, rfl, h1, h2⟩ := v1.list s
      obtain ⟨b, ws, rfl, h3, h4⟩ := v2.list s
      exact ⟨a, b, vs, ws, rfl, rfl, h1, h3, by rw [h2.len, h4.len]; exact h.1, fun p hp => P.lst s hp (DqAll.app h2 h4) h.2⟩
    | _ => exact op_never fun x y H Q ⟨F, q, s, v1, v2, h, P⟩ => h
  | _ => exact op_never fun x y H Q ⟨F, q, s, v1, v2, h, P⟩ => h
theorem bo_int {op : Operator} {B : B2} {C : Int → Int → Prop} {g : Int → Int → Int} (h : OpR X (binaryOp op) (rI C fun i j => .int (g i j)))
    (hB : ∀ d1 d2 q, B d1 d2 q → ∃ i j, d1 = .int i ∧ d2 = .int j ∧ C i j ∧ q (.dat (.int (g i j)))) : OpR X (binaryOp op) (liftO2 X.K B) := by
  refine OpR.imp h fun x y H Q ⟨F, d1, d2, q, s, v1, v2, h, P⟩ => ?_
  obtain ⟨i, j, rfl, rfl, hc, hq⟩ := hB d1 d2 q h
  exact ⟨i, j, v1.int, v2.int, hc, P.dat s (.int _) hq⟩
theorem op_sub' : OpR X (binaryOp .Sub) (rI (fun _ _ => True) fun i j => .int (i - j)) := OpR.imp op_sub fun x y H Q ⟨i, j, h1, h2, _, h3⟩ => ⟨i, j, h1, h2, h3⟩
theorem bo_sub : OpR X (binaryOp .Sub) (liftO2 X.K subB) := bo_int op_sub' fun d1 d2 q h => by
  unfold subB at h
  split at h
  · exact ⟨_, _, rfl, rfl, trivial, h⟩
  · exact h.elim
theorem op_mulA : OpR X (binaryOp .Mult) (rI mulOk fun i j => .int (i * j)) := by
  intro pins s σ H x y v u Q I rx ry h
  obtain ⟨i, j, rfl, rfl, hc, q⟩ := h
  rcases hc with hc | hc
  · exact op_mul pins s σ H _ _ v u Q I rx ry ⟨i, j, rfl, rfl, hc, q⟩
  · exact op_mulW pins s σ H _ _ v u Q I rx ry ⟨i, j, rfl, rfl, hc, q⟩
theorem bo_mul : OpR X (binaryOp .Mult) (liftO2 X.K mulB) := by
  refine lift_cases2 fun d1 d2 => ?_
  cases d1 with
  | int i =>
    cases d2 with
    | int j => exact OpR.imp op_mulA fun x y H Q ⟨F, q, s, v1, v2, h, P⟩ => ⟨i, j, v1.int, v2.int, h.1, P.dat s (.int _) h.2⟩
    | _ => exact op_never fun x y H Q ⟨F, q, s, v1, v2, h, P⟩ => h
  | tuple xs =>
    cases d2 with
    | int k =>
      refine OpR.imp op_repT fun x y H Q ⟨F, q, s, v1, v2, h, P⟩ => ?_
      obtain ⟨a, vs, rfl, h1, h2⟩ := v1.tuple s
      obtain ⟨⟨c0, c1, c2, c3⟩, h⟩ := h
      exact ⟨a, k, vs, rfl, v2.int, h1, fun z => c0 (by subst z; cases h2; rfl), c1, c2, by rw [h2.len]; exact c3, fun p hp => P.tup s hp (DqAll.rep h2 _) h⟩
    | _ => exact op_never fun x y H Q ⟨F, q, s, v1, v2, h, P⟩ => h
  | _ => exact op_never fun x y H Q ⟨F, q, s, v1, v2, h, P⟩ => h
/-- [a, ..] * k -/
def dRepL (ta : DTA) (tb : DTE) : DTE := fun τ q => ta τ fun es τ1 => es.length ≤ sizeLine ∧ frzs es τ1 fun ds τ2 => tb τ2 fun eb τ3 => match val τ3 eb with
  | .int k => (-(2 ^ 63) ≤ k ∧ k < 2 ^ 63 ∧ ds.length * k.toNat ≤ sizeLine) ∧ q (.tmp (List.replicate k.toNat ds).flatten) τ3
  | _ => False
theorem de_repL {es : List Expr} {b : Expr} {ta : DTA} {tb : DTE} {p1 pos : Pos} (ha : DA X es ta) (hb : DE X b tb) : DE X (.BinOp (.List es p1) .Mult b pos) (dRepL ta tb) := by
  refine pe_imp (pe_op op_rep (pe_lst ha) hb) fun σ H Q ⟨Z, F, τ, q, r, ht, k⟩ => ?_
  refine ⟨Z, F, τ, _, r, ht, fun F1 τ1 H1 ws r1 g1 e1 h1 => ?_⟩
  obtain ⟨hl, h1⟩ := h1
  refine ⟨by simpa using hl, fun p hp => ?_⟩
  obtain ⟨F2, τ2, ds, r2, g2, p2, h2, s2, lv, ow, nw⟩ := frzs_ok r1 g1 e1 h1
  obtain ⟨r3, g3, e3⟩ := bridge (ev := .tmp ds) (v := .ref p) r2 g2 (Same.refl _) (r2.sub.trans (upd_same_of hp)) (upd_same_of hp) (fun a x1 x2 => absurd x1 x2) ⟨p, ws.map (·.2), rfl, upd_same, r2.sub.free hp, hp, p2⟩
  refine ⟨Z, F2, τ2, _, r3, h2, fun F4 τ4 H4 eb w r4 g4 e4 h4 => ?_⟩
  have e5 := e3.grow g4
  have V := r4.val e4
  revert h4 V
  cases val τ4 eb with
  | int k' =>
    intro h4 V
    obtain ⟨⟨c1, c2, c3⟩, h4⟩ := h4
    obtain ⟨p', vs, e0, q1, q2, q3, q4, q5, q6⟩ := e5
    cases e0
    refine ⟨p, k', vs, rfl, V.int, q1, c1, c2, by rw [q6.len]; exact c3, fun l hl => ?_⟩
    have P : Post X.K F4 H4 (fun ev => q ev τ4) Q := fun F' H' ev v s1 s2 s3 n nr hq => by
      obtain ⟨r6, g6, e6⟩ := bridge r4 (g3.trans g4) s1 s2 s3 n nr
      exact k F' τ4 H' ev v r6 g6 e6 hq
    exact P.lst r4.sub hl (DqAll.rep q6 _) h4
  | _ => exact fun h4 => h4.elim
theorem op_fdivA : OpR X (binaryOp .FloorDiv) (rI (fun _ j => divOk j) fun i j => .int (i / j)) := by
  intro pins s σ H x y v u Q I rx ry h
  obtain ⟨i, j, rfl, rfl, hc, q⟩ := h
  rcases hc with hc | hc
  · exact op_fdiv pins s σ H _ _ v u Q I rx ry ⟨i, j, rfl, rfl, hc, q⟩
  · exact op_fdivW pins s σ H _ _ v u Q I rx ry ⟨i, j, rfl, rfl, hc, q⟩
theorem bo_fdiv : OpR X (binaryOp .FloorDiv) (liftO2 X.K fdivB) := bo_int op_fdivA fun d1 d2 q h => by
  unfold fdivB at h
  split at h
  · exact ⟨_, _, rfl, rfl, h.1, h.2⟩
  · exact h.elim
theorem bo_mod : OpR X (binaryOp .Mod) (liftO2 X.K modB) := bo_int op_mod fun d1 d2 q h => by
  unfold modB at h
  split at h
  · exact ⟨_, _, rfl, rfl, h.1, h.2⟩
  · exact h.elim
theorem op_powA : OpR X (binaryOp .Pow) (rI powOk fun i j => .int (i ^ j.toNat)) := opI fun i j _ _ _ _ _ hc q => by
  refine PyProof.Rows.pow_int hc.1 ?_ q
  have h : Builtin.Int.intBits i ≤ i.natAbs.log2 + 1 := by
    unfold Builtin.Int.intBits
    split <;> omega
  have h2 : (Builtin.Int.intBits i : Int) * j ≤ ((i.natAbs.log2 + 1 : Nat) : Int) * j := Int.mul_le_mul_of_nonneg_right (by omega) hc.1
  exact Int.le_trans h2 hc.2
theorem bo_pow : OpR X (binaryOp .Pow) (liftO2 X.K powB) := bo_int op_powA fun d1 d2 q h => by
  unfold powB at h
  split at h
  · exact ⟨_, _, rfl, rfl, h.1, h.2⟩
  · exact h.elim
theorem uo_neg : UnR X (unaryOp .USub) (liftO1 X.K negB) := UnR.imp un_neg fun x H Q ⟨F, d, q, s, v, h, P⟩ => by
  cases d with
  | int i => exact ⟨i, v.int, P.dat s (.int _) h⟩
  | _ => exact (show False from h).elim
end
end DL
set_option Elab.async false
set_option linter.all false
set_option maxRecDepth 100000
set_option maxHeartbeats 400000
namespace DL
open PySem L2

/-! ### comparisons -/
@[irreducible] def strEq (x y : Str) : Bool := decide (x = y)
theorem strEq_self (x : Str) : strEq x x = true := by unfold strEq; simp
theorem strEq_ne {x y : Str} (h : x ≠ y) : strEq x y = false := by unfold strEq; simpa using h
theorem strEq_iff {x y : Str} : strEq x y = true ↔ x = y := by unfold strEq; simp
def eqW (d e : D) (q : Bool → Prop) : Prop := match d, e with
  | .int i, .int j => q (decide (i = j))
  | .str x, .str y => q (strEq x y)
  | .none, .int _ => q false
  | .int _, .none => q false
  | d, e => SeqAt.shaped d = true ∧ SeqAt.shaped e = true ∧ q (PyData.eqv d e)
theorem eqv_int (i j : Int) : PyData.eqv (.int i) (.int j) = decide (i = j) := by
  unfold PyData.eqv
  rw [Bool.beq_eq_decide_eq]
theorem eqW_of {d e : D} {q : Bool → Prop} (h : eqW d e q) : (∃ x y, d = .str x ∧ e = .str y ∧ q (strEq x y)) ∨ (SeqAt.shaped d = true ∧ SeqAt.shaped e = true ∧ q (PyData.eqv d e)) := by
  unfold eqW at h
  split at h
  · exact .inr ⟨rfl, rfl, by rw [eqv_int]; exact h⟩
  · exact .inl ⟨_, _, rfl, rfl, h⟩
  · exact .inr ⟨rfl, rfl, by unfold PyData.eqv; exact h⟩
  · exact .inr ⟨rfl, rfl, by unfold PyData.eqv; exact h⟩
  · exact .inr h
def eqB : B2 := fun d e q => eqW d e fun b => q (.dat (.bool b))
def neB : B2 := fun d e q => eqW d e fun b => q (.dat (.bool (!b)))
def ltB : B2 := fun a b q => match a, b with
  | .int i, .int j => q (.dat (.bool (decide (i < j))))
  | _, _ => False
def leB : B2 := fun a b q => match a, b with
  | .int i, .int j => q (.dat (.bool (decide (i ≤ j))))
  | _, _ => False
def gtB : B2 := fun a b q => match a, b with
  | .int i, .int j => q (.dat (.bool (decide (j < i))))
  | _, _ => False
def geB : B2 := fun a b q => match a, b with
  | .int i, .int j => q (.dat (.bool (decide (j ≤ i))))
  | _, _ => False
def isNone : D → Bool
  | .none => true
  | _ => false
def isB : B2 := fun a b q => match b with
  | .none => q (.dat (.bool (isNone a)))
  | .bool y => (match a with | .bool x => q (.dat (.bool (x == y))) | _ => False)
  | _ => False
def isNotB : B2 := fun a b q => match b with
  | .none => q (.dat (.bool (!isNone a)))
  | .bool y => (match a with | .bool x => q (.dat (.bool (!(x == y)))) | _ => False)
  | _ => False
section
variable {X : Cx}
theorem dec_strV {x y : Str} : decide (V.str x = V.str y) = strEq x y := by
  unfold strEq
  by_cases h : x = y
  · subst h; simp
  · rw [decide_eq_false h, decide_eq_false (fun z => h (by cases z; rfl))]
theorem co_eq {k : Nat} (hr : RoomG k X.A) : OpR X (compareOp .Eq) (liftO2 X.K eqB) := by
  refine OpR.imp ((op_eqD hr.room.units).or op_eq) fun x y H Q ⟨F, d1, d2, q, s, v1, v2, h, P⟩ => ?_
  rcases eqW_of h with ⟨a, b, rfl, rfl, hq⟩ | ⟨s1, s2, hq⟩
  · refine .inr ?_
    rw [v1.str, v2.str]
    exact ⟨rfl, by rw [dec_strV]; exact P.dat s (.bl _) hq⟩
  · exact .inl ⟨d1, d2, v1.dp s, v2.dp s, s1, s2, P.dat s (.bl _) hq⟩
theorem co_ne {k : Nat} (hr : RoomG k X.A) : OpR X (compareOp .NotEq) (liftO2 X.K neB) := by
  refine OpR.imp ((op_neD hr.room.units).or op_ne) fun x y H Q ⟨F, d1, d2, q, s, v1, v2, h, P⟩ => ?_
  rcases eqW_of h with ⟨a, b, rfl, rfl, hq⟩ | ⟨s1, s2, hq⟩
  · refine .inr ?_
    rw [v1.str, v2.str]
    exact ⟨rfl, by rw [dec_strV]; exact P.dat s (.bl _) hq⟩
  · exact .inl ⟨d1, d2, v1.dp s, v2.dp s, s1, s2, P.dat s (.bl _) hq⟩
theorem co_int {op : CmpOp} {B : B2} {g : Int → Int → Bool} (h : OpR X (compareOp op) (rI0 fun i j => .bl (g i j))) (hB : ∀ d1 d2 q, B d1 d2 q → ∃ i j, d1 = .int i ∧ d2 = .int j ∧ q (.dat (.bool (g i j)))) : OpR X (compareOp op) (liftO2 X.K B) := by
  refine OpR.imp h fun x y H Q ⟨F, d1, d2, q, s, v1, v2, h, P⟩ => ?_
  obtain ⟨i, j, rfl, rfl, hq⟩ := hB d1 d2 q h
  exact ⟨i, j, v1.int, v2.int, P.dat s (.bl _) hq⟩
theorem co_lt : OpR X (compareOp .Lt) (liftO2 X.K ltB) := co_int op_lt fun d1 d2 q h => by
  unfold ltB at h
  split at h
  · exact ⟨_, _, rfl, rfl, h⟩
  · exact h.elim
theorem co_le : OpR X (compareOp .LtE) (liftO2 X.K leB) := co_int op_le fun d1 d2 q h => by
  unfold leB at h
  split at h
  · exact ⟨_, _, rfl, rfl, h⟩
  · exact h.elim
theorem co_gt : OpR X (compareOp .Gt) (liftO2 X.K gtB) := co_int op_gt fun d1 d2 q h => by
  unfold gtB at h
  split at h
  · exact ⟨_, _, rfl, rfl, h⟩
  · exact h.elim
theorem co_ge : OpR X (compareOp .GtE) (liftO2 X.K geB) := co_int op_ge fun d1 d2 q h => by
  unfold geB at h
  split at h
  · exact ⟨_, _, rfl, rfl, h⟩
  · exact h.elim
theorem none_iff {K : PySem.W.Frag} {F H : Hp} {v : V} {d : D} (h : ValR K F H v d) : decide (v = V.non) = isNone d := by
  rcases h with h | ⟨a, vs, ys, rfl, rfl, h1, h2⟩
  · cases h <;> rfl
  · rfl
theorem dec_blb {i j : Bool} : decide (i = j) = (i == j) := by cases i <;> cases j <;> rfl
theorem co_is : OpR X (compareOp .Is) (liftO2 X.K isB) := by
  refine lift_cases2 fun d1 d2 => ?_
  cases d2 with
  | none => exact OpR.imp op_isN fun x y H Q ⟨F, q, s, v1, v2, h, P⟩ => ⟨v2.non, by rw [none_iff v1]; exact P.dat s (.bl _) h⟩
  | bool y =>
    cases d1 with
    | bool x => exact OpR.imp op_isBl fun x' y' H Q ⟨F, q, s, v1, v2, h, P⟩ => ⟨x, y, v1.bool, v2.bool, by rw [dec_blb]; exact P.dat s (.bl _) h⟩
    | _ => exact op_never fun x y H Q ⟨F, q, s, v1, v2, h, P⟩ => h
  | _ => exact op_never fun x y H Q ⟨F, q, s, v1, v2, h, P⟩ => h
theorem co_isnot : OpR X (compareOp .IsNot) (liftO2 X.K isNotB) := by
  refine lift_cases2 fun d1 d2 => ?_
  cases d2 with
  | none => exact OpR.imp op_notN fun x y H Q ⟨F, q, s, v1, v2, h, P⟩ => ⟨v2.non, by rw [none_iff v1]; exact P.dat s (.bl _) h⟩
  | bool y =>
    cases d1 with
    | bool x => exact OpR.imp op_notBl fun x' y' H Q ⟨F, q, s, v1, v2, h, P⟩ => ⟨x, y, v1.bool, v2.bool, by rw [dec_blb]; exact P.dat s (.bl _) h⟩
    | _ => exact op_never fun x y H Q ⟨F, q, s, v1, v2, h, P⟩ => h
  | _ => exact op_never fun x y H Q ⟨F, q, s, v1, v2, h, P⟩ => h

/-! ### items, slices -/
def ixB : B2 := fun a b q => match a, b with
  | .list xs, .int i => optW (atI xs i) fun d => q (.dat d)
  | .tuple xs, .int i => optW (atI xs i) fun d => q (.dat d)
  | _, _ => False
theorem atI_q {K : PySem.W.Frag} {F : Hp} {vs : List V} {xs : List D} {i : Int} {d : D} (h : DqAll K F vs xs) (e : atI xs i = some d) : ∃ v, atI vs i = some v ∧ Dq K F v d := by
  unfold atI at e ⊢
  rw [h.len]
  cases z : ixN xs.length i with
  | none => rw [z] at e; cases e
  | some j =>
    rw [z] at e
    exact h.get e
theorem io_ix : IxR X (liftO2 X.K ixB) := by
  refine IxR.imp (ix_list.or ix_tup) fun x y H Q ⟨F, d1, d2, q, s, v1, v2, h, P⟩ => ?_
  unfold ixB at h
  split at h
  · obtain ⟨a, vs, rfl, h1, h2⟩ := v1.list s
    obtain ⟨d, hd, hq⟩ := optW_of h
    obtain ⟨v, hv, hvd⟩ := atI_q h2 hd
    exact .inl ⟨a, vs, _, v, rfl, v2.int, h1, hv, P.dat s hvd hq⟩
  · obtain ⟨a, vs, rfl, h1, h2⟩ := v1.tuple s
    obtain ⟨d, hd, hq⟩ := optW_of h
    obtain ⟨v, hv, hvd⟩ := atI_q h2 hd
    exact .inr ⟨a, vs, _, v, rfl, v2.int, h1, hv, P.dat s hvd hq⟩
  · exact h.elim
def cutD (xs : List D) (lo hi : Option Int) : List D := (xs.drop (HT.sIx xs.length 0 lo)).take (HT.sIx xs.length xs.length hi - HT.sIx xs.length 0 lo)
def slB : D → Option Int → Option Int → (EV → Prop) → Prop := fun a l u q => match a with
  | .list xs => q (.tmp (cutD xs l u))
  | .tuple xs => q (.dat (.tuple (cutD xs l u)))
  | _ => False
theorem cut_q {K : PySem.W.Frag} {F : Hp} {vs : List V} {xs : List D} {l u : Option Int} (h : DqAll K F vs xs) : DqAll K F (cutV vs l u) (cutD xs l u) := by
  unfold cutV cutD
  rw [h.len]
  exact DqAll.take _ (DqAll.drop _ h)
theorem sl_any : SlR X (liftSl X.K slB) := by
  refine SlR.imp (sl_list.or sl_tupA) fun x l u H Q ⟨F, d, q, s, v, h, P⟩ => ?_
  unfold slB at h
  split at h
  · obtain ⟨a, vs, rfl, h1, h2⟩ := v.list s
    exact .inl ⟨a, vs, rfl, h1, fun p hp => P.lst s hp (cut_q h2) h⟩
  · rename_i xs
    obtain ⟨a, vs, rfl, h1, h2⟩ := v.tuple s
    refine .inr ⟨a, vs, rfl, h1, fun z => P.dat s v.frz ?_, fun _ p hp => P.tup s hp (cut_q h2) h⟩
    have : cutD xs l u = xs := by
      unfold cutD
      rw [← h2.len]
      obtain ⟨z1, z2⟩ := z
      rw [z1, z2, List.drop_zero, Nat.sub_zero, List.take_of_length_le (by rw [h2.len]; exact Nat.le_refl _)]
    rw [this] at h
    exact h
  · exact h.elim

/-! ### built-ins -/
def one (B : B1) : BN := fun ds q => match ds with
  | [d] => B d q
  | _ => False
def two (B : B2) : BN := fun ds q => match ds with
  | [d, e] => B d e q
  | _ => False
theorem one_of {K : PySem.W.Frag} {B : B1} {xs : List V} {H : Hp} {Q : VK} (h : liftON K (one B) xs H Q) : ∃ v F d q, xs = [v] ∧ Same F H ∧ ValR K F H v d ∧ B d q ∧ Post K F H q Q := by
  obtain ⟨F, ds, q, s, v, h, P⟩ := h
  cases v with
  | nil => exact (show False from h).elim
  | cons v t =>
    cases t with
    | nil => exact ⟨_, F, _, q, rfl, s, v, h, P⟩
    | cons _ _ => exact (show False from h).elim
theorem two_of {K : PySem.W.Frag} {B : B2} {xs : List V} {H : Hp} {Q : VK} (h : liftON K (two B) xs H Q) : ∃ v w F d e q, xs = [v, w] ∧ Same F H ∧ ValR K F H v d ∧ ValR K F H w e ∧ B d e q ∧ Post K F H q Q := by
  obtain ⟨F, ds, q, s, v, h, P⟩ := h
  cases v with
  | nil => exact (show False from h).elim
  | cons v t =>
    cases t with
    | nil => exact (show False from h).elim
    | cons w t =>
      cases t with
      | nil => exact ⟨_, _, F, _, _, q, rfl, s, v, w, h, P⟩
      | cons _ _ => exact (show False from h).elim
def lenB1 : B1 := fun d q => match d with
  | .list xs => q (.dat (.int (xs.length : Nat)))
  | .tuple xs => q (.dat (.int (xs.length : Nat)))
  | .str x => x.length ≤ sizeLine ∧ q (.dat (.int (x.length : Nat)))
  | _ => False
def lenB : BN := one lenB1
theorem cb_len : CallR X (.builtin "len") (liftON X.K lenB) := by
  refine CallR.imp call_len fun xs H Q h => ?_
  obtain ⟨v, F, d, q, rfl, s, v0, hb, P⟩ := one_of h
  clear h
  have h := hb
  cases d with
  | list ys =>
    obtain ⟨a, vs, e, h1, h2⟩ := v0.list s
    subst e
    have h : q (.dat (.int (ys.length : Nat))) := h
    rw [← h2.len] at h
    exact ⟨.ref a, vs.length, rfl, .inl ⟨vs, h1, rfl⟩, P.dat s (.int _) h⟩
  | tuple ys =>
    obtain ⟨a, vs, e, h1, h2⟩ := v0.tuple s
    subst e
    have h : q (.dat (.int (ys.length : Nat))) := h
    rw [← h2.len] at h
    exact ⟨.ref a, vs.length, rfl, .inr ⟨vs, h1, rfl⟩, P.dat s (.int _) h⟩
  | str x =>
    have h : x.length ≤ sizeLine ∧ q (.dat (.int (x.length : Nat))) := h
    exact ⟨.str x, x.length, by rw [v0.str], ⟨h.1, rfl⟩, P.dat s (.int _) h.2⟩
  | _ => exact (show False from h).elim
def absB1 : B1 := fun d q => match d with
  | .int i => q (.dat (.int (i.natAbs : Nat)))
  | _ => False
def absB : BN := one absB1
theorem cb_abs : CallR X (.builtin "abs") (liftON X.K absB) := by
  refine CallR.imp call_abs fun xs H Q h => ?_
  obtain ⟨v, F, d, q, rfl, s, v0, hb, P⟩ := one_of h
  clear h
  have h := hb
  cases d with
  | int i =>
    refine ⟨i, by rw [v0.int], ?_⟩
    have e : (if i < 0 then -i else i) = ((i.natAbs : Nat) : Int) := by split <;> omega
    rw [e]
    exact P.dat s (.int _) h
  | _ => exact (show False from h).elim
def max2B1 : B2 := fun d e q => match d, e with
  | .int i, .int j => q (.dat (.int (max i j)))
  | _, _ => False
def min2B1 : B2 := fun d e q => match d, e with
  | .int i, .int j => q (.dat (.int (min i j)))
  | _, _ => False
def max2B : BN := two max2B1
def min2B : BN := two min2B1
theorem cb_max2 (hc : X.calm = true) : CallR X (.builtin "max") (liftON X.K max2B) := by
  refine CallR.imp (call_max2 hc) fun xs H Q h => ?_
  obtain ⟨v, w, F, d, e, q, rfl, s, v0, w0, h, P⟩ := two_of h
  unfold max2B1 at h
  split at h
  · rename_i i j
    refine ⟨i, j, by rw [v0.int, w0.int], ?_⟩
    have e : (if j > i then j else i) = max i j := by split <;> omega
    rw [e]
    exact P.dat s (.int _) h
  · exact h.elim
theorem cb_min2 (hc : X.calm = true) : CallR X (.builtin "min") (liftON X.K min2B) := by
  refine CallR.imp (call_min2 hc) fun xs H Q h => ?_
  obtain ⟨v, w, F, d, e, q, rfl, s, v0, w0, h, P⟩ := two_of h
  unfold min2B1 at h
  split at h
  · rename_i i j
    refine ⟨i, j, by rw [v0.int, w0.int], ?_⟩
    have e : (if j < i then j else i) = min i j := by split <;> omega
    rw [e]
    exact P.dat s (.int _) h
  · exact h.elim
def intB1 : B1 := fun d q => match d with
  | .int i => q (.dat (.int i))
  | .bool b => q (.dat (.int (if b = true then 1 else 0)))
  | _ => False
def intB : BN := one intB1
theorem cb_int : CallR X (.type "int") (liftON X.K intB) := by
  refine CallR.imp call_int1 fun xs H Q h => ?_
  obtain ⟨v, F, d, q, rfl, s, v0, hb, P⟩ := one_of h
  clear h
  have h := hb
  cases d with
  | int i => exact .inl ⟨i, by rw [v0.int], P.dat s (.int _) h⟩
  | bool i => exact .inr ⟨i, by rw [v0.bool], P.dat s (.int _) h⟩
  | _ => exact (show False from h).elim
def tupleB1 : B1 := fun d q => match d with
  | .list xs => q (.dat (.tuple xs))
  | .tuple xs => q (.dat (.tuple xs))
  | _ => False
def tupleB : BN := one tupleB1
theorem cb_tuple : CallR X (.type "tuple") (liftON X.K tupleB) := by
  refine CallR.imp call_tuple_of fun xs H Q h => ?_
  obtain ⟨v, F, d, q, rfl, s, v0, hb, P⟩ := one_of h
  clear h
  have h := hb
  cases d with
  | list ys =>
    obtain ⟨a, vs, e, h1, h2⟩ := v0.list s
    subst e
    exact ⟨a, vs, rfl, .inl ⟨h1, fun l hl => P.tup s hl h2 h⟩⟩
  | tuple ys =>
    obtain ⟨a, vs, e, h1, h2⟩ := v0.tuple s
    subst e
    exact ⟨a, vs, rfl, .inr ⟨h1, P.dat s v0.frz h⟩⟩
  | _ => exact (show False from h).elim
def listB1 : B1 := fun d q => match d with
  | .list xs => q (.tmp xs)
  | .tuple xs => q (.tmp xs)
  | _ => False
def listB : BN := one listB1
theorem cb_list : CallR X (.type "list") (liftON X.K listB) := by
  refine CallR.imp call_list_of fun xs H Q h => ?_
  obtain ⟨v, F, d, q, rfl, s, v0, hb, P⟩ := one_of h
  clear h
  have h := hb
  cases d with
  | list ys =>
    obtain ⟨a, vs, e, h1, h2⟩ := v0.list s
    subst e
    exact ⟨a, vs, rfl, .inl h1, fun l hl => P.lst s hl h2 h⟩
  | tuple ys =>
    obtain ⟨a, vs, e, h1, h2⟩ := v0.tuple s
    subst e
    exact ⟨a, vs, rfl, .inr h1, fun l hl => P.lst s hl h2 h⟩
  | _ => exact (show False from h).elim
/-- lists of ints, of bools -/
def intsOf : List D → Option (List Int)
  | [] => some []
  | .int i :: r => (intsOf r).map (i :: ·)
  | _ :: _ => none
def boolsOf : List D → Option (List Bool)
  | [] => some []
  | .bool i :: r => (boolsOf r).map (i :: ·)
  | _ :: _ => none
theorem intsOf_map (ns : List Int) : intsOf (ns.map PyData.int) = some ns := by
  induction ns with
  | nil => rfl
  | cons n r ih => show (intsOf (r.map PyData.int)).map (n :: ·) = _; rw [ih]; rfl
theorem boolsOf_map (ns : List Bool) : boolsOf (ns.map PyData.bool) = some ns := by
  induction ns with
  | nil => rfl
  | cons n r ih => show (boolsOf (r.map PyData.bool)).map (n :: ·) = _; rw [ih]; rfl
theorem intsOf_eq : ∀ {ds : List D} {ns : List Int}, intsOf ds = some ns → ds = ns.map PyData.int
  | [], ns, h => by cases h; rfl
  | d :: ds, ns, h => by
    cases d with
    | int i =>
      have h : (intsOf ds).map (i :: ·) = some ns := h
      cases e : intsOf ds with
      | none => rw [e] at h; cases h
      | some ms => rw [e] at h; cases h; rw [intsOf_eq e]; rfl
    | _ => cases h
theorem boolsOf_eq : ∀ {ds : List D} {ns : List Bool}, boolsOf ds = some ns → ds = ns.map PyData.bool
  | [], ns, h => by cases h; rfl
  | d :: ds, ns, h => by
    cases d with
    | bool i =>
      have h : (boolsOf ds).map (i :: ·) = some ns := h
      cases e : boolsOf ds with
      | none => rw [e] at h; cases h
      | some ms => rw [e] at h; cases h; rw [boolsOf_eq e]; rfl
    | _ => cases h
theorem ints_q {K : PySem.W.Frag} {F : Hp} : ∀ {vs : List V} {ns : List Int}, DqAll K F vs (ns.map PyData.int) → vs = ns.map V.int
  | _, [], h => by cases h; rfl
  | _, n :: ns, h => by
    cases h with
    | cons h1 h2 => cases h1; rw [ints_q h2]; rfl
theorem bools_q {K : PySem.W.Frag} {F : Hp} : ∀ {vs : List V} {ns : List Bool}, DqAll K F vs (ns.map PyData.bool) → vs = ns.map V.bl
  | _, [], h => by cases h; rfl
  | _, n :: ns, h => by
    cases h with
    | cons h1 h2 => cases h1; rw [bools_q h2]; rfl
def sumB1 : B1 := fun d q => match d with
  | .list xs => optW (intsOf xs) fun ns => q (.dat (.int ns.sum))
  | .tuple xs => optW (intsOf xs) fun ns => q (.dat (.int ns.sum))
  | _ => False
def sumB : BN := one sumB1
theorem sumT_raw {prog : Program} {w : World} {A : Around} {E : Value → Shared → Prop} {s : Shared} {l : Addr} {its : List Value} {ns : List Int} {Q : Value → Shared → Prop} (hh : A.handled = none) (hl : s.heap.IsTuple l its.toArray) (hi : PyProof.Rows.IntsAre its ns)
    (h : ∀ h' tk t', (∀ b o, s.heap.get? b = some o → h'.get? b = some o) → Q (.int ns.sum t') { s with heap := h', toks := tk }) : wpAny (model prog w) A (call (.builtin "sum") [.ref l]) Q E s := by
  obtain ⟨xs, e⟩ := hi.allInts.items
  have hn : numsOf (intItems xs).toList = ns := by rw [← e]; exact hi.numsOf
  rw [nums_intItems] at hn
  rw [e] at hl
  refine PySem.W.ktm_sumG hh hl fun h' tk t' hk => ?_
  have := h h' tk t' hk
  rw [preSum_eq, List.take_of_length_le (by simp), hn]; exact this
theorem cr_sumT (hc : X.calm = true) : CallR X (.builtin "sum") (fun vs H Q => ∃ (a : Addr) (ns : List Int), vs = [V.ref a] ∧ SqT X.K H a (ns.map V.int) ∧ Q (.int ns.sum) H) := by
  intro pins s σ H vs us Q I r h
  obtain ⟨a, ns, rfl, hs, q⟩ := h
  obtain ⟨its, rv, hl, _⟩ := I.tuple hs
  rw [Vals.ref1 r]
  exact sumT_raw (I.ok.hd hc) (show s.heap.IsTuple a its.toArray from hl) rv.ints fun h' tk t' hk => ⟨.int _, H, I.kept hk, ⟨_, rfl⟩, q⟩
theorem cb_sum (hc : X.calm = true) : CallR X (.builtin "sum") (liftON X.K sumB) := by
  refine CallR.imp ((cr_sum hc).or (cr_sumT hc)) fun xs H Q h => ?_
  obtain ⟨v, F, d, q, rfl, s, v0, hb, P⟩ := one_of h
  clear h
  have h := hb
  cases d with
  | list ys =>
    obtain ⟨a, vs, e, h1, h2⟩ := v0.list s
    subst e
    obtain ⟨ns, e, hq⟩ := optW_of h
    rw [intsOf_eq e] at h2
    rw [ints_q h2] at h1
    exact .inl ⟨a, ns, rfl, h1, P.dat s (.int _) hq⟩
  | tuple ys =>
    obtain ⟨a, vs, e, h1, h2⟩ := v0.tuple s
    subst e
    obtain ⟨ns, e, hq⟩ := optW_of h
    rw [intsOf_eq e] at h2
    rw [ints_q h2] at h1
    exact .inr ⟨a, ns, rfl, h1, P.dat s (.int _) hq⟩
  | _ => exact (show False from h).elim
def allB1 : B1 := fun d q => match d with
  | .list xs => optW (boolsOf xs) fun bs => q (.dat (.bool (bs.all id)))
  | _ => False
def anyB1 : B1 := fun d q => match d with
  | .list xs => optW (boolsOf xs) fun bs => q (.dat (.bool (bs.any id)))
  | _ => False
def allB : BN := one allB1
def anyB : BN := one anyB1
theorem cb_all (hc : X.calm = true) : CallR X (.builtin "all") (liftON X.K allB) := by
  refine CallR.imp (cr_all hc) fun xs H Q h => ?_
  obtain ⟨v, F, d, q, rfl, s, v0, hb, P⟩ := one_of h
  clear h
  have h := hb
  cases d with
  | list ys =>
    obtain ⟨a, vs, e, h1, h2⟩ := v0.list s
    subst e
    obtain ⟨ns, e, hq⟩ := optW_of h
    rw [boolsOf_eq e] at h2
    rw [bools_q h2] at h1
    exact ⟨a, ns, rfl, h1, P.dat s (.bl _) hq⟩
  | _ => exact (show False from h).elim
theorem cb_any (hc : X.calm = true) : CallR X (.builtin "any") (liftON X.K anyB) := by
  refine CallR.imp (cr_any hc) fun xs H Q h => ?_
  obtain ⟨v, F, d, q, rfl, s, v0, hb, P⟩ := one_of h
  clear h
  have h := hb
  cases d with
  | list ys =>
    obtain ⟨a, vs, e, h1, h2⟩ := v0.list s
    subst e
    obtain ⟨ns, e, hq⟩ := optW_of h
    rw [boolsOf_eq e] at h2
    rw [bools_q h2] at h1
    exact ⟨a, ns, rfl, h1, P.dat s (.bl _) hq⟩
  | _ => exact (show False from h).elim
/-- repr: a text that is the same of the same data -/
@[irreducible] def reprS (d : D) : Str := d.shown
def reprOk (d : D) : Prop := d.showable = true ∧ d.hasDict = false ∧ d.shown.length ≤ sizeLine ∧ d.depth ≤ 8
def reprB : BN := one fun d q => reprOk d ∧ q (.dat (.str (reprS d)))
theorem cr_repr {k : Nat} (hr : RoomG k X.A) : CallR X (.builtin "repr") (fun xs H Q => ∃ v d, xs = [v] ∧ Dp X.K H v d ∧ reprOk d ∧ Q (.str (reprS d)) H) := by
  intro pins s σ H xs us Q I r h
  obtain ⟨v, d, rfl, hv, ⟨h1, h2, h3, h4⟩, q⟩ := h
  obtain ⟨u, rfl, ru⟩ := vals1 r
  have ed : reprS d = d.shown := by unfold reprS; rfl
  rw [ed] at q
  obtain ⟨as, rd⟩ := Dp.reads I d v u hv ru
  cases d with
  | none =>
    cases hv
    cases ru
    exact PySem.P.repr_of_none ⟨.str _, H, I.tok _, ⟨_, rfl⟩, q⟩
  | bool b =>
    cases hv
    cases ru
    exact PySem.P.repr_of_bool ⟨.str _, H, I.tok _, ⟨_, rfl⟩, q⟩
  | int i =>
    cases hv
    obtain ⟨t, rfl⟩ := ru
    exact PySem.P.repr_of_int (by simpa [PyData.showable] using h1) ⟨.str _, H, I.tok _, ⟨_, rfl⟩, q⟩
  | str i =>
    cases hv
    obtain ⟨t, rfl⟩ := ru
    exact PySem.P.repr_of_str ⟨.str _, H, I.tok _, ⟨_, rfl⟩, q⟩ h3
  | list xs =>
    cases hv
    cases ru
    have hu := hr.room.units
    exact repr_of_reads' rd h1 (fun z => by rw [h2] at z; cases z) hr.gd (by omega) (fun b o e => e) (fun h' u tk hk => ⟨.str _, H, I.kept hk, ⟨_, rfl⟩, q⟩) h3
  | tuple xs =>
    cases hv
    cases ru
    have hu := hr.room.units
    exact repr_of_reads' rd h1 (fun z => by rw [h2] at z; cases z) hr.gd (by omega) (fun b o e => e) (fun h' u tk hk => ⟨.str _, H, I.kept hk, ⟨_, rfl⟩, q⟩) h3
  | dict xs => cases hv
theorem cb_repr {k : Nat} (hr : RoomG k X.A) : CallR X (.builtin "repr") (liftON X.K reprB) := by
  refine CallR.imp (cr_repr hr) fun xs H Q h => ?_
  obtain ⟨v, F, d, q, rfl, s, v0, hb, P⟩ := one_of h
  clear h
  have h := hb
  exact ⟨_, d, rfl, v0.dp s, h.1, P.dat s (.str _) h.2⟩
end
end DL
set_option Elab.async false
set_option linter.all false
set_option maxRecDepth 100000
set_option maxHeartbeats 400000
namespace DL
open PySem L2

/-! ### isinstance of a built-in type -/
inductive Ty where
  | int
  | bool
  | str
  | tuple
  | list
def Ty.nm : Ty → String
  | .int => "int"
  | .bool => "bool"
  | .str => "str"
  | .tuple => "tuple"
  | .list => "list"
def tyN : D → String
  | .none => "NoneType"
  | .bool _ => "bool"
  | .int _ => "int"
  | .str _ => "str"
  | .list _ => "list"
  | .tuple _ => "tuple"
  | .dict _ => "dict"
def isT : Ty → D → Bool
  | .int, .int _ => true
  | .int, .bool _ => true
  | .bool, .bool _ => true
  | .str, .str _ => true
  | .tuple, .tuple _ => true
  | .list, .list _ => true
  | _, _ => false
theorem isT_ok (t : Ty) (d : D) : kitB (tyN d) t.nm = some (isT t d) := by
  cases d with
  | none => show kitB "NoneType" t.nm = _; cases t <;> (show kitB _ _ = some false; decide +kernel)
  | bool b =>
    show kitB "bool" t.nm = _
    cases t with
    | int => show kitB "bool" "int" = some true; decide +kernel
    | bool => show kitB "bool" "bool" = some true; decide +kernel
    | _ => show kitB _ _ = some false; decide +kernel
  | int b =>
    show kitB "int" t.nm = _
    cases t with
    | int => show kitB "int" "int" = some true; decide +kernel
    | _ => show kitB _ _ = some false; decide +kernel
  | str b =>
    show kitB "str" t.nm = _
    cases t with
    | str => show kitB "str" "str" = some true; decide +kernel
    | _ => show kitB _ _ = some false; decide +kernel
  | list b =>
    show kitB "list" t.nm = _
    cases t with
    | list => show kitB "list" "list" = some true; decide +kernel
    | _ => show kitB _ _ = some false; decide +kernel
  | tuple b =>
    show kitB "tuple" t.nm = _
    cases t with
    | tuple => show kitB "tuple" "tuple" = some true; decide +kernel
    | _ => show kitB _ _ = some false; decide +kernel
  | dict b => show kitB "dict" t.nm = _; cases t <;> (show kitB _ _ = some false; decide +kernel)
theorem SqL.ty {K : PySem.W.Frag} {H : Hp} {a : Addr} {xs : List V} (h : SqL K H a xs) : TyX K H (.ref a) (.type "list") := by
  rcases h with (h | ⟨o, h⟩) | ⟨o, its, n, h, c, _⟩
  · exact .base (.lst h)
  · exact .base (.frz h)
  · exact .kList h c
theorem SqT.ty {K : PySem.W.Frag} {H : Hp} {a : Addr} {xs : List V} (h : SqT K H a xs) : TyX K H (.ref a) (.type "tuple") := by
  rcases h with (h | ⟨o, h⟩) | ⟨o, its, n, h, c, _⟩
  · exact .base (.tup h)
  · exact .fTuple h
  · exact .kTuple h c
theorem ValR.ty {K : PySem.W.Frag} {F H : Hp} {v : V} {d : D} (s : Same F H) (h : ValR K F H v d) : TyX K H v (.type (tyN d)) := by
  cases d with
  | none => rw [h.non]; exact .base .non
  | bool b => rw [h.bool]; exact .base (.bl b)
  | int b => rw [h.int]; exact .base (.int b)
  | str b => rw [h.str]; exact .base (.str b)
  | list xs => obtain ⟨a, vs, rfl, h1, _⟩ := h.list s; exact SqL.ty h1
  | tuple xs => obtain ⟨a, vs, rfl, h1, _⟩ := h.tuple s; exact SqT.ty h1
  | dict xs =>
    rcases h with h | ⟨a, vs, ys, _, e, _⟩
    · cases h
    · cases e
def dIsi (T : Ty) (t : DTE) : DTE := fun τ q => t τ fun ev τ1 => q (.dat (.bool (isT T (val τ1 ev)))) τ1
section
variable {X : Cx}
theorem de_isi {T : Ty} {x : Str} {e : Expr} {te : DTE} {p p2 pos : Pos} (hg : Gl X "isinstance") (hm : X.mg "isinstance" = none) (hgT : Gl X x) (hmT : X.mg x = none) (hv : bootBuiltins x = some (.type T.nm)) (he : DE X e te)
    (hn : x ≠ "__name__" := by decide) (hd : (x == ("__debug__" : Str)) = false := by decide)
    (hst : starEach [e, .Name x p2] X.env = (false, eval e X.env) :: starEach [.Name x p2] X.env := by rfl) (hpl : (backTo pos (starEach [.Name x p2] X.env)).any (·.1) = false := by rfl) : DE X (.Call (.Name "isinstance" p) [e, .Name x p2] [] pos) (dIsi T te) := by
  have hN : PE X (.Name x p2) (tC (.ty T.nm)) := pe_bltn hgT hmT hv (show RelV (.ty T.nm) (.type T.nm) from rfl) hn hd
  refine pe_imp (pe_callB call_isi hg hm PyProof.Rows.boot_isinstance (pa_cons he (pa_cons hN pa_nil) hst) (he := hst) (hpl := hpl)) fun σ H Q ⟨Z, F, τ, q, r, ht, k⟩ => ?_
  refine ⟨Z, F, τ, _, r, ht, fun F1 τ1 H1 ev v r1 g1 e1 h1 => ?_⟩
  exact ⟨v, .ty T.nm, .type (tyN (val τ1 ev)), .type T.nm, _, rfl, .ty _, ValR.ty r1.sub (r1.val e1), kit_ty (isT_ok T _), k F1 τ1 H1 (.dat (.bool _)) (.bl _) r1 g1 (.bl _) h1⟩

/-! ### list(range(..)), tuple(range(..)) -/
def rgOk (a b : Int) : Prop := -(2 ^ 62) ≤ a ∧ a < 2 ^ 62 ∧ -(2 ^ 62) ≤ b ∧ b < 2 ^ 62 ∧ (b - a).toNat ≤ 2 ^ 24
def rg1 (ta : DTE) : DSt → (Int → Int → DSt → Prop) → Prop := fun τ q => ta τ fun ev τ1 => match val τ1 ev with
  | .int n => q 0 n τ1
  | _ => False
def rg2 (ta tb : DTE) : DSt → (Int → Int → DSt → Prop) → Prop := fun τ q => ta τ fun ea τ1 => tb τ1 fun eb τ2 => match val τ2 ea, val τ2 eb with
  | .int i, .int j => q i j τ2
  | _, _ => False
abbrev DRG := DSt → (Int → Int → DSt → Prop) → Prop
def liftRg (K : PySem.W.Frag) (t : DRG) : L2.St → Hp → (Int → Int → Hp → Prop) → Prop := fun σ H Q => ∃ (Z : Fz) (F : Hp) (τ : DSt) (q : _), R K Z F τ σ H ∧ t τ q ∧
  ∀ F' τ' H' a b, R K Z F' τ' σ H' → Gr F H τ σ F' H' τ' → q a b τ' → Q a b H'
abbrev DRg (X : Cx) (e : Expr) (t : DRG) : Prop := PRg X e (liftRg X.K t)
theorem rgV_dq {K : PySem.W.Frag} {F : Hp} (a b : Int) : DqAll K F (rgV a b) (rangeD a (b - a).toNat) := by
  unfold rgV rangeD
  generalize (b - a).toNat = m
  generalize List.range m = l
  induction l with
  | nil => exact .nil
  | cons x l ih => exact .cons (.int _) ih
theorem drg_1 {a : Expr} {ta : DTE} {p pos : Pos} (hg : Gl X "range") (hm : X.mg "range" = none) (ha : DE X a ta) (na : starEach [a] X.env = (false, eval a X.env) :: starEach [] X.env := by rfl) : DRg X (.Call (.Name "range" p) [a] [] pos) (rg1 ta) := by
  intro pins s σ H Q I ⟨Z, F, τ, q, r, ht, k⟩
  refine prg_1 hg hm ha na pins s σ H Q I ⟨Z, F, τ, _, r, ht, fun F1 τ1 H1 ev v r1 g1 e1 h1 => ?_⟩
  have V := r1.val e1
  revert h1 V
  cases val τ1 ev with
  | int n => exact fun h1 V => ⟨n, V.int, k F1 τ1 H1 0 n r1 g1 h1⟩
  | _ => exact fun h1 => h1.elim
theorem drg_2 {a b : Expr} {ta tb : DTE} {p pos : Pos} (hg : Gl X "range") (hm : X.mg "range" = none) (ha : DE X a ta) (hb : DE X b tb) (na : starEach [a, b] X.env = (false, eval a X.env) :: starEach [b] X.env := by rfl)
    (nb : starEach [b] X.env = (false, eval b X.env) :: starEach [] X.env := by rfl) (hp : (backTo pos (starEach [b] X.env)).any (·.1) = false := by rfl) : DRg X (.Call (.Name "range" p) [a, b] [] pos) (rg2 ta tb) := by
  intro pins s σ H Q I ⟨Z, F, τ, q, r, ht, k⟩
  refine prg_2 hg hm ha hb na nb hp pins s σ H Q I ⟨Z, F, τ, _, r, ht, fun F1 τ1 H1 ev v r1 g1 e1 h1 => ⟨Z, F1, τ1, _, r1, h1, fun F2 τ2 H2 ew u r2 g2 e2 h2 => ?_⟩⟩
  have V := r2.val (e1.grow g2)
  have U := r2.val e2
  revert h2 V U
  cases val τ2 ev with
  | int n =>
    cases val τ2 ew with
    | int m => exact fun h1 V U => ⟨n, m, V.int, U.int, k F2 τ2 H2 n m r2 (g1.trans g2) h1⟩
    | _ => exact fun h1 => h1.elim
  | _ => exact fun h1 => (show False by revert h1; cases val τ2 ew <;> exact id).elim
def dLstRg (t : DRG) : DTE := fun τ q => t τ fun a b τ1 => rgOk a b ∧ q (.tmp (rangeD a (b - a).toNat)) τ1
theorem de_lstRg {e : Expr} {t : DRG} {p pos : Pos} (hc : X.calm = true) (hg : Gl X "list") (hm : X.mg "list" = none) (he : DRg X e t) (na : starEach [e] X.env = (false, eval e X.env) :: starEach [] X.env := by rfl) : DE X (.Call (.Name "list" p) [e] [] pos) (dLstRg t) := by
  refine pe_imp (pe_listRg hc hg hm he na) fun σ H Q ⟨Z, F, τ, q, r, ht, k⟩ => ?_
  refine ⟨Z, F, τ, _, r, ht, fun F1 τ1 H1 a b r1 g1 h1 => ⟨h1.1, fun p hp => ?_⟩⟩
  have P : Post X.K F1 H1 (fun ev => q ev τ1) Q := fun F' H' ev v s1 s2 s3 n nr hq => by
    obtain ⟨r3, g3, e3⟩ := bridge r1 g1 s1 s2 s3 n nr
    exact k F' τ1 H' ev v r3 g3 e3 hq
  exact P.lst r1.sub hp (rgV_dq a b) h1.2
end
end DL
set_option Elab.async false
set_option linter.all false
set_option maxRecDepth 100000
set_option maxHeartbeats 400000
namespace DL
open PySem L2

/-! ### sources: a list or a tuple that is walked -/
structure Src where
  tup : Bool
  a : Addr
def Src.sq (K : PySem.W.Frag) (H : Hp) (s : Src) (xs : List V) : Prop := match s.tup with
  | true => SqT K H s.a xs
  | false => SqL K H s.a xs
def Src.it (h : Heap) (s : Src) (i : Addr) (n : Nat) : Prop := match s.tup with
  | true => h.IsTupleIter i s.a n
  | false => h.IsListIter i s.a n
def Src.now (h : Heap) (s : Src) (its : Array Value) : Prop := match s.tup with
  | true => h.IsTuple s.a its
  | false => h.IsList s.a its
def Src.ob (s : Src) : Obj := match s.tup with
  | true => { cls := .type "tuple_iterator", data := .fields #[.ref s.a, .int 0 0] }
  | false => { cls := .type "list_iterator", data := .fields #[.ref s.a, .int 0 0] }
section
variable {P : Program} {w : World} {K : PySem.W.Frag} {X : Cx} {pins : List (Addr × Obj)} {σ : L2.St} {H : Hp} {s : Shared} {src : Src} {xs ys : List V}
theorem src_inv (I : Inv X pins σ H s) (h : src.sq X.K H xs) : ∃ its : List Value, Vals xs its ∧ src.now s.heap its.toArray := by
  obtain ⟨t, a⟩ := src
  cases t with
  | true => obtain ⟨its, r, p, _⟩ := I.tuple h; exact ⟨its, r, p⟩
  | false => obtain ⟨its, r, p, _⟩ := I.list h; exact ⟨its, r, p.isList⟩
theorem src_inj (I : Inv X pins σ H s) (h : src.sq X.K H xs) (h' : src.sq X.K H ys) : xs = ys := by
  obtain ⟨t, a⟩ := src
  cases t with
  | true => exact I.tuple_inj h h'
  | false => exact I.list_inj h h'
theorem src_same {H' : Hp} (s : Same H H') (h : src.sq K H xs) : src.sq K H' xs := by
  obtain ⟨t, a⟩ := src
  cases t with
  | true => exact Same.sqT s h
  | false => exact s.seq h
theorem src_draws {A : Around} (hh : A.handled = none) {it : Addr} (hne : src.a ≠ it) (items : Array Value) : Draws P w A it [it, src.a] items.size (fun i v => items[i]? = some v) (fun i h => src.it h it i ∧ src.now h items) := by
  obtain ⟨t, a⟩ := src
  cases t with
  | true => exact .tuple hh it a hne items
  | false => exact .list hh it a hne items
theorem src_begins (items : Array Value) : Begins (.ref src.a) src.ob fun h => src.now h items := by
  obtain ⟨t, a⟩ := src
  cases t with
  | true => exact begins_tuple a items
  | false => exact begins_list a items
theorem src_it0 {h : Heap} {i : Addr} (e : h.get? i = some src.ob) : src.it h i 0 := by
  obtain ⟨t, a⟩ := src
  cases t with
  | true => exact ⟨_, e, rfl, rfl⟩
  | false => exact ⟨_, e, rfl, rfl⟩
theorem src_at {h h' : Heap} {i : Addr} {n : Nat} (k : ∀ o, h.get? i = some o → h'.get? i = some o) (e : src.it h i n) : src.it h' i n := by
  obtain ⟨t, a⟩ := src
  cases t with
  | true => obtain ⟨o, e1, e2⟩ := e; exact ⟨o, k o e1, e2⟩
  | false => obtain ⟨o, e1, e2⟩ := e; exact ⟨o, k o e1, e2⟩
theorem src_obj {h : Heap} {i : Addr} {n : Nat} (e : src.it h i n) : ∃ o, h.get? i = some o ∧ ∀ v, o.data ≠ .cell v := by
  obtain ⟨t, a⟩ := src
  cases t with
  | true => obtain ⟨o, e1, _, e2⟩ := e; exact ⟨o, e1, fun v q => by rw [e2] at q; cases q⟩
  | false => obtain ⟨o, e1, _, e2⟩ := e; exact ⟨o, e1, fun v q => by rw [e2] at q; cases q⟩
theorem src_lt {h : Heap} {its : Array Value} (e : src.now h its) : src.a < h.objs.size := by
  obtain ⟨t, a⟩ := src
  cases t with
  | true => obtain ⟨o, e1, _⟩ := e; exact Heap.lt_size e1
  | false => obtain ⟨o, e1, _⟩ := e; exact Heap.lt_size e1

/-- turns that make a new tuple each, from the library's WalksT -/
theorem turn_gen {elts : List Expr} {kk : Nat} {tpos : Pos} {J : It} {e : Addr} {fp wr : List Addr} {tn : Nat → Heap → Prop} (hm : e ∈ fp) (hsub : ∀ b ∈ wr, b ∈ fp)
    (obj : ∀ i h, tn i h → ∀ b ∈ fp, ∃ o, h.get? b = some o ∧ ∀ v, o.data ≠ .cell v) (keep : ∀ i h h', tn i h → (∀ b ∈ fp, ∀ o, h.get? b = some o → h'.get? b = some o) → tn i h')
    (item : ∀ (X : Cx), X.prog = P → X.w = w → X.K = K → X.calm = true → ∀ (i : Nat) (pins : List (Addr × Obj)) (s : Shared) (σ : L2.St) (H : Hp), Inv X pins σ H s → (∀ b ∈ fp, FpOk X pins H b) → tn i s.heap → J.go i H →
      ∃ (fp' : List Addr) (n : Nat) (Pt : Nat → Array Value → Prop) (St : Nat → Heap → Prop) (Mid : Nat → Addr → Heap → Prop), WalksT P w X.A e fp' wr n Pt St Mid ∧ i < n ∧ St i s.heap ∧ (∀ h, St (i + 1) h → tn (i + 1) h) ∧
        ∀ vals, Pt i vals → ∃ xs : List V, Vals xs vals.toList ∧ xs.length ≤ sizeLine ∧ ∀ T, H T = none → J.yld i H (.ref T) (upd H T (.tup xs)))
    (done : ∀ (X : Cx), X.prog = P → X.w = w → X.K = K → X.calm = true → ∀ (i : Nat) (pins : List (Addr × Obj)) (s : Shared) (σ : L2.St) (H : Hp), Inv X pins σ H s → (∀ b ∈ fp, FpOk X pins H b) → tn i s.heap → J.stop i H →
      ∃ (fp' : List Addr) (Pt : Nat → Array Value → Prop) (St : Nat → Heap → Prop) (Mid : Nat → Addr → Heap → Prop), ∃ n, WalksT P w X.A e fp' wr n Pt St Mid ∧ St n s.heap)
    (self : ∀ (A : Around) (i : Nat) (s : Shared) (Q : Value → Shared → Prop) (E : Value → Shared → Prop), tn i s.heap → Q (.ref e) s → wpAny (model P w) A (pyIter (.ref e)) Q E s) :
    Turn P w K (.Tuple elts kk tpos) J fp e tn where
  mem := hm
  obj := obj
  keep := keep
  item := by
    intro X hP hw hK hc i pins s σ H E I hf st hg
    obtain ⟨fp', n, Pt, St, Mid, W, hi, hst, hnx, hv⟩ := item X hP hw hK hc i pins s σ H I hf st hg
    subst hP hw hK
    refine W.item i s _ E hi hst fun T vals h' tk hPt hT isT mid k1 => ⟨_, rfl, ?_⟩
    refine W.go elts kk tpos i T { s with heap := h', toks := tk } _ E mid fun h'' st' k2 => ?_
    obtain ⟨xs, rv, hz, hy⟩ := hv vals hPt
    have hT2 : h''.IsTuple T vals := by
      obtain ⟨o, h1, h2⟩ := isT
      exact ⟨o, k2 T o (W.apart i T _ mid) h1, h2⟩
    have HT : H T = none := I.hok.fresh hT
    have new : ObjOk X.prog X.w (upd H T (.tup xs)) h'' T (.tup xs) := ⟨hz, vals.toList, rv, by rw [Array.toArray_toList]; exact hT2⟩
    have I1 : Inv X pins σ (upd H T (.tup xs)) { s with heap := h'', toks := tk } :=
      I.turnedNew (ch := wr) (fun b o hb q => k2 b o hb (k1 b o hb q)) (fun b hb => hf b (hsub b hb)) hT new
    refine ⟨.ref T, _, I1, rfl, hy T HT, hnx _ st', fun b hb => ?_⟩
    obtain ⟨o, ho, _⟩ := obj i s.heap st b hb
    rw [upd_ne (Nat.ne_of_lt (Nat.lt_of_lt_of_le (Heap.lt_size ho) hT))]
    exact (hf b hb).1
  done := by
    intro X hP hw hK hc i pins s σ H E I hf st hg
    obtain ⟨fp', Pt, St, Mid, n, W, hst⟩ := done X hP hw hK hc i pins s σ H I hf st hg
    subst hP hw hK
    exact W.done s _ E hst fun h' tk k => ⟨rfl, I.turnedL (ch := wr) k fun b hb => hf b (hsub b hb)⟩
  self := self

/-! ### enumerate, zip over sources -/
def IteS (K : PySem.W.Frag) (src : Src) : It :=
  ⟨fun i H => ∃ (xs : List V) (x : V), src.sq K H xs ∧ xs[i]? = some x,
    fun i H v H' => ∃ T x, v = .ref T ∧ H T = none ∧ H' = upd H T (.tup [.int (i : Nat), x]) ∧ ∀ xs, src.sq K H xs → xs[i]? = some x,
    fun i H => ∃ xs : List V, src.sq K H xs ∧ xs.length = i⟩
theorem turn_enumS {elts : List Expr} {kk : Nat} {tpos : Pos} {e it : Addr} (hei : e ≠ it) (hae : src.a ≠ e) (hai : src.a ≠ it) :
    Turn P w K (.Tuple elts kk tpos) (IteS K src) [e, it] e (fun i h => (∃ old, IsEnum h e it ((i : Nat) : Int) old) ∧ src.it h it i) := by
  have ne : e ∉ [it, src.a] := fun z => by
    rcases List.mem_cons.mp z with z | z
    · exact hei z
    · exact hae (List.mem_singleton.mp z).symm
  refine turn_gen (wr := [e, it]) (by simp) (fun b hb => hb) (fun i h st b hb => ?_) (fun i h h' st k => ?_) ?_ ?_ ?_
  · obtain ⟨⟨old, he⟩, hi⟩ := st
    have e' : b = e ∨ b = it := by simpa using hb
    rcases e' with z | z
    · rw [z]; exact ⟨_, he, fun v q => nomatch q⟩
    · rw [z]; exact src_obj hi
  · obtain ⟨⟨old, he⟩, hi⟩ := st
    exact ⟨⟨old, k e (by simp) _ he⟩, src_at (fun o q => k it (by simp) o q) hi⟩
  · intro X hP hw hK hc i pins s σ H I hf st hg
    subst hP hw hK
    obtain ⟨⟨old, he⟩, hi⟩ := st
    obtain ⟨xs, x, hq, hx⟩ := hg
    obtain ⟨its, rv, p⟩ := src_inv I hq
    have D := src_draws (P := X.prog) (w := X.w) (A := X.A.in1) (show X.A.in1.handled = none from I.ok.hd hc) hai its.toArray
    refine ⟨_, _, _, _, _, WalksT.enumerateD D e hei ne (by simp), ?_, ⟨⟨old, he⟩, hi, p⟩, fun h ⟨st1, st2, _⟩ => ⟨st1, st2⟩, fun vals ⟨t, u, hu, ev⟩ => ?_⟩
    · rw [List.size_toArray, ← rv.length]; exact (List.getElem?_eq_some_iff.mp hx).1
    · subst ev
      refine ⟨[.int (i : Nat), x], .cons ⟨t, rfl⟩ (.cons ?_ .nil), (by show 2 ≤ sizeLine; decide), fun T hT => ⟨T, x, rfl, hT, rfl, fun ys hy => by rw [src_inj I hy hq]; exact hx⟩⟩
      obtain ⟨u', hu', ru⟩ := rv.get hx
      have hu : its.toArray[i]? = some u := hu
      rw [List.getElem?_toArray, hu'] at hu
      cases hu
      exact ru
  · intro X hP hw hK hc i pins s σ H I hf st hg
    subst hP hw hK
    obtain ⟨⟨old, he⟩, hi⟩ := st
    obtain ⟨xs, hq, hx⟩ := hg
    obtain ⟨its, rv, p⟩ := src_inv I hq
    have D := src_draws (P := X.prog) (w := X.w) (A := X.A.in1) (show X.A.in1.handled = none from I.ok.hd hc) hai its.toArray
    have en : its.toArray.size = i := by rw [List.size_toArray, ← rv.length]; exact hx
    exact ⟨_, _, _, _, its.toArray.size, WalksT.enumerateD D e hei ne (by simp), by rw [en]; exact ⟨⟨old, he⟩, hi, p⟩⟩
  · exact fun A i s Q E st h => let ⟨⟨_, he⟩, _⟩ := st; wpAny_pyIter_enum he h

def Itz2 (K : PySem.W.Frag) (s1 s2 : Src) : It :=
  ⟨fun i H => ∃ (xs ys : List V) (x y : V), s1.sq K H xs ∧ s2.sq K H ys ∧ xs[i]? = some x ∧ ys[i]? = some y,
    fun i H v H' => ∃ T x y, v = .ref T ∧ H T = none ∧ H' = upd H T (.tup [x, y]) ∧ (∀ xs, s1.sq K H xs → xs[i]? = some x) ∧ ∀ ys, s2.sq K H ys → ys[i]? = some y,
    fun i H => ∃ xs ys : List V, s1.sq K H xs ∧ s2.sq K H ys ∧ min xs.length ys.length = i⟩
theorem vals_get {xs : List V} {its : List Value} {i : Nat} {x : V} {u : Value} (rv : Vals xs its) (hx : xs[i]? = some x) (hu : its.toArray[i]? = some u) : RelV x u := by
  obtain ⟨u', hu', ru⟩ := rv.get hx
  rw [List.getElem?_toArray, hu'] at hu
  cases hu
  exact ru
theorem turn_zip2 {elts : List Expr} {kk : Nat} {tpos : Pos} {s1 s2 : Src} {z TI TO i1 i2 : Addr} (S : ZipSep2 z TI TO i1 i2 [i1, s1.a] [i2, s2.a]) (n1 : s1.a ≠ i1) (n2 : s2.a ≠ i2) :
    Turn P w K (.Tuple elts kk tpos) (Itz2 K s1 s2) [z, TI, TO, i1, i2] z (fun i h => IsZip h z TI TO .none ∧ IsTupOf2 h TI (.ref i1) (.ref i2) ∧ (∃ a1 a2, IsTupOf2 h TO a1 a2) ∧ s1.it h i1 i ∧ s2.it h i2 i) := by
  refine turn_gen (wr := [z, TO, i1, i2]) (by simp) (fun b hb => ?_) (fun i h st b hb => ?_) (fun i h h' st k => ?_) ?_ ?_ ?_
  · have e' : b = z ∨ b = TO ∨ b = i1 ∨ b = i2 := by simpa using hb
    rcases e' with q | q | q | q <;> (rw [q]; simp)
  · obtain ⟨hz, hTI, ⟨x, y, hTO⟩, h1, h2⟩ := st
    have e' : b = z ∨ b = TI ∨ b = TO ∨ b = i1 ∨ b = i2 := by simpa using hb
    rcases e' with q | q | q | q | q
    · rw [q]; exact ⟨_, hz, fun v q => nomatch q⟩
    · rw [q]; exact ⟨_, hTI, fun v q => nomatch q⟩
    · rw [q]; exact ⟨_, hTO, fun v q => nomatch q⟩
    · rw [q]; exact src_obj h1
    · rw [q]; exact src_obj h2
  · obtain ⟨hz, hTI, ⟨x, y, hTO⟩, h1, h2⟩ := st
    exact ⟨k z (by simp) _ hz, k TI (by simp) _ hTI, ⟨x, y, k TO (by simp) _ hTO⟩, src_at (fun o q => k i1 (by simp) o q) h1, src_at (fun o q => k i2 (by simp) o q) h2⟩
  · intro X hP hw hK hc i pins s σ H I hf st hg
    subst hP hw hK
    obtain ⟨hz, hTI, hTO, h1, h2⟩ := st
    obtain ⟨xs, ys, x, y, hqx, hqy, hx, hy⟩ := hg
    obtain ⟨its, rv, p⟩ := src_inv I hqx
    obtain ⟨its2, rv2, p2⟩ := src_inv I hqy
    have D := src_draws (P := X.prog) (w := X.w) (A := X.A.in1) (show X.A.in1.handled = none from I.ok.hd hc) n1 its.toArray
    have D2 := src_draws (P := X.prog) (w := X.w) (A := X.A.in1) (show X.A.in1.handled = none from I.ok.hd hc) n2 its2.toArray
    refine ⟨_, _, _, _, _, WalksT.zipD2 S D D2, ?_, ⟨hz, hTI, hTO, ⟨h1, p⟩, h2, p2⟩, fun h ⟨st1, st2, st3, st4, st5⟩ => ⟨st1, st2, st3, st4.1, st5.1⟩, fun vals ⟨u, u2, hu, hu2, ev⟩ => ?_⟩
    · rw [List.size_toArray, List.size_toArray, ← rv.length, ← rv2.length]
      have l1 := (List.getElem?_eq_some_iff.mp hx).1
      have l2 := (List.getElem?_eq_some_iff.mp hy).1
      omega
    · subst ev
      exact ⟨[x, y], .cons (vals_get rv hx hu) (.cons (vals_get rv2 hy hu2) .nil), (by show 2 ≤ sizeLine; decide), fun T hT => ⟨T, x, y, rfl, hT, rfl, fun ws hw => by rw [src_inj I hw hqx]; exact hx, fun ws hw => by rw [src_inj I hw hqy]; exact hy⟩⟩
  · intro X hP hw hK hc i pins s σ H I hf st hg
    subst hP hw hK
    obtain ⟨hz, hTI, hTO, h1, h2⟩ := st
    obtain ⟨xs, ys, hqx, hqy, hx⟩ := hg
    obtain ⟨its, rv, p⟩ := src_inv I hqx
    obtain ⟨its2, rv2, p2⟩ := src_inv I hqy
    have D := src_draws (P := X.prog) (w := X.w) (A := X.A.in1) (show X.A.in1.handled = none from I.ok.hd hc) n1 its.toArray
    have D2 := src_draws (P := X.prog) (w := X.w) (A := X.A.in1) (show X.A.in1.handled = none from I.ok.hd hc) n2 its2.toArray
    have en : min its.toArray.size its2.toArray.size = i := by rw [List.size_toArray, List.size_toArray, ← rv.length, ← rv2.length]; exact hx
    exact ⟨_, _, _, _, _, WalksT.zipD2 S D D2, by rw [en]; exact ⟨hz, hTI, hTO, ⟨h1, p⟩, h2, p2⟩⟩
  · exact fun A i s Q E st h => wpAny_pyIter_zip st.1 h
def Itz3 (K : PySem.W.Frag) (s1 s2 s3 : Src) : It :=
  ⟨fun i H => ∃ (xs ys zs : List V) (x y z : V), s1.sq K H xs ∧ s2.sq K H ys ∧ s3.sq K H zs ∧ xs[i]? = some x ∧ ys[i]? = some y ∧ zs[i]? = some z,
    fun i H v H' => ∃ T x y z, v = .ref T ∧ H T = none ∧ H' = upd H T (.tup [x, y, z]) ∧ (∀ xs, s1.sq K H xs → xs[i]? = some x) ∧ (∀ ys, s2.sq K H ys → ys[i]? = some y) ∧ ∀ zs, s3.sq K H zs → zs[i]? = some z,
    fun i H => ∃ xs ys zs : List V, s1.sq K H xs ∧ s2.sq K H ys ∧ s3.sq K H zs ∧ min (min xs.length ys.length) zs.length = i⟩
theorem turn_zip3 {elts : List Expr} {kk : Nat} {tpos : Pos} {s1 s2 s3 : Src} {z TI TO i1 i2 i3 : Addr} (S : ZipSep3 z TI TO i1 i2 i3 [i1, s1.a] [i2, s2.a] [i3, s3.a]) (n1 : s1.a ≠ i1) (n2 : s2.a ≠ i2) (n3 : s3.a ≠ i3) :
    Turn P w K (.Tuple elts kk tpos) (Itz3 K s1 s2 s3) [z, TI, TO, i1, i2, i3] z (fun i h => IsZip h z TI TO .none ∧ IsTupOf3 h TI (.ref i1) (.ref i2) (.ref i3) ∧ (∃ a1 a2 a3, IsTupOf3 h TO a1 a2 a3) ∧ s1.it h i1 i ∧ s2.it h i2 i ∧ s3.it h i3 i) := by
  refine turn_gen (wr := [z, TO, i1, i2, i3]) (by simp) (fun b hb => ?_) (fun i h st b hb => ?_) (fun i h h' st k => ?_) ?_ ?_ ?_
  · have e' : b = z ∨ b = TO ∨ b = i1 ∨ b = i2 ∨ b = i3 := by simpa using hb
    rcases e' with q | q | q | q | q <;> (rw [q]; simp)
  · obtain ⟨hz, hTI, ⟨x, y, y', hTO⟩, h1, h2, h3⟩ := st
    have e' : b = z ∨ b = TI ∨ b = TO ∨ b = i1 ∨ b = i2 ∨ b = i3 := by simpa using hb
    rcases e' with q | q | q | q | q | q
    · rw [q]; exact ⟨_, hz, fun v q => nomatch q⟩
    · rw [q]; exact ⟨_, hTI, fun v q => nomatch q⟩
    · rw [q]; exact ⟨_, hTO, fun v q => nomatch q⟩
    · rw [q]; exact src_obj h1
    · rw [q]; exact src_obj h2
    · rw [q]; exact src_obj h3
  · obtain ⟨hz, hTI, ⟨x, y, y', hTO⟩, h1, h2, h3⟩ := st
    exact ⟨k z (by simp) _ hz, k TI (by simp) _ hTI, ⟨x, y, y', k TO (by simp) _ hTO⟩, src_at (fun o q => k i1 (by simp) o q) h1, src_at (fun o q => k i2 (by simp) o q) h2, src_at (fun o q => k i3 (by simp) o q) h3⟩
  · intro X hP hw hK hc i pins s σ H I hf st hg
    subst hP hw hK
    obtain ⟨hz, hTI, hTO, h1, h2, h3⟩ := st
    obtain ⟨xs, ys, zs, x, y, v, hqx, hqy, hqz, hx, hy, hv⟩ := hg
    obtain ⟨its, rv, p⟩ := src_inv I hqx
    obtain ⟨its2, rv2, p2⟩ := src_inv I hqy
    obtain ⟨its3, rv3, p3⟩ := src_inv I hqz
    have D := src_draws (P := X.prog) (w := X.w) (A := X.A.in1) (show X.A.in1.handled = none from I.ok.hd hc) n1 its.toArray
    have D2 := src_draws (P := X.prog) (w := X.w) (A := X.A.in1) (show X.A.in1.handled = none from I.ok.hd hc) n2 its2.toArray
    have D3 := src_draws (P := X.prog) (w := X.w) (A := X.A.in1) (show X.A.in1.handled = none from I.ok.hd hc) n3 its3.toArray
    refine ⟨_, _, _, _, _, WalksT.zipD3 S D D2 D3, ?_, ⟨hz, hTI, hTO, ⟨h1, p⟩, ⟨h2, p2⟩, h3, p3⟩, fun h ⟨st1, st2, st3, st4, st5, st6⟩ => ⟨st1, st2, st3, st4.1, st5.1, st6.1⟩, fun vals ⟨u, u2, u3, hu, hu2, hu3, ev⟩ => ?_⟩
    · rw [List.size_toArray, List.size_toArray, List.size_toArray, ← rv.length, ← rv2.length, ← rv3.length]
      have l1 := (List.getElem?_eq_some_iff.mp hx).1
      have l2 := (List.getElem?_eq_some_iff.mp hy).1
      have l3 := (List.getElem?_eq_some_iff.mp hv).1
      omega
    · subst ev
      exact ⟨[x, y, v], .cons (vals_get rv hx hu) (.cons (vals_get rv2 hy hu2) (.cons (vals_get rv3 hv hu3) .nil)), (by show 3 ≤ sizeLine; decide), fun T hT => ⟨T, x, y, v, rfl, hT, rfl, fun ws hw => by rw [src_inj I hw hqx]; exact hx, fun ws hw => by rw [src_inj I hw hqy]; exact hy, fun ws hw => by rw [src_inj I hw hqz]; exact hv⟩⟩
  · intro X hP hw hK hc i pins s σ H I hf st hg
    subst hP hw hK
    obtain ⟨hz, hTI, hTO, h1, h2, h3⟩ := st
    obtain ⟨xs, ys, zs, hqx, hqy, hqz, hx⟩ := hg
    obtain ⟨its, rv, p⟩ := src_inv I hqx
    obtain ⟨its2, rv2, p2⟩ := src_inv I hqy
    obtain ⟨its3, rv3, p3⟩ := src_inv I hqz
    have D := src_draws (P := X.prog) (w := X.w) (A := X.A.in1) (show X.A.in1.handled = none from I.ok.hd hc) n1 its.toArray
    have D2 := src_draws (P := X.prog) (w := X.w) (A := X.A.in1) (show X.A.in1.handled = none from I.ok.hd hc) n2 its2.toArray
    have D3 := src_draws (P := X.prog) (w := X.w) (A := X.A.in1) (show X.A.in1.handled = none from I.ok.hd hc) n3 its3.toArray
    have en : min (min its.toArray.size its2.toArray.size) its3.toArray.size = i := by rw [List.size_toArray, List.size_toArray, List.size_toArray, ← rv.length, ← rv2.length, ← rv3.length]; exact hx
    exact ⟨_, _, _, _, _, WalksT.zipD3 S D D2 D3, by rw [en]; exact ⟨hz, hTI, hTO, ⟨h1, p⟩, ⟨h2, p2⟩, h3, p3⟩⟩
  · exact fun A i s Q E st h => wpAny_pyIter_zip st.1 h

/-! ### how they begin -/
set_option maxHeartbeats 1000000 in
theorem meets_enum_new1 {v : Value} {o : Obj} {H : Heap → Prop} (B : Begins v o H) :
    Meets (Builtin.«enumerate.__new__» ⟨[.type "enumerate", v], []⟩) (fun _ R s => H s.heap ∧
      R (.ok (.ret (.ref (s.heap.push o).objs.size))) { s with heap := (s.heap.push o).push { cls := .type "enumerate", data := .fields #[.none, .bool false, .ref s.heap.objs.size, rawInt 0, .none, .none] } }) :=
  .of_wp fun prog w A R s h => by
    obtain ⟨hp, g, d, tk, os⟩ := s; obtain ⟨h1, h⟩ := h
    have hsub := sub_enumerate
    have q1 : ∀ {A' : Around} {E : Value → Shared → Prop} {Q : Value → Shared → Prop}, Q (.ref hp.objs.size) ⟨hp.push o, g, d, tk, os⟩ → wpAny (model prog w) A' (pyIter v) Q E ⟨hp, g, d, tk, os⟩ :=
      fun q => B.iter prog w _ _ ⟨hp, g, d, tk, os⟩ _ h1 q
    wp_walk using q1
    refine wpAny_stack_any fun st => wpAny_pure ?_
    split
    · rename_i c _ _ _ _ _
      cases (c == Value.type "enumerate")
      · wp_walk using q1
        exact ⟨_, rfl, h⟩
      · wp_walk using q1
        exact ⟨_, rfl, h⟩
    · wp_walk using q1
      exact ⟨_, rfl, h⟩
theorem enum_begins1 {A : Around} {E : Value → Shared → Prop} {v : Value} {o : Obj} {H : Heap → Prop} {Q : Value → Shared → Prop} (B : Begins v o H) (h1 : H s.heap)
    (h : ∀ h', IsEnum h' (s.heap.objs.size + 1) s.heap.objs.size 0 .none → h'.get? s.heap.objs.size = some o → h'.objs.size = s.heap.objs.size + 2 →
      (∀ b o, s.heap.get? b = some o → h'.get? b = some o) → Q (.ref (s.heap.objs.size + 1)) { s with heap := h' }) :
    wpAny (model P w) A (call (.type "enumerate") [v]) Q E s := by
  refine callType_new F.called_enumerate (by decide) (F.typeCall_enumerate_1 _) (F.newCall_enumerate_1 _) (fun obj => F.args_object_init_2 obj _) F.entry_enumerate_new
    (meets_enum_new1 B) ⟨h1, ?_⟩
  have hz : (s.heap.push o).objs.size = s.heap.objs.size + 1 := Heap.size_push ..
  show _ ∧ _
  rw [hz]
  have he : IsEnum ((s.heap.push o).push { cls := .type "enumerate", data := .fields #[.none, .bool false, .ref s.heap.objs.size, rawInt 0, .none, .none] }) (s.heap.objs.size + 1) s.heap.objs.size 0 .none := by
    have := Heap.get?_push_size (s.heap.push o) (o := { cls := .type "enumerate", data := .fields #[.none, .bool false, .ref s.heap.objs.size, rawInt 0, .none, .none] }) rfl
    rw [hz] at this; exact this
  refine ⟨⟨_, he, rfl⟩, h _ he (Heap.get?_push_of_some _ (Heap.get?_push_size _ B.free)) (by rw [Heap.size_push, hz]) fun b o x => Heap.get?_push_of_some _ (Heap.get?_push_of_some _ x)⟩
end
end DL
set_option Elab.async false
set_option linter.all false
set_option maxRecDepth 100000
set_option maxHeartbeats 400000
namespace DL
open PySem L2

/-! ### enumerate(..), zip(..) as what is walked -/
def iSrc1 (K : PySem.W.Frag) (mk : Src → It) (ta : TA) : TI := fun σ H R => ta σ H fun vs H1 => ∃ src xs, vs = [.ref src.a] ∧ src.sq K H1 xs ∧ R (mk src) H1
def iSrc2 (K : PySem.W.Frag) (ta : TA) : TI := fun σ H R => ta σ H fun vs H1 => ∃ s1 s2 xs ys, vs = [.ref s1.a, .ref s2.a] ∧ s1.sq K H1 xs ∧ s2.sq K H1 ys ∧ R (Itz2 K s1 s2) H1
def iSrc3 (K : PySem.W.Frag) (ta : TA) : TI := fun σ H R => ta σ H fun vs H1 => ∃ s1 s2 s3 xs ys zs, vs = [.ref s1.a, .ref s2.a, .ref s3.a] ∧ s1.sq K H1 xs ∧ s2.sq K H1 ys ∧ s3.sq K H1 zs ∧ R (Itz3 K s1 s2 s3) H1
section
variable {X : Cx} {p pos tpos : Pos} {elts : List Expr} {kk : Nat}
theorem pi_enumS {e : Expr} {ta : TA} (hg : Gl X "enumerate") (hm : X.mg "enumerate" = none) (ha : PA X [e] ta) (hs : starEach [e] X.env = [(false, eval e X.env)] := by rfl) :
    PI X (.Tuple elts kk tpos) (.Call (.Name "enumerate" p) [e] [] pos) (iSrc1 X.K (IteS X.K) ta) := by
  refine ⟨fun pins s σ H R I h => ?_⟩
  refine PyProof.Rows.Call_ (ld_blt I hg hm PyProof.Rows.boot_enumerate (PyProof.Rows.callWith_type1 (thn (ha.run pos pins s σ H _ I h) fun us s1 ⟨vs, H1, I1, r1, q1⟩ => ?_) hs rfl))
  obtain ⟨src, xs, ex, hq, q⟩ := q1
  subst ex
  cases r1 with
  | cons r rr =>
    cases rr
    cases r
    obtain ⟨its, rv, p'⟩ := src_inv I1 hq
    refine enum_begins1 (src_begins its.toArray) p' fun h' he hit hsz hk => wpAny_pyIter_enum he ?_
    have I2 : Inv X pins σ H1 { s1 with heap := h' } := I1.kept (t' := s1.toks) hk
    have lt := src_lt p'
    refine ⟨s1.heap.objs.size + 1, [s1.heap.objs.size + 1, s1.heap.objs.size], _, _, H1, rfl, I2, turn_enumS (e := s1.heap.objs.size + 1) (it := s1.heap.objs.size) (Nat.succ_ne_self _) (Nat.ne_of_lt (Nat.lt_succ_of_lt lt)) (Nat.ne_of_lt lt), ⟨⟨.none, he⟩, src_it0 hit⟩, fun b hb => ?_, q⟩
    have hle : s1.heap.objs.size ≤ b := by
      have e' : b = s1.heap.objs.size + 1 ∨ b = s1.heap.objs.size := by simpa using hb
      rcases e' with z | z
      · rw [z]; exact Nat.le_succ _
      · rw [z]; exact Nat.le_refl _
    exact I1.fpOk hle (I1.hok.fresh hle)
theorem lt1 {n a : Nat} (h : a < n) : ∀ b ∈ [a], b < n := fun b hb => by
  have e := List.mem_singleton.mp hb
  omega
theorem pi_zip2S {e e2 : Expr} {ta : TA} (hg : Gl X "zip") (hm : X.mg "zip" = none) (ha : PA X [e, e2] ta)
    (hs : starEach [e, e2] X.env = (false, eval e X.env) :: starEach [e2] X.env := by rfl) (hpl : (backTo pos (starEach [e2] X.env)).any (·.1) = false := by rfl) :
    PI X (.Tuple elts kk tpos) (.Call (.Name "zip" p) [e, e2] [] pos) (iSrc2 X.K ta) := by
  refine ⟨fun pins s σ H R I h => ?_⟩
  refine PyProof.Rows.Call_ (ld_blt I hg hm PyProof.Rows.boot_zip (PyProof.Rows.callWith_type1 (thn (ha.run pos pins s σ H _ I h) fun us s1 ⟨vs, H1, I1, r1, q1⟩ => ?_) hs hpl))
  obtain ⟨src, src2, xs, ys, ex, hq, hq2, q⟩ := q1
  subst ex
  obtain ⟨u1, u2, rfl, r1, r2⟩ := vals2 r1
  cases r1
  cases r2
  obtain ⟨its, rv, p1⟩ := src_inv I1 hq
  obtain ⟨its2, rv2, p2⟩ := src_inv I1 hq2
  refine zip_begins2 (src_begins its.toArray) (src_begins its2.toArray) p1 p2 fun h' hz hTI hTO h1 h2 hsz hk => wpAny_pyIter_zip hz ?_
  have I2 : Inv X pins σ H1 { s1 with heap := h' } := I1.kept (t' := s1.toks) hk
  refine ⟨s1.heap.objs.size + 4, [s1.heap.objs.size + 4, s1.heap.objs.size + 2, s1.heap.objs.size + 3, s1.heap.objs.size, s1.heap.objs.size + 1], _, _, H1, rfl, I2,
    turn_zip2 (zip_sep2 (lt1 (src_lt p1)) (lt1 (src_lt p2))) (Nat.ne_of_lt (src_lt p1)) (Nat.ne_of_lt (Nat.lt_succ_of_lt (src_lt p2))), ⟨hz, hTI, ⟨_, _, hTO⟩, src_it0 h1, src_it0 h2⟩, fun c hcm => ?_, q⟩
  have e' : c = s1.heap.objs.size + 4 ∨ c = s1.heap.objs.size + 2 ∨ c = s1.heap.objs.size + 3 ∨ c = s1.heap.objs.size ∨ c = s1.heap.objs.size + 1 := by simpa using hcm
  have hle : s1.heap.objs.size ≤ c := by
    rcases e' with z | z | z | z | z
    · rw [z]; exact Nat.le_add_right _ _
    · rw [z]; exact Nat.le_add_right _ _
    · rw [z]; exact Nat.le_add_right _ _
    · rw [z]; exact Nat.le_refl _
    · rw [z]; exact Nat.le_add_right _ _
  exact I1.fpOk hle (I1.hok.fresh hle)
theorem pi_zip3S {e e2 e3 : Expr} {ta : TA} (hg : Gl X "zip") (hm : X.mg "zip" = none) (ha : PA X [e, e2, e3] ta)
    (hs : starEach [e, e2, e3] X.env = (false, eval e X.env) :: starEach [e2, e3] X.env := by rfl) (hpl : (backTo pos (starEach [e2, e3] X.env)).any (·.1) = false := by rfl) :
    PI X (.Tuple elts kk tpos) (.Call (.Name "zip" p) [e, e2, e3] [] pos) (iSrc3 X.K ta) := by
  refine ⟨fun pins s σ H R I h => ?_⟩
  refine PyProof.Rows.Call_ (ld_blt I hg hm PyProof.Rows.boot_zip (PyProof.Rows.callWith_type1 (thn (ha.run pos pins s σ H _ I h) fun us s1 ⟨vs, H1, I1, r1, q1⟩ => ?_) hs hpl))
  obtain ⟨src, src2, src3, xs, ys, zs, ex, hq, hq2, hq3, q⟩ := q1
  subst ex
  obtain ⟨u1, u2, u3, rfl, r1, r2, r3⟩ : ∃ u1 u2 u3, us = [u1, u2, u3] ∧ RelV (.ref src.a) u1 ∧ RelV (.ref src2.a) u2 ∧ RelV (.ref src3.a) u3 := by
    cases r1 with
    | cons a r => cases r with
      | cons b r => cases r with
        | cons c r => cases r; exact ⟨_, _, _, rfl, a, b, c⟩
  cases r1
  cases r2
  cases r3
  obtain ⟨its, rv, p1⟩ := src_inv I1 hq
  obtain ⟨its2, rv2, p2⟩ := src_inv I1 hq2
  obtain ⟨its3, rv3, p3⟩ := src_inv I1 hq3
  refine zip_begins3 (src_begins its.toArray) (src_begins its2.toArray) (src_begins its3.toArray) p1 p2 p3 fun h' hz hTI hTO h1 h2 h3 hsz hk => wpAny_pyIter_zip hz ?_
  have I2 : Inv X pins σ H1 { s1 with heap := h' } := I1.kept (t' := s1.toks) hk
  refine ⟨s1.heap.objs.size + 5, [s1.heap.objs.size + 5, s1.heap.objs.size + 3, s1.heap.objs.size + 4, s1.heap.objs.size, s1.heap.objs.size + 1, s1.heap.objs.size + 2], _, _, H1, rfl, I2,
    turn_zip3 (zip_sep3 (lt1 (src_lt p1)) (lt1 (src_lt p2)) (lt1 (src_lt p3))) (Nat.ne_of_lt (src_lt p1)) (Nat.ne_of_lt (Nat.lt_succ_of_lt (src_lt p2))) (Nat.ne_of_lt (Nat.lt_succ_of_lt (Nat.lt_succ_of_lt (src_lt p3)))), ⟨hz, hTI, ⟨_, _, _, hTO⟩, src_it0 h1, src_it0 h2, src_it0 h3⟩, fun c hcm => ?_, q⟩
  have e' : c = s1.heap.objs.size + 5 ∨ c = s1.heap.objs.size + 3 ∨ c = s1.heap.objs.size + 4 ∨ c = s1.heap.objs.size ∨ c = s1.heap.objs.size + 1 ∨ c = s1.heap.objs.size + 2 := by simpa using hcm
  have hle : s1.heap.objs.size ≤ c := by
    rcases e' with z | z | z | z | z | z
    · rw [z]; exact Nat.le_add_right _ _
    · rw [z]; exact Nat.le_add_right _ _
    · rw [z]; exact Nat.le_add_right _ _
    · rw [z]; exact Nat.le_refl _
    · rw [z]; exact Nat.le_add_right _ _
    · rw [z]; exact Nat.le_add_right _ _
  exact I1.fpOk hle (I1.hok.fresh hle)
end

/-! ### over data -/
def zipD (xs ys : List D) : List D := List.zipWith (fun x y => PyData.tuple [x, y]) xs ys
def zip3D : List D → List D → List D → List D
  | x :: xs, y :: ys, z :: zs => .tuple [x, y, z] :: zip3D xs ys zs
  | _, _, _ => []
theorem zipD_len {xs ys : List D} : (zipD xs ys).length = min xs.length ys.length := by simp [zipD]
theorem zip3D_len : ∀ {xs ys zs : List D}, (zip3D xs ys zs).length = min (min xs.length ys.length) zs.length
  | [], _, _ => by simp [zip3D]
  | _ :: _, [], _ => by simp [zip3D]
  | _ :: _, _ :: _, [] => by simp [zip3D]
  | _ :: xs, _ :: ys, _ :: zs => by
    show (zip3D xs ys zs).length + 1 = _
    rw [zip3D_len]
    simp only [List.length_cons]
    omega
theorem zipD_get {xs ys : List D} {i : Nat} {d e : D} (h : xs[i]? = some d) (h2 : ys[i]? = some e) : (zipD xs ys)[i]? = some (.tuple [d, e]) := by
  simp [zipD, List.getElem?_zipWith, h, h2]
theorem zip3D_get : ∀ {xs ys zs : List D} {i : Nat} {d e f : D}, xs[i]? = some d → ys[i]? = some e → zs[i]? = some f → (zip3D xs ys zs)[i]? = some (.tuple [d, e, f])
  | [], _, _, i, _, _, _, h, _, _ => by simp at h
  | _ :: _, [], _, i, _, _, _, _, h, _ => by simp at h
  | _ :: _, _ :: _, [], i, _, _, _, _, _, h => by simp at h
  | x :: xs, y :: ys, z :: zs, 0, d, e, f, h1, h2, h3 => by
    simp at h1 h2 h3
    subst h1 h2 h3
    rfl
  | x :: xs, y :: ys, z :: zs, i + 1, d, e, f, h1, h2, h3 => by
    show (zip3D xs ys zs)[i]? = _
    exact zip3D_get (by simpa using h1) (by simpa using h2) (by simpa using h3)
/-- a new tuple at each turn -/
theorem tupD {F H : Hp} {K : PySem.W.Frag} {T : Addr} {vs : List V} {ds : List D} (s : Same F H) (h : H T = none) (hx : DqAll K F vs ds) :
    ∃ F', Same F F' ∧ Same F' (upd H T (.tup vs)) ∧ Same H (upd H T (.tup vs)) ∧ (∀ a, F a = none → F' a ≠ none → H a = none) ∧ Dq K F' (.ref T) (.tuple ds) := by
  have hF := s.free h
  refine ⟨upd F T (.tup vs), upd_same_of hF, fun b u hb => ?_, upd_same_of h, fun a h1 h2 => ?_, .tup (SqT.of upd_same) (dpAll_mono (upd_same_of hF) _ _ hx)⟩
  · by_cases z : b = T
    · subst z; rw [upd_same] at hb ⊢; exact hb
    · rw [upd_ne z] at hb ⊢; exact s _ _ hb
  · by_cases z : a = T
    · subst z; exact h
    · rw [upd_ne z] at h2; exact absurd h1 h2
section
variable {K : PySem.W.Frag} {src s1 s2 s3 : Src} {xs ys zs : List D}
def SrcG (K : PySem.W.Frag) (src : Src) (xs : List D) (F H : Hp) : Prop := ∃ vs, src.sq K H vs ∧ DqAll K F vs xs
theorem walkD_enumS : WalkD K (IteS K src) (enumD xs) (SrcG K src xs) where
  go := fun i F H hi _ ⟨vs, h1, h2⟩ => ⟨vs, vs[i]'(by rw [h2.len]; rw [enumD_len] at hi; exact hi), h1, by rw [enumD_len] at hi; simp [h2.len, hi]⟩
  stop := fun F H _ ⟨vs, h1, h2⟩ => ⟨vs, h1, by rw [enumD_len]; exact h2.len⟩
  yld := fun i F H x H' hi s ⟨vs, h1, h2⟩ ⟨T, u, e1, e2, e3, y⟩ => by
    subst e1 e3
    obtain ⟨d, h3, h4⟩ := h2.getV (y vs h1)
    obtain ⟨F', q1, q2, q3, q4, q5⟩ := tupD s e2 (.cons (.int (i : Nat)) (.cons h4 .nil))
    exact ⟨F', _, enumD_get h3, q1, q2, q3, q4, q5⟩
theorem get_some {α : Type} {l : List α} {i : Nat} (h : i < l.length) : ∃ x, l[i]? = some x := ⟨l[i], by simp [h]⟩
theorem walkD_zip2 : WalkD K (Itz2 K s1 s2) (zipD xs ys) (fun F H => SrcG K s1 xs F H ∧ SrcG K s2 ys F H) where
  go := fun i F H hi _ ⟨⟨vs, h1, h2⟩, ⟨ws, h3, h4⟩⟩ => by
    rw [zipD_len] at hi
    obtain ⟨v, hv⟩ := get_some (l := vs) (i := i) (by rw [h2.len]; omega)
    obtain ⟨w, hw⟩ := get_some (l := ws) (i := i) (by rw [h4.len]; omega)
    exact ⟨vs, ws, v, w, h1, h3, hv, hw⟩
  stop := fun F H _ ⟨⟨vs, h1, h2⟩, ⟨ws, h3, h4⟩⟩ => ⟨vs, ws, h1, h3, by rw [zipD_len, h2.len, h4.len]⟩
  yld := fun i F H x H' hi s ⟨⟨vs, h1, h2⟩, ⟨ws, h3, h4⟩⟩ ⟨T, u, u2, e1, e2, e3, y, y2⟩ => by
    subst e1 e3
    obtain ⟨d, g3, g4⟩ := h2.getV (y vs h1)
    obtain ⟨e, g5, g6⟩ := h4.getV (y2 ws h3)
    obtain ⟨F', q1, q2, q3, q4, q5⟩ := tupD s e2 (.cons g4 (.cons g6 .nil))
    exact ⟨F', _, zipD_get g3 g5, q1, q2, q3, q4, q5⟩
theorem walkD_zip3 : WalkD K (Itz3 K s1 s2 s3) (zip3D xs ys zs) (fun F H => SrcG K s1 xs F H ∧ SrcG K s2 ys F H ∧ SrcG K s3 zs F H) where
  go := fun i F H hi _ ⟨⟨vs, h1, h2⟩, ⟨ws, h3, h4⟩, ⟨us, h5, h6⟩⟩ => by
    rw [zip3D_len] at hi
    obtain ⟨v, hv⟩ := get_some (l := vs) (i := i) (by rw [h2.len]; omega)
    obtain ⟨w, hw⟩ := get_some (l := ws) (i := i) (by rw [h4.len]; omega)
    obtain ⟨u, hu⟩ := get_some (l := us) (i := i) (by rw [h6.len]; omega)
    exact ⟨vs, ws, us, v, w, u, h1, h3, h5, hv, hw, hu⟩
  stop := fun F H _ ⟨⟨vs, h1, h2⟩, ⟨ws, h3, h4⟩, ⟨us, h5, h6⟩⟩ => ⟨vs, ws, us, h1, h3, h5, by rw [zip3D_len, h2.len, h4.len, h6.len]⟩
  yld := fun i F H x H' hi s ⟨⟨vs, h1, h2⟩, ⟨ws, h3, h4⟩, ⟨us, h5, h6⟩⟩ ⟨T, u, u2, u3, e1, e2, e3, y, y2, y3⟩ => by
    subst e1 e3
    obtain ⟨d, g3, g4⟩ := h2.getV (y vs h1)
    obtain ⟨e, g5, g6⟩ := h4.getV (y2 ws h3)
    obtain ⟨f, g7, g8⟩ := h6.getV (y3 us h5)
    obtain ⟨F', q1, q2, q3, q4, q5⟩ := tupD s e2 (.cons g4 (.cons g6 (.cons g8 .nil)))
    exact ⟨F', _, zip3D_get g3 g5 g7, q1, q2, q3, q4, q5⟩
end

/-! ### for: what is walked is frozen -/
theorem src_frz {K : PySem.W.Frag} {F H : Hp} {v : V} {d : D} {k : List D → Prop} (s : Same F H) (p : Dq K F v d) (h : seqW d k) : ∃ (src : Src) (xs : List D), v = .ref src.a ∧ k xs ∧ ∀ F2 H2, Same F F2 → Same F2 H2 → SrcG K src xs F2 H2 := by
  cases d with
  | list xs =>
    cases p with
    | lst h3 h4 => exact ⟨⟨false, _⟩, xs, rfl, h, fun F2 H2 x1 x2 => ⟨_, x2.seq (x1.seq h3), dpAll_mono x1 _ _ h4⟩⟩
  | tuple xs =>
    cases p with
    | tup h3 h4 => exact ⟨⟨true, _⟩, xs, rfl, h, fun F2 H2 x1 x2 => ⟨_, Same.sqT x2 (Same.sqT x1 h3), dpAll_mono x1 _ _ h4⟩⟩
  | _ => exact (show False from h).elim
def seq1 (ds : List D) (k : List D → Prop) : Prop := match ds with
  | [d] => seqW d k
  | _ => False
def seq2 (ds : List D) (k : List D → List D → Prop) : Prop := match ds with
  | [d, e] => seqW d fun xs => seqW e fun ys => k xs ys
  | _ => False
def seq3 (ds : List D) (k : List D → List D → List D → Prop) : Prop := match ds with
  | [d, e, f] => seqW d fun xs => seqW e fun ys => seqW f fun zs => k xs ys zs
  | _ => False
def diEnum (t : DTA) : DTI := fun τ q => t τ fun es τ1 => frzs es τ1 fun ds τ2 => seq1 ds fun xs => q (enumD xs) τ2
def diZip2 (t : DTA) : DTI := fun τ q => t τ fun es τ1 => frzs es τ1 fun ds τ2 => seq2 ds fun xs ys => q (zipD xs ys) τ2
def diZip3 (t : DTA) : DTI := fun τ q => t τ fun es τ1 => frzs es τ1 fun ds τ2 => seq3 ds fun xs ys zs => q (zip3D xs ys zs) τ2
section
variable {X : Cx} {ta : DTA} {p pos tpos : Pos} {elts : List Expr} {kk : Nat}
theorem di_enum {e : Expr} (hg : Gl X "enumerate") (hm : X.mg "enumerate" = none) (ha : DA X [e] ta) (hs : starEach [e] X.env = [(false, eval e X.env)] := by rfl) : DI X (.Tuple elts kk tpos) (.Call (.Name "enumerate" p) [e] [] pos) (diEnum ta) := by
  refine pi_imp (pi_enumS hg hm ha hs) fun σ H Rr ⟨Z, F, τ, q, r, ht, k⟩ => ?_
  refine ⟨Z, F, τ, _, r, ht, fun F1 τ1 H1 ws r1 g1 e1 h1 => ?_⟩
  obtain ⟨F2, τ2, ds, r2, g2, p2, h2, s2, _⟩ := frzs_ok r1 g1 e1 h1
  revert p2 h2
  generalize ws.map (·.2) = vs
  intro p2 h2
  cases p2 with
  | nil => exact (show False from h2).elim
  | cons d1 p2 =>
    cases p2 with
    | cons _ _ => exact (show False from h2).elim
    | nil =>
      obtain ⟨src, xs, rfl, h3, G⟩ := src_frz r2.sub d1 h2
      obtain ⟨us, hq, _⟩ := G F2 H1 (Same.refl _) r2.sub
      exact ⟨src, us, rfl, hq, k F2 τ2 H1 _ _ _ r2 g2 walkD_enumS G h3⟩
theorem di_zip2 {e e2 : Expr} (hg : Gl X "zip") (hm : X.mg "zip" = none) (ha : DA X [e, e2] ta) (hs : starEach [e, e2] X.env = (false, eval e X.env) :: starEach [e2] X.env := by rfl) (hpl : (backTo pos (starEach [e2] X.env)).any (·.1) = false := by rfl) :
    DI X (.Tuple elts kk tpos) (.Call (.Name "zip" p) [e, e2] [] pos) (diZip2 ta) := by
  refine pi_imp (pi_zip2S hg hm ha hs hpl) fun σ H Rr ⟨Z, F, τ, q, r, ht, k⟩ => ?_
  refine ⟨Z, F, τ, _, r, ht, fun F1 τ1 H1 ws r1 g1 e1 h1 => ?_⟩
  obtain ⟨F2, τ2, ds, r2, g2, p2, h2, s2, _⟩ := frzs_ok r1 g1 e1 h1
  revert p2 h2
  generalize ws.map (·.2) = vs
  intro p2 h2
  cases p2 with
  | nil => exact (show False from h2).elim
  | cons d1 p2 =>
    cases p2 with
    | nil => exact (show False from h2).elim
    | cons d2 p2 =>
      cases p2 with
      | cons _ _ => exact (show False from h2).elim
      | nil =>
        obtain ⟨src, xs, rfl, h3, G⟩ := src_frz r2.sub d1 h2
        obtain ⟨src2, ys, rfl, h4, G2⟩ := src_frz r2.sub d2 h3
        obtain ⟨us, hq, _⟩ := G F2 H1 (Same.refl _) r2.sub
        obtain ⟨us2, hq2, _⟩ := G2 F2 H1 (Same.refl _) r2.sub
        exact ⟨src, src2, us, us2, rfl, hq, hq2, k F2 τ2 H1 _ _ _ r2 g2 walkD_zip2 (fun F3 H3 x1 x2 => ⟨G F3 H3 x1 x2, G2 F3 H3 x1 x2⟩) h4⟩
theorem di_zip3 {e e2 e3 : Expr} (hg : Gl X "zip") (hm : X.mg "zip" = none) (ha : DA X [e, e2, e3] ta) (hs : starEach [e, e2, e3] X.env = (false, eval e X.env) :: starEach [e2, e3] X.env := by rfl) (hpl : (backTo pos (starEach [e2, e3] X.env)).any (·.1) = false := by rfl) :
    DI X (.Tuple elts kk tpos) (.Call (.Name "zip" p) [e, e2, e3] [] pos) (diZip3 ta) := by
  refine pi_imp (pi_zip3S hg hm ha hs hpl) fun σ H Rr ⟨Z, F, τ, q, r, ht, k⟩ => ?_
  refine ⟨Z, F, τ, _, r, ht, fun F1 τ1 H1 ws r1 g1 e1 h1 => ?_⟩
  obtain ⟨F2, τ2, ds, r2, g2, p2, h2, s2, _⟩ := frzs_ok r1 g1 e1 h1
  revert p2 h2
  generalize ws.map (·.2) = vs
  intro p2 h2
  cases p2 with
  | nil => exact (show False from h2).elim
  | cons d1 p2 =>
    cases p2 with
    | nil => exact (show False from h2).elim
    | cons d2 p2 =>
      cases p2 with
      | nil => exact (show False from h2).elim
      | cons d3 p2 =>
        cases p2 with
        | cons _ _ => exact (show False from h2).elim
        | nil =>
          obtain ⟨src, xs, rfl, h3, G⟩ := src_frz r2.sub d1 h2
          obtain ⟨src2, ys, rfl, h4, G2⟩ := src_frz r2.sub d2 h3
          obtain ⟨src3, zs, rfl, h5, G3⟩ := src_frz r2.sub d3 h4
          obtain ⟨us, hq, _⟩ := G F2 H1 (Same.refl _) r2.sub
          obtain ⟨us2, hq2, _⟩ := G2 F2 H1 (Same.refl _) r2.sub
          obtain ⟨us3, hq3, _⟩ := G3 F2 H1 (Same.refl _) r2.sub
          exact ⟨src, src2, src3, us, us2, us3, rfl, hq, hq2, hq3, k F2 τ2 H1 _ _ _ r2 g2 walkD_zip3 (fun F3 H3 x1 x2 => ⟨G F3 H3 x1 x2, G2 F3 H3 x1 x2, G3 F3 H3 x1 x2⟩) h5⟩
end

/-! ### comprehensions: nothing is frozen -/
def srcW (τ1 : DSt) (ev : EV) (k : List D → (DSt → Prop) → Prop) : Prop := match ev with
  | .slot i => lstW τ1[i]? fun mk xs => k xs (fun τ2 => τ2[i]? = some (mk xs))
  | .dat d => seqW d fun xs => k xs (fun _ => True)
  | .tmp xs => k xs (fun _ => True)
theorem src_ok {K : PySem.W.Frag} {Z : Fz} {Hb F1 H1 : Hp} {τ1 : DSt} {σ : L2.St} {ev : EV} {v : V} {k : List D → (DSt → Prop) → Prop} (r1 : R K Z F1 τ1 σ H1) (e1 : EVR K Z Hb F1 H1 τ1 σ ev v) (h1 : srcW τ1 ev k) :
    ∃ (src : Src) (xs : List D) (stay : DSt → Prop), v = .ref src.a ∧ k xs stay ∧ (∃ vs, src.sq K H1 vs) ∧
      ∀ F2 τ2 σ2 H2, R K Z F2 τ2 σ2 H2 → Sub2 σ2 σ → Same F1 F2 → (∀ a o, H1 a = some o → ¬ Own τ1 σ a → H2 a = some o) → stay τ2 → SrcG K src xs F2 H2 := by
  cases ev with
  | dat d =>
    have p2 : Dq K F1 v d := e1
    cases d with
    | list xs =>
      cases p2 with
      | lst h3 h4 => exact ⟨⟨false, _⟩, xs, _, rfl, h1, ⟨_, r1.sub.seq h3⟩, fun F3 τ3 σ3 H3 r3 _ x1 _ _ => ⟨_, r3.sub.seq (x1.seq h3), dpAll_mono x1 _ _ h4⟩⟩
    | tuple xs =>
      cases p2 with
      | tup h3 h4 => exact ⟨⟨true, _⟩, xs, _, rfl, h1, ⟨_, Same.sqT r1.sub h3⟩, fun F3 τ3 σ3 H3 r3 _ x1 _ _ => ⟨_, Same.sqT r3.sub (Same.sqT x1 h3), dpAll_mono x1 _ _ h4⟩⟩
    | _ => exact (show False from h1).elim
  | tmp xs =>
    obtain ⟨a, vs, e0, q1, q2, q3, q4, q5, q6⟩ := e1
    subst e0
    exact ⟨⟨false, a⟩, xs, _, rfl, h1, ⟨vs, SqL.of q1⟩, fun F3 τ3 σ3 H3 r3 _ x1 x2 _ => ⟨vs, SqL.of (x2 a _ q1 q5), dpAll_mono x1 _ _ q6⟩⟩
  | slot i =>
    have h1 : lstW τ1[i]? fun mk xs => k xs (fun τ2 => τ2[i]? = some (mk xs)) := h1
    obtain ⟨mk, xs, hm, ho, h1⟩ := lstW_of h1
    obtain ⟨a, vs, q0, q1, q2, q3⟩ := slot_lst r1 hm ho
    have z := e1.1
    rw [q0] at z
    cases z
    exact ⟨⟨false, a⟩, xs, _, rfl, h1, ⟨vs, SqL.of q1⟩, fun F3 τ3 σ3 H3 r3 sb x1 x2 st => by
      obtain ⟨a', vs', z0, z1, z2, z3⟩ := slot_lst r3 hm st
      have z4 := sb i _ z0
      rw [q0] at z4
      cases z4
      exact ⟨vs', SqL.of z1, z3⟩⟩
def dcEnum (t : DTA) : DTC := fun τ q => t τ fun es τ1 => match es with
  | [e] => srcW τ1 e fun xs stay => q (enumD xs) stay τ1
  | _ => False
def dcZip2 (t : DTA) : DTC := fun τ q => t τ fun es τ1 => match es with
  | [e, e2] => srcW τ1 e fun xs stay => srcW τ1 e2 fun ys stay2 => q (zipD xs ys) (fun τ => stay τ ∧ stay2 τ) τ1
  | _ => False
def dcZip3 (t : DTA) : DTC := fun τ q => t τ fun es τ1 => match es with
  | [e, e2, e3] => srcW τ1 e fun xs stay => srcW τ1 e2 fun ys stay2 => srcW τ1 e3 fun zs stay3 => q (zip3D xs ys zs) (fun τ => stay τ ∧ stay2 τ ∧ stay3 τ) τ1
  | _ => False
section
variable {X : Cx} {ta : DTA} {p pos tpos : Pos} {elts : List Expr} {kk : Nat}
theorem dc_enum {e : Expr} (hg : Gl X "enumerate") (hm : X.mg "enumerate" = none) (ha : DA X [e] ta) (hs : starEach [e] X.env = [(false, eval e X.env)] := by rfl) : DC X (.Tuple elts kk tpos) (.Call (.Name "enumerate" p) [e] [] pos) (dcEnum ta) := by
  refine pi_imp (pi_enumS hg hm ha hs) fun σ H Rr ⟨Z, F, τ, q, r, ht, k⟩ => ?_
  refine ⟨Z, F, τ, _, r, ht, fun F1 τ1 H1 ws r1 g1 e1 h1 => ?_⟩
  match ws, e1, h1 with
  | [(ev, v)], e1, h1 =>
    obtain ⟨src, xs, stay, e0, h2, ⟨vs, hq⟩, G⟩ := src_ok r1 (e1.1 _ List.mem_cons_self) h1
    have e0 : v = .ref src.a := e0
    subst e0
    exact ⟨src, vs, rfl, hq, k F1 τ1 H1 _ _ stay _ r1 g1 walkD_enumS (fun F2 τ2 σ2 H2 a b c d e => G F2 τ2 σ2 H2 a b c d e) h2⟩
theorem dc_zip2 {e e2 : Expr} (hg : Gl X "zip") (hm : X.mg "zip" = none) (ha : DA X [e, e2] ta) (hs : starEach [e, e2] X.env = (false, eval e X.env) :: starEach [e2] X.env := by rfl) (hpl : (backTo pos (starEach [e2] X.env)).any (·.1) = false := by rfl) :
    DC X (.Tuple elts kk tpos) (.Call (.Name "zip" p) [e, e2] [] pos) (dcZip2 ta) := by
  refine pi_imp (pi_zip2S hg hm ha hs hpl) fun σ H Rr ⟨Z, F, τ, q, r, ht, k⟩ => ?_
  refine ⟨Z, F, τ, _, r, ht, fun F1 τ1 H1 ws r1 g1 e1 h1 => ?_⟩
  match ws, e1, h1 with
  | [(ev, v), (ev2, v2)], e1, h1 =>
    obtain ⟨src, xs, stay, e0, h2, ⟨vs, hq⟩, G⟩ := src_ok r1 (e1.1 _ List.mem_cons_self) h1
    obtain ⟨src2, ys, stay2, e02, h3, ⟨vs2, hq2⟩, G2⟩ := src_ok r1 (e1.1 _ (List.mem_cons_of_mem _ List.mem_cons_self)) h2
    have e0 : v = .ref src.a := e0
    have e02 : v2 = .ref src2.a := e02
    subst e0 e02
    exact ⟨src, src2, vs, vs2, rfl, hq, hq2, k F1 τ1 H1 _ _ _ _ r1 g1 walkD_zip2 (fun F2 τ2 σ2 H2 a b c d e => ⟨G F2 τ2 σ2 H2 a b c d e.1, G2 F2 τ2 σ2 H2 a b c d e.2⟩) h3⟩
theorem dc_zip3 {e e2 e3 : Expr} (hg : Gl X "zip") (hm : X.mg "zip" = none) (ha : DA X [e, e2, e3] ta) (hs : starEach [e, e2, e3] X.env = (false, eval e X.env) :: starEach [e2, e3] X.env := by rfl) (hpl : (backTo pos (starEach [e2, e3] X.env)).any (·.1) = false := by rfl) :
    DC X (.Tuple elts kk tpos) (.Call (.Name "zip" p) [e, e2, e3] [] pos) (dcZip3 ta) := by
  refine pi_imp (pi_zip3S hg hm ha hs hpl) fun σ H Rr ⟨Z, F, τ, q, r, ht, k⟩ => ?_
  refine ⟨Z, F, τ, _, r, ht, fun F1 τ1 H1 ws r1 g1 e1 h1 => ?_⟩
  match ws, e1, h1 with
  | [(ev, v), (ev2, v2), (ev3, v3)], e1, h1 =>
    obtain ⟨src, xs, stay, e0, h2, ⟨vs, hq⟩, G⟩ := src_ok r1 (e1.1 _ List.mem_cons_self) h1
    obtain ⟨src2, ys, stay2, e02, h3, ⟨vs2, hq2⟩, G2⟩ := src_ok r1 (e1.1 _ (List.mem_cons_of_mem _ List.mem_cons_self)) h2
    obtain ⟨src3, zs, stay3, e03, h4, ⟨vs3, hq3⟩, G3⟩ := src_ok r1 (e1.1 _ (List.mem_cons_of_mem _ (List.mem_cons_of_mem _ List.mem_cons_self))) h3
    have e0 : v = .ref src.a := e0
    have e02 : v2 = .ref src2.a := e02
    have e03 : v3 = .ref src3.a := e03
    subst e0 e02 e03
    exact ⟨src, src2, src3, vs, vs2, vs3, rfl, hq, hq2, hq3, k F1 τ1 H1 _ _ _ _ r1 g1 walkD_zip3 (fun F2 τ2 σ2 H2 a b c d e => ⟨G F2 τ2 σ2 H2 a b c d e.1, G2 F2 τ2 σ2 H2 a b c d e.2.1, G3 F2 τ2 σ2 H2 a b c d e.2.2⟩) h4⟩
end
end DL
set_option Elab.async false
set_option linter.all false
set_option maxRecDepth 100000
set_option maxHeartbeats 400000
namespace DL
open PySem L2

/-! ### the law's end -/
/-- what a law promises: on a list of at most 63 ints it gives True -/
def lawSp : DSp := fun as q => ∃ ns : List Int, as = [.dat (.list (ns.map PyData.int))] ∧ ns.length ≤ 63 ∧ q (.dat (.bool true)) []
theorem ints_dq {K : PySem.W.Frag} {F : Hp} : ∀ ns : List Int, DqAll K F (ns.map V.int) (ns.map PyData.int)
  | [] => .nil
  | _ :: r => .cons (.int _) (ints_dq r)
/-- what the law holds of the script: nothing else is tracked -/
def scriptHp (K : PySem.W.Frag) (a : Addr) (ob : Obj) (xs : List V) : Hp := fun b => if b = a then (if (K.lookup a).isSome = true then none else some (.frz ob (.lst xs))) else none
theorem scriptHp_off {K : PySem.W.Frag} {a : Addr} {ob : Obj} {xs : List V} {b : Addr} (h : b ≠ a) : scriptHp K a ob xs b = none := if_neg h
theorem scriptHp_some {K : PySem.W.Frag} {a : Addr} {ob : Obj} {xs : List V} {b : Addr} {u : HO} (h : scriptHp K a ob xs b = some u) : b = a ∧ K.lookup a = none ∧ u = .frz ob (.lst xs) := by
  by_cases z : b = a
  · subst z
    unfold scriptHp at h
    rw [if_pos rfl] at h
    cases e : K.lookup b with
    | none =>
      rw [e, if_neg (by simp)] at h
      cases h
      exact ⟨rfl, rfl, rfl⟩
    | some o => rw [e] at h; cases h
  · rw [scriptHp_off z] at h; cases h
section
variable {P : Program} {w : World} {K : PySem.W.Frag} {mg mb : Str → Option Value} {k : Nat} {fa a : Addr} {fd : FuncData} {x : Str} {s₁ : Shared} {vs : List Value} {ns : List Int}
theorem law_end (KX : K.In s₁.heap) (hns : s₁.heap.Ns mainGlobals mg) (hb : s₁.heap.Ns builtinsNs mb) (hbb : ∀ x : Str, x ≠ "__name__" → mb x = bootBuiltins x) (hlim : s₁.heap.NoLimit) (hg : s₁.gens = #[])
    (ha : s₁.heap.get? a = some { cls := .type "list", data := .seq vs.toArray }) (hi : PyProof.Rows.IntsAre vs ns) (hl : ns.length ≤ 63) (hr : Room k callerA)
    (F : ∀ base : Heap, K.In base → base.Ns mainGlobals mg → FnG P w K mg base k fa fd [x] (toSp K lawSp)) (hbind : ∀ (s : Shared) (u : Value), BindsTo s fd ⟨[u], []⟩ [(x, u)]) :
    codeAny (model P w) callerA (.call (.ref fa) ⟨[.ref a], []⟩) (fun r s' => r = .ok (.ret (.bool true)) ∧ OldK s₁.heap s'.heap ∧ s'.os = s₁.os ∧ PyProof.Rows.AllBare s'.gens) s₁ := by
  have hz : ns.length ≤ sizeLine := Nat.le_trans hl (by decide)
  let H : Hp := scriptHp K a { cls := .type "list", data := .seq vs.toArray } (ns.map V.int)
  have rv := vals_ints hi
  have sq : SqL K H a (ns.map V.int) := by
    cases e : K.lookup a with
    | none => exact .inl (.inr ⟨{ cls := .type "list", data := .seq vs.toArray }, by show scriptHp K a _ _ a = _; unfold scriptHp; rw [if_pos rfl, e]; rfl⟩)
    | some o =>
      have e2 := KX a o e
      rw [ha] at e2
      cases e2
      exact .inr ⟨_, vs.toArray, _, e, rfl, rfl, rfl, by rw [List.size_toArray, hi.length]; exact hz, by simpa using rv⟩
  have okH : HOk P w H s₁.heap := fun b u hu => by
    obtain ⟨rfl, _, rfl⟩ := scriptHp_some hu
    exact ⟨ha, by rw [List.length_map]; exact hz, vs, _, rv, ha⟩
  have offD : ∀ {b : Addr} {o : Obj} {es : Array DictEntry} {ep : Nat}, s₁.heap.get? b = some o → o.data = .dict es ep → H b = none := fun {b o es ep} e d => none_of fun z => by
    obtain ⟨u, z⟩ := ne_some z
    obtain ⟨rfl, _, _⟩ := scriptHp_some z
    rw [ha] at e
    cases e
    cases (show Data.seq vs.toArray _ = Data.dict es ep from d)
  have nsT : ∀ {b : Addr} {m : Str → Option Value}, s₁.heap.Ns b m → (hidT s₁.heap H).Ns b m := fun {b m} ⟨o, es, ep, e, d, r⟩ => ⟨o, es, ep, hidT_get e (offD e d), d, r⟩
  have kT : K.In (hidT s₁.heap H) := fun b o e => hidT_get (KX b o e) (none_of fun z => by
    obtain ⟨u, z⟩ := ne_some z
    obtain ⟨rfl, z2, _⟩ := scriptHp_some z
    rw [e] at z2; cases z2)
  have M : Mod K mg (hidT s₁.heap H) := ⟨kT, nsT hns, ⟨mb, nsT hb, hbb⟩, hlim.imp fun mc h => ⟨nsT h.1, h.2⟩⟩
  have noF : ∀ {b : Addr}, b ∉ frs ([] : List Env) := fun {b} z => absurd (show b ∈ ([] : List Addr) from z) (by simp)
  have e0 : Env0 P w K mg (hidT s₁.heap H) callerA [] s₁ H := ⟨rfl, M, fun b o e => of_hidT e, Nat.le_of_eq (hidT_size _ _), trivial, fun b hb => absurd hb noF, okH, .of_eq hg⟩
  have sp : toSp K lawSp [.ref a] H (fun v _ => v = .bl true) EN := by
    refine ⟨H, [.dat (.list (ns.map PyData.int))], fun r _ => r = .dat (.bool true), Same.refl _, .cons (.lst sq (ints_dq ns)) .nil, (fun b hb => nomatch hb), ⟨ns, rfl, hl, rfl⟩, fun F' H' r v ys _ _ _ _ _ _ nr hq => ?_⟩
    subst hq
    cases (show Dq K F' v (.bool true) from nr)
    rfl
  refine codeAny_mono ((F _ kT (nsT hns)).run callerA [] s₁ H ⟨[.ref a], []⟩ [.ref a] [.ref a] _ ⟨hr, rfl⟩ e0 (hbind s₁ (.ref a)) (.cons rfl .nil) sp) fun r s' h => ?_
  cases r with
  | error e => exact h.elim
  | ok fl =>
    cases fl with
    | ret u =>
      obtain ⟨v, H', os, bare, un, ok', rv', hq⟩ := h
      have hq : v = .bl true := hq
      subst hq
      cases (show u = Value.bool true from rv')
      refine ⟨rfl, OldK.of_keep fun b o e => ?_, os, bare⟩
      cases q : H b with
      | none => exact un.keep b o e q noF (by simp)
      | some u =>
        obtain ⟨rfl, _, rfl⟩ := scriptHp_some q
        obtain ⟨e2, _⟩ := ok' _ _ (un.frzs _ _ _ q)
        exact e2.trans (ha.symm.trans e)
    | _ => exact False.elim h
theorem law_walk {l : PySem.W.OpenLaw} {q : Program} {loose : List Str} {XP : (Str → Option Value) → Heap → Prop} {YP : World → Heap → Prop} {d : DefRec} {K : Params → PySem.W.Frag} (hn : l.most = some 63) (hdf : d.params.defaults = []) (hr : Room k callerA)
    (hY : ∀ (w : World) (h : Heap), YP w h → (K w.params).In h)
    (F : ∀ (w : World) (mg : Str → Option Value) (fa : Addr) (h : Heap), (K w.params).In h → h.Ns mainGlobals mg → mg d.name = some (.ref fa) →
      ∃ fd : FuncData, (∀ (s : Shared) (u : Value), BindsTo s fd ⟨[u], []⟩ [(x, u)]) ∧ ∀ base : Heap, (K w.params).In base → base.Ns mainGlobals mg → FnG l.prog w (K w.params) mg base k fa fd [x] (toSp (K w.params) lawSp)) :
    PySem.W.WalkO q loose XP YP l.row.toRowW d [] (fun f vs => PySem.call f vs) := by
  refine Att.attach_call hn hdf fun w s₀ s₁ mg mb fa o pm cd doc a vs ns G Y ho hd hcd hmg hobj hints hlen hg => ?_
  have KX := hY w _ Y
  obtain ⟨fd, hb, hF⟩ := F w mg fa _ KX G.T.g hmg
  exact law_end KX G.T.g G.T.b G.T.builtins G.T.nolimit hg hobj hints hlen hr hF hb
end
end DL
set_option Elab.async false
set_option linter.all false
set_option maxRecDepth 100000
set_option maxHeartbeats 400000
namespace DL
open PySem L2

/-! ### callees by name -/
structure CalG (P : Program) (w : World) (K : PySem.W.Frag) (mg : Str → Option Value) (base : Heap) (k : Nat) (x : Str) (S : DSp) : Prop where
  ex : ∃ (f : Addr) (fd : FuncData) (ps : List Str), FnG P w K mg base k f fd ps (toSp K S) ∧ mg x = some (.ref f) ∧ PySem.W.keepIn K (.ref f) = true ∧ Binds K fd ps []
section
variable {P : Program} {w : World} {K : PySem.W.Frag} {mg : Str → Option Value} {base : Heap}
theorem cal_mk {k : Nat} {x qual : Str} {st : Stmt} {f : Addr} {fd : FuncData} {ps : List Str} {S : DSp} (Fn : Fun K x qual st f fd) (hm : mg x = some (.ref f)) (F : FnG P w K mg base k f fd ps (toSp K S)) (hb : Binds K fd ps []) : CalG P w K mg base k x S :=
  ⟨f, fd, ps, F, hm, Fn.kp, hb⟩
end
section
variable {X : Cx} {j k : Nat} {S : DSp} {x : Str} {p pos : Pos} {e : Expr} {es : List Expr} {ta : DTA}
theorem de_callC {ms : List Bool} (C : CalG X.prog X.w X.K X.mg X.base j x S) (hr : RoomG k X.A) (hj : j ≤ k) (hg : Gl X x) (ha : DA X (e :: es) ta) (hdb : (x == ("__debug__" : Str)) = false := by decide) (he : starEach (e :: es) X.env = (false, eval e X.env) :: starEach es X.env := by rfl) (hpl : (backTo pos (starEach es X.env)).any (·.1) = false := by rfl) :
    DE X (.Call (.Name x p) (e :: es) [] pos) (dCall ms S ta) := by
  obtain ⟨f, fd, ps, F, hm, hk, hb⟩ := C.ex
  exact de_call F (hr.mono hj) hg hm hk hb ha hdb he hpl
theorem de_callIoC {i : Nat} {ms : List Bool} (C : CalG X.prog X.w X.K X.mg X.base j x S) (hr : RoomG k X.A) (hj : j ≤ k) (hg : Gl X x) (ha : DA X (e :: es) ta) (hdb : (x == ("__debug__" : Str)) = false := by decide) (he : starEach (e :: es) X.env = (false, eval e X.env) :: starEach es X.env := by rfl) (hpl : (backTo pos (starEach es X.env)).any (·.1) = false := by rfl) :
    DE X (.Call (.Name x p) (e :: es) [] pos) (dCallIo i ms S ta) := by
  obtain ⟨f, fd, ps, F, hm, hk, hb⟩ := C.ex
  exact de_callIo F (hr.mono hj) hg hm hk hb ha hdb he hpl
theorem de_gI {x : Str} {i : Int} {pos : Pos} (hm : ∃ t, X.mg x = some (.int i t)) (hg : Gl X x) (hd : (x == ("__debug__" : Str)) = false := by decide) : DE X (.Name x pos) (dC (.int i)) := let ⟨_, h⟩ := hm; de_globI hg h hd
theorem de_gS {x : Str} {i : Str} {pos : Pos} (hm : ∃ t, X.mg x = some (.str i t)) (hg : Gl X x) (hd : (x == ("__debug__" : Str)) = false := by decide) : DE X (.Name x pos) (dC (.str i)) := let ⟨_, h⟩ := hm; de_globS hg h hd

theorem de_lcV {elt tg iter : Expr} {ifs : List Expr} {scope : Scope} {vs : List Nat} {pos : Pos} {t : DTC} {is : List Nat} {g : DTG} {tt : DTT} {te : DTE} (own : List (Str × Nat)) (hc : X.calm = true) (hN : X.N.Nodup) (hi : DC X tg iter t) (ok : BlkOk X.N X.env.scope scope own)
    (hg : ∀ (s : Shared) (H : Hp) (C : Addr) (cl : List (Str × Addr)) (fp : List Addr), DG (X.blk s H scope (compEnvC scope cl C X.env) fp) tg is g) (ht : ∀ (s : Shared) (H : Hp) (C : Addr) (cl : List (Str × Addr)) (fp : List Addr), PTsD (X.blk s H scope (compEnvC scope cl C X.env) fp) ifs tt)
    (he : ∀ (s : Shared) (H : Hp) (C : Addr) (cl : List (Str × Addr)) (fp : List Addr), DE (X.blk s H scope (compEnvC scope cl C X.env) fp) elt te) (hvs : own.map (·.2) = vs := by rfl) (hv : ∀ i ∈ is, i ∈ vs := by decide) (hs : ∀ x, foldedSetIterable iter X.env x = pure x := by intro _; rfl) :
    DE X (.ListComp elt [⟨tg, iter, ifs, 0⟩] scope pos) (dLc t g tt te vs) := by
  subst hvs
  exact de_lc hc hN hi ok hg ht he hv hs
theorem ds_setLcV {i : Nat} {y : Str} {py : Pos} {elt tg iter : Expr} {ifs : List Expr} {scope : Scope} {vs : List Nat} {pos spos : Pos} {t : DTC} {is : List Nat} {g : DTG} {tt : DTT} {te : DTE} (own : List (Str × Nat)) (hc : X.calm = true) (hN : X.N.Nodup) (hy : X.N[i]? = some y) (hyl : X.env.scope.names.lookup y = some .local)
    (hsw : swapsWith (.ListComp elt [⟨tg, iter, ifs, 0⟩] scope pos) (some (.Name y py)) spos.line X.env = pure true) (hi : DC X tg iter t) (ok : BlkOk X.N X.env.scope scope own)
    (hg : ∀ (s : Shared) (H : Hp) (C : Addr) (cl : List (Str × Addr)) (fp : List Addr), DG (X.blk s H scope (compEnvC scope cl C X.env) fp) tg is g) (ht : ∀ (s : Shared) (H : Hp) (C : Addr) (cl : List (Str × Addr)) (fp : List Addr), PTsD (X.blk s H scope (compEnvC scope cl C X.env) fp) ifs tt)
    (he : ∀ (s : Shared) (H : Hp) (C : Addr) (cl : List (Str × Addr)) (fp : List Addr), DE (X.blk s H scope (compEnvC scope cl C X.env) fp) elt te) (hvs : own.map (·.2) = vs := by rfl) (hv : ∀ i ∈ is, i ∈ vs := by decide) (hs : ∀ x, foldedSetIterable iter X.env x = pure x := by intro _; rfl) :
    DS X (.Assign [.Name y py] (.ListComp elt [⟨tg, iter, ifs, 0⟩] scope pos) spos) (dSet i (dLc t g tt te vs)) := by
  subst hvs
  exact ds_setLc hc hN hy hyl hsw hi ok hg ht he hv hs
theorem ds_par3 {i j l : Nat} {x y z : Str} {a b c : Expr} {ta : DTA} {px py pz pt pos : Pos} {kt k2 pt2} (hc : X.calm = true) (hN : X.N.Nodup) (hi : X.N[i]? = some x) (hj : X.N[j]? = some y) (hl : X.N[l]? = some z) (hij : i ≠ j) (hil : i ≠ l) (hjl : j ≠ l)
    (hx : X.env.scope.names.lookup x = some .local) (hy : X.env.scope.names.lookup y = some .local) (hz : X.env.scope.names.lookup z = some .local) (ha : DA X [a, b, c] ta)
    (hw : swappedStores [.Tuple [.Name x px, .Name y py, .Name z pz] kt pt] (.Tuple [a, b, c] k2 pt2) X.env = pure (some [x, y, z]))
    (hs : swapsWithSole [.Tuple [.Name x px, .Name y py, .Name z pz] kt pt] (.Tuple [a, b, c] k2 pt2) pos.line X.env = pure false := by rfl) :
    DS X (.Assign [.Tuple [.Name x px, .Name y py, .Name z pz] kt pt] (.Tuple [a, b, c] k2 pt2) pos) (dPar [i, j, l] ta) := by
  refine ps_imp (ps_par3 hc hN hi hj hl hij hil hjl hx hy hz ha hw hs) fun D σ H ⟨Z, F, τ, E, r, h, k⟩ => ?_
  refine ⟨Z, F, τ, _, r, h, fun F1 τ1 H1 ws r1 g1 e1 h1 => ?_⟩
  obtain ⟨hl, _, h1⟩ := h1
  match ws, e1, h1, hl with
  | [(e, v), (e', v'), (e'', v'')], e1, h1, _ =>
    exact ⟨v, v', v'', rfl, store_evs (ws := [(e, v), (e', v'), (e'', v'')]) (is := [i, j, l]) (Q := D.nx) r1 e1 h1 k.nx⟩
end
end DL
set_option Elab.async false
set_option linter.all false
set_option maxRecDepth 100000
set_option maxHeartbeats 400000
namespace DL
open PySem L2

/-! ### what repr can show -/
mutual
def leafOk (k : Nat) : D → Bool
  | .none => true
  | .bool _ => true
  | .int i => decide (i.natAbs.log2 < k)
  | .str x => x.cps.toList.all fun c => decide (c < 16 ^ 8)
  | .list xs => leafOkAll k xs
  | .tuple xs => leafOkAll k xs
  | .dict _ => false
def leafOkAll (k : Nat) : List D → Bool
  | [] => true
  | x :: xs => leafOk k x && leafOkAll k xs
end
theorem int_len {i : Int} {k : Nat} (hk : 0 < k) (h : i.natAbs.log2 < k) : (PyData.shown (.int i)).length ≤ k + 1 := by
  have e : (PyData.shown (.int i)) = Str.ofString (toString i) := by unfold PyData.shown; rfl
  rw [e]
  rw [PySem.ofString_length]
  exact int_text_length_le hk h
mutual
theorem leaf_ok {k : Nat} (hk : 0 < k) (hk2 : k ≤ 1920) : ∀ d : D, leafOk k d = true → d.leavesShort (k + 1) = true ∧ d.showable = true ∧ d.hasDict = false
  | .none, _ => ⟨by simp only [PyData.leavesShort], by simp only [PyData.showable], by simp only [PyData.hasDict]⟩
  | .bool _, _ => ⟨by simp only [PyData.leavesShort], by simp only [PyData.showable], by simp only [PyData.hasDict]⟩
  | .int i, h => by
    have h : i.natAbs.log2 < k := by simpa only [leafOk, decide_eq_true_eq] using h
    exact ⟨by simp only [PyData.leavesShort, decide_eq_true_eq]; exact int_len hk h, by simp only [PyData.showable, decide_eq_true_eq]; omega, by simp only [PyData.hasDict]⟩
  | .str x, h => ⟨by simpa only [PyData.leavesShort, leafOk] using h, by simp only [PyData.showable], by simp only [PyData.hasDict]⟩
  | .list xs, h => by
    obtain ⟨h1, h2, h3⟩ := leaf_all hk hk2 xs (by simpa only [leafOk] using h)
    exact ⟨by simpa only [PyData.leavesShort] using h1, by simpa only [PyData.showable] using h2, by simpa only [PyData.hasDict] using h3⟩
  | .tuple xs, h => by
    obtain ⟨h1, h2, h3⟩ := leaf_all hk hk2 xs (by simpa only [leafOk] using h)
    exact ⟨by simpa only [PyData.leavesShort] using h1, by simpa only [PyData.showable] using h2, by simpa only [PyData.hasDict] using h3⟩
  | .dict _, h => by simp only [leafOk] at h; cases h
theorem leaf_all {k : Nat} (hk : 0 < k) (hk2 : k ≤ 1920) : ∀ ds : List D, leafOkAll k ds = true → PyData.leavesShortAll (k + 1) ds = true ∧ PyData.showableAll ds = true ∧ PyData.hasDictAll ds = false
  | [], _ => ⟨by simp only [PyData.leavesShortAll], by simp only [PyData.showableAll], by simp only [PyData.hasDictAll]⟩
  | d :: ds, h => by
    have h : leafOk k d = true ∧ leafOkAll k ds = true := by simpa only [leafOkAll, Bool.and_eq_true] using h
    obtain ⟨a1, a2, a3⟩ := leaf_ok hk hk2 d h.1
    obtain ⟨b1, b2, b3⟩ := leaf_all hk hk2 ds h.2
    exact ⟨by simp only [PyData.leavesShortAll, a1, b1, Bool.and_self], by simp only [PyData.showableAll, a2, b2, Bool.and_self], by simp only [PyData.hasDictAll, a3, b3, Bool.or_self]⟩
end
theorem reprOk_of (k : Nat) {d : D} (h : leafOk k d = true) (hb : (k + 3) * d.bulk + (k + 1) ≤ 16777216) (hd : d.depth ≤ 8) (hk : 8 ≤ k := by decide) (hk2 : k ≤ 1920 := by decide) : reprOk d := by
  obtain ⟨h1, h2, h3⟩ := leaf_ok (by omega) hk2 d h
  refine ⟨h2, h3, ?_, hd⟩
  have h4 := PyData.shown_le_bulk (k + 1) (by omega) d h1
  have e : k + 1 + 2 = k + 3 := rfl
  rw [e] at h4
  rw [sizeLine_eq]
  omega
theorem leaf_ints {k : Nat} {ns : List Int} (h : ∀ n ∈ ns, n.natAbs.log2 < k) : leafOkAll k (ns.map PyData.int) = true := by
  induction ns with
  | nil => simp only [List.map_nil, leafOkAll]
  | cons n ns ih =>
    simp only [List.map_cons, leafOkAll, leafOk, ih fun m hm => h m (List.mem_cons_of_mem _ hm), Bool.and_true, decide_eq_true_eq]
    exact h n List.mem_cons_self
theorem bulk_ints (ns : List Int) : PyData.bulkAll (ns.map PyData.int) = ns.length := by
  induction ns with
  | nil => simp only [List.map_nil, PyData.bulkAll, List.length_nil]
  | cons n ns ih =>
    simp only [List.map_cons, PyData.bulkAll, PyData.bulk, ih, List.length_cons]
    omega
theorem depth_ints (ns : List Int) : PyData.depthAll (ns.map PyData.int) = 0 := by
  induction ns with
  | nil => simp only [List.map_nil, PyData.depthAll]
  | cons n ns ih => simp only [List.map_cons, PyData.depthAll, PyData.depth, ih]; rfl

/-! ### bounds by bits -/
def Bd (n : Nat) (x : Int) : Prop := x.natAbs < 2 ^ n
theorem Bd.log {n : Nat} {x : Int} (h : Bd n x) (hn : 0 < n) : x.natAbs.log2 < n := by
  by_cases z : x.natAbs = 0
  · rw [z]; exact hn
  · exact (Nat.log2_lt z).mpr h
theorem Bd.mono {m n : Nat} {x : Int} (h : Bd m x) (hn : m ≤ n) : Bd n x := Nat.lt_of_lt_of_le h (Nat.pow_le_pow_right (by decide) hn)
theorem Bd.mul {m n : Nat} {x y : Int} (h : Bd m x) (h2 : Bd n y) : Bd (m + n) (x * y) := by
  unfold Bd
  rw [Int.natAbs_mul, Nat.pow_add]
  exact Nat.mul_lt_mul'' h h2
theorem Bd.of_le {n : Nat} {x y : Int} (h : Bd n y) (h0 : 0 ≤ x) (h1 : x ≤ y) : Bd n x := by
  unfold Bd at h ⊢
  omega
theorem mulOk_of {m n : Nat} {x y : Int} (h : Bd m x) (h2 : Bd n y) (hm : 0 < m := by decide) (hn : 0 < n := by decide) (hs : m + n ≤ 1000000 := by decide) : mulOk x y := .inr (by
  have := h.log hm
  have := h2.log hn
  unfold CMulW
  omega)
theorem divOk_of {n : Nat} {y : Int} (h0 : 0 < y) (h : Bd n y) (hn : 0 < n := by decide) (hs : n ≤ 9000 := by decide) : divOk y := .inr ⟨h0, by
  have := h.log hn
  omega⟩
theorem rangeD_zero {a : Int} : rangeD a 0 = [] := by unfold rangeD; rfl
theorem rangeD_succ {a : Int} {n : Nat} : rangeD a (n + 1) = .int a :: rangeD (a + 1) n := by
  unfold rangeD
  rw [List.range_succ_eq_map, List.map_cons, List.map_map]
  congr 1
  · simp
  · exact List.map_congr_left fun i _ => (by
      show PyData.int (a + ((i + 1 : Nat) : Int)) = PyData.int (a + 1 + (i : Int))
      congr 1
      omega)
theorem rangeD_len {a : Int} {n : Nat} : (rangeD a n).length = n := by unfold rangeD; simp
theorem sz2 : 2 ≤ sizeLine := by decide
theorem sz3 : 3 ≤ sizeLine := by decide
theorem Bd.nat {n x : Nat} (h : x < 2 ^ n) : Bd n ((x : Nat) : Int) := by unfold Bd; simpa using h
end DL
set_option Elab.async false
set_option linter.all false
set_option maxRecDepth 100000
set_option maxHeartbeats 400000
/-! The plain mathematics of the pots: amounts over one divisor -/
namespace K24

abbrev S8 := List Nat × Nat
def gA (g : Nat) (xs : List Nat) : Nat := xs.foldl Nat.gcd g
theorem gA_dvd : ∀ (xs : List Nat) (g : Nat), gA g xs ∣ g ∧ ∀ x ∈ xs, gA g xs ∣ x
  | [], g => ⟨Nat.dvd_refl g, fun _ h => nomatch h⟩
  | x :: xs, g => by
    obtain ⟨h1, h2⟩ := gA_dvd xs (Nat.gcd g x)
    have e : gA g (x :: xs) = gA (Nat.gcd g x) xs := rfl
    rw [e]
    refine ⟨Nat.dvd_trans h1 (Nat.gcd_dvd_left g x), fun y hy => ?_⟩
    rcases List.mem_cons.mp hy with rfl | hy
    · exact Nat.dvd_trans h1 (Nat.gcd_dvd_right g y)
    · exact h2 y hy
theorem dvd_gA {d : Nat} : ∀ (xs : List Nat) (g : Nat), d ∣ g → (∀ x ∈ xs, d ∣ x) → d ∣ gA g xs
  | [], g, h, _ => h
  | x :: xs, g, h, h2 => dvd_gA xs (Nat.gcd g x) (Nat.dvd_gcd h (h2 x List.mem_cons_self)) fun y hy => h2 y (List.mem_cons_of_mem _ hy)
theorem gA_pos {g : Nat} {xs : List Nat} (h : 0 < g) : 0 < gA g xs := Nat.pos_of_dvd_of_pos (gA_dvd xs g).1 h
theorem gA_perm {g : Nat} {xs ys : List Nat} (p : xs.Perm ys) : gA g xs = gA g ys :=
  Nat.dvd_antisymm (dvd_gA _ _ (gA_dvd xs g).1 fun y hy => (gA_dvd xs g).2 y (p.mem_iff.mpr hy)) (dvd_gA _ _ (gA_dvd ys g).1 fun y hy => (gA_dvd ys g).2 y (p.mem_iff.mp hy))
def red (s : S8) : S8 := (s.1.map (· / gA s.2 s.1), s.2 / gA s.2 s.1)
/-- s is t, all times g -/
def Tim (g : Nat) (s t : S8) : Prop := s.1 = t.1.map (· * g) ∧ s.2 = t.2 * g
theorem red_tim {s : S8} : Tim (gA s.2 s.1) s (red s) := by
  obtain ⟨h1, h2⟩ := gA_dvd s.1 s.2
  refine ⟨?_, (Nat.div_mul_cancel h1).symm⟩
  show s.1 = (s.1.map _).map _
  rw [List.map_map]
  conv => lhs; rw [← List.map_id s.1]
  exact List.map_congr_left fun x hx => (Nat.div_mul_cancel (h2 x hx)).symm
theorem sum_mul (g : Nat) : ∀ xs : List Nat, (xs.map (· * g)).sum = xs.sum * g
  | [] => by simp
  | x :: xs => by
    rw [List.map_cons, List.sum_cons, List.sum_cons, sum_mul g xs, Nat.add_mul]
theorem get_mul {g i : Nat} {xs : List Nat} : (xs.map (· * g)).getD i 0 = xs.getD i 0 * g := by
  simp only [List.getD_eq_getElem?_getD, List.getElem?_map]
  cases xs[i]? <;> simp
inductive Deed where
  | charge (k a : Nat)
  | gather (a : Nat)
  | empty
def Deed.ok : Deed → Prop
  | .charge k a => k < 8 ∧ a ≤ 1000000
  | .gather a => a ≤ 1000000
  | .empty => True
def z8 : List Nat := List.replicate 8 0
def pre (s : S8) : Deed → Option S8
  | .charge k a => some (s.1.set k (s.1.getD k 0 + a * s.2), s.2)
  | .empty => some (z8, 1)
  | .gather m => if s.1.sum < m * s.2 then none else if m = 0 then some s else some (s.1.map (· * (s.1.sum - m * s.2)), s.2 * s.1.sum)
def held : List Deed → S8 → Option S8
  | [], s => some s
  | d :: ds, s => match pre s d with
    | none => none
    | some t => held ds (red t)
def s0 : S8 := (z8, 1)
theorem held_app : ∀ (ds es : List Deed) (s : S8), held (ds ++ es) s = match held ds s with
    | none => none
    | some t => held es t
  | [], _, _ => rfl
  | d :: ds, es, s => by
    show (match pre s d with | none => none | some t => held (ds ++ es) (red t)) = _
    cases h : pre s d with
    | none => simp only [held, h]
    | some t => simp only [held, h, held_app ds es]

/-! ### sizes -/
structure Ok (n : Nat) (s : S8) : Prop where
  len : s.1.length = 8
  pos : 0 < s.2
  sum : ∃ T, T ≤ n * 1000000 ∧ s.1.sum = T * s.2
  le : s.2 ≤ 30000000 ^ n
theorem ok0 : Ok 0 s0 := ⟨rfl, by decide, ⟨0, by decide, by decide⟩, by decide⟩
theorem sum_set : ∀ (xs : List Nat) (k a : Nat), k < xs.length → (xs.set k (xs.getD k 0 + a)).sum = xs.sum + a
  | [], k, a, h => by simp at h
  | x :: xs, 0, a, _ => by simp; omega
  | x :: xs, k + 1, a, h => by
    have := sum_set xs k a (by simpa using h)
    simp only [List.getD_cons_succ, List.set_cons_succ, List.sum_cons, this]
    omega
theorem Ok.red {n : Nat} {s t : S8} (h : Tim g s t) (hg : 0 < g) (hl : s.1.length = 8) (hp : 0 < s.2) (hs : ∃ T, T ≤ n * 1000000 ∧ s.1.sum = T * s.2) (hle : t.2 ≤ 30000000 ^ n) : Ok n t := by
  obtain ⟨h1, h2⟩ := h
  refine ⟨by rw [h1, List.length_map] at hl; exact hl, ?_, ?_, hle⟩
  · rw [h2] at hp
    exact Nat.pos_of_mul_pos_right hp
  · obtain ⟨T, hT, e⟩ := hs
    refine ⟨T, hT, ?_⟩
    rw [h1, sum_mul, h2, ← Nat.mul_assoc] at e
    exact Nat.eq_of_mul_eq_mul_right hg e
theorem z8_sum : z8.sum = 0 := by decide
theorem ok_pre {n : Nat} {s t : S8} {d : Deed} (h : Ok n s) (hd : d.ok) (hn : n < 30) (e : pre s d = some t) : Ok (n + 1) (K24.red t) := by
  have hpow : 30000000 ^ n ≤ 30000000 ^ (n + 1) := Nat.pow_le_pow_right (by decide) (Nat.le_succ n)
  obtain ⟨T, hT, hsum⟩ := h.sum
  have hT1 : T ≤ (n + 1) * 1000000 := Nat.le_trans hT (Nat.mul_le_mul_right _ (Nat.le_succ n))
  have hT30 : T ≤ 30000000 := Nat.le_trans hT (by omega)
  cases d with
  | charge k a =>
    cases e
    obtain ⟨hk, ha⟩ := hd
    have hp : 0 < gA s.2 (s.1.set k (s.1.getD k 0 + a * s.2)) := gA_pos h.pos
    refine Ok.red (red_tim (s := (s.1.set k (s.1.getD k 0 + a * s.2), s.2))) hp (by simp [h.len]) h.pos ⟨T + a, by omega, ?_⟩ ?_
    · show (s.1.set k _).sum = _
      rw [sum_set _ _ _ (by rw [h.len]; exact hk), hsum, Nat.add_mul]
    · exact Nat.le_trans (Nat.div_le_self _ _) (Nat.le_trans h.le hpow)
  | empty =>
    cases e
    have hp1 : 0 < gA 1 z8 := gA_pos (by decide)
    have hl1 : z8.length = 8 := rfl
    have hs1 : z8.sum = 0 * 1 := by decide
    exact Ok.red (red_tim (s := (z8, 1))) hp1 hl1 Nat.one_pos ⟨0, Nat.zero_le _, hs1⟩ (Nat.le_trans (Nat.div_le_self _ _) (Nat.one_le_pow _ _ (by decide)))
  | gather m =>
    unfold pre at e
    simp only at e
    split at e
    · cases e
    · rename_i hlt
      split at e
      · cases e
        refine Ok.red (red_tim (s := s)) (gA_pos h.pos) h.len h.pos ⟨T, hT1, hsum⟩ ?_
        exact Nat.le_trans (Nat.div_le_self _ _) (Nat.le_trans h.le hpow)
      · rename_i hm
        cases e
        have hmT : m ≤ T := by
          rw [hsum] at hlt
          exact Nat.le_of_mul_le_mul_right (Nat.le_of_not_lt hlt) h.pos
        have hT0 : 0 < T := by omega
        have hd2 : s.1.sum - m * s.2 = (T - m) * s.2 := by rw [hsum, Nat.sub_mul]
        have hpos : 0 < s.2 * s.1.sum := by
          rw [hsum]; exact Nat.mul_pos h.pos (Nat.mul_pos hT0 h.pos)
        have hg : 0 < gA (s.2 * s.1.sum) (s.1.map (· * (s.1.sum - m * s.2))) := gA_pos hpos
        have hdv : s.2 ∣ gA (s.2 * s.1.sum) (s.1.map (· * (s.1.sum - m * s.2))) := dvd_gA _ _ (Nat.dvd_mul_right _ _) fun x hx => by
          obtain ⟨y, _, rfl⟩ := List.mem_map.mp hx
          rw [hd2, ← Nat.mul_assoc]
          exact Nat.dvd_mul_left _ _
        refine Ok.red (red_tim (s := (s.1.map (· * (s.1.sum - m * s.2)), s.2 * s.1.sum))) hg (by simp [h.len]) hpos ⟨T - m, Nat.le_trans (Nat.sub_le _ _) hT1, ?_⟩ ?_
        · show (s.1.map _).sum = (T - m) * (s.2 * s.1.sum)
          rw [sum_mul, hd2]
          rw [Nat.mul_comm s.2 s.1.sum, Nat.mul_left_comm]
        · have hle := Nat.le_of_dvd hg hdv
          show s.2 * s.1.sum / gA (s.2 * s.1.sum) (s.1.map (· * (s.1.sum - m * s.2))) ≤ _
          refine Nat.le_trans (Nat.div_le_div_left hle h.pos) ?_
          rw [Nat.mul_div_cancel_left _ h.pos, hsum, Nat.pow_succ, Nat.mul_comm]
          exact Nat.mul_le_mul h.le hT30
theorem oks_held : ∀ (ds : List Deed) (n : Nat) (s t : S8), Ok n s → (∀ d ∈ ds, d.ok) → n + ds.length ≤ 30 → held ds s = some t → Ok (n + ds.length) t
  | [], n, s, t, h, _, _, e => by cases e; exact h
  | d :: ds, n, s, t, h, hd, hn, e => by
    unfold held at e
    cases q : pre s d with
    | none => rw [q] at e; cases e
    | some u =>
      rw [q] at e
      have := oks_held ds (n + 1) (red u) t (ok_pre h (hd d List.mem_cons_self) (by simp at hn; omega) q) (fun x hx => hd x (List.mem_cons_of_mem _ hx)) (by simp at hn; omega) e
      have e2 : n + (d :: ds).length = n + 1 + ds.length := by simp; omega
      rw [e2]
      exact this
theorem le_sum : ∀ (xs : List Nat) (x : Nat), x ∈ xs → x ≤ xs.sum
  | y :: ys, x, h => by
    rw [List.sum_cons]
    rcases List.mem_cons.mp h with rfl | h
    · omega
    · have := le_sum ys x h
      omega
end K24
set_option Elab.async false
set_option linter.all false
set_option maxRecDepth 100000
set_option maxHeartbeats 400000
namespace K24

/-! ### deeds times c -/
def Deed.scale (c : Nat) : Deed → Deed
  | .charge k a => .charge k (a * c)
  | .gather a => .gather (a * c)
  | .empty => .empty
def Sc (c : Nat) (s t : S8) : Prop := s.1.map (· * t.2) = t.1.map (· * (s.2 * c))
theorem map_cancel {k : Nat} (hk : 0 < k) : ∀ {xs ys : List Nat}, xs.map (· * k) = ys.map (· * k) → xs = ys
  | [], [], _ => rfl
  | [], _ :: _, h => by simp at h
  | _ :: _, [], h => by simp at h
  | x :: xs, y :: ys, h => by
    rw [List.map_cons, List.map_cons] at h
    injection h with h1 h2
    rw [Nat.eq_of_mul_eq_mul_right hk h1, map_cancel hk h2]
theorem map_map_mul {a b : Nat} {xs : List Nat} : (xs.map (· * a)).map (· * b) = xs.map (· * (a * b)) := by
  rw [List.map_map]
  exact List.map_congr_left fun x _ => Nat.mul_assoc x a b
theorem sc_tim {c g h : Nat} {s t s' t' : S8} (hs : Sc c s t) (h1 : Tim g s s') (h2 : Tim h t t') (hg : 0 < g) (hh : 0 < h) : Sc c s' t' := by
  obtain ⟨a1, a2⟩ := h1
  obtain ⟨b1, b2⟩ := h2
  unfold Sc at hs ⊢
  rw [a1, a2, b1, b2, map_map_mul, map_map_mul] at hs
  refine map_cancel (Nat.mul_pos hg hh) ?_
  rw [map_map_mul, map_map_mul]
  have e1 : t'.2 * (g * h) = g * (t'.2 * h) := Nat.mul_left_comm _ _ _
  have e2 : s'.2 * c * (g * h) = h * (s'.2 * g * c) := by
    rw [Nat.mul_mul_mul_comm, Nat.mul_comm c h, ← Nat.mul_assoc, Nat.mul_comm (s'.2 * g) h, Nat.mul_assoc h]
  rw [e1, e2]
  exact hs
theorem sc_get {c : Nat} {s t : S8} (h : Sc c s t) (i : Nat) : s.1.getD i 0 * t.2 = t.1.getD i 0 * (s.2 * c) := by
  have := congrArg (fun l : List Nat => l.getD i 0) h
  simpa only [get_mul] using this
theorem sc_sum {c : Nat} {s t : S8} (h : Sc c s t) : s.1.sum * t.2 = t.1.sum * (s.2 * c) := by
  have := congrArg List.sum h
  simpa only [sum_mul] using this
theorem sc_pre {c : Nat} {s t : S8} (d : Deed) (h : Sc c s t) (hs : 0 < s.2) (ht : 0 < t.2) (hc : 0 < c) :
    (pre s (d.scale c) = none ∧ pre t d = none) ∨ ∃ s' t', pre s (d.scale c) = some s' ∧ pre t d = some t' ∧ Sc c s' t' ∧ 0 < s'.2 ∧ 0 < t'.2 := by
  cases d with
  | charge k a =>
    refine .inr ⟨_, _, rfl, rfl, ?_, hs, ht⟩
    show (s.1.set k _).map _ = (t.1.set k _).map _
    rw [List.map_set, List.map_set]
    have e : (s.1.getD k 0 + a * c * s.2) * t.2 = (t.1.getD k 0 + a * t.2) * (s.2 * c) := by
      rw [Nat.add_mul, Nat.add_mul, sc_get h k]
      congr 1
      rw [Nat.mul_right_comm a t.2, Nat.mul_assoc a c s.2, Nat.mul_comm c s.2]
    show (s.1.map (· * t.2)).set k ((s.1.getD k 0 + a * c * s.2) * t.2) = (t.1.map (· * (s.2 * c))).set k ((t.1.getD k 0 + a * t.2) * (s.2 * c))
    rw [e, h]
  | empty => exact .inr ⟨_, _, rfl, rfl, by show z8.map _ = z8.map _; simp [z8], by decide, by decide⟩
  | gather m =>
    have hS := sc_sum h
    have hsc : 0 < s.2 * c := Nat.mul_pos hs hc
    have iff1 : s.1.sum < m * c * s.2 ↔ t.1.sum < m * t.2 := by
      rw [← Nat.mul_lt_mul_right ht, hS, ← Nat.mul_lt_mul_right (a := s.2 * c) hsc (b := t.1.sum)]
      have : m * c * s.2 * t.2 = m * t.2 * (s.2 * c) := by
        rw [Nat.mul_right_comm m t.2, Nat.mul_assoc m c s.2, Nat.mul_comm c s.2]
      rw [this]
    unfold Deed.scale pre
    simp only
    by_cases h1 : s.1.sum < m * c * s.2
    · rw [if_pos h1, if_pos (iff1.mp h1)]
      exact .inl ⟨rfl, rfl⟩
    · have h2 : ¬ t.1.sum < m * t.2 := fun z => h1 (iff1.mpr z)
      rw [if_neg h1, if_neg h2]
      by_cases hm : m = 0
      · subst hm
        rw [if_pos (by simp), if_pos rfl]
        exact .inr ⟨s, t, rfl, rfl, h, hs, ht⟩
      · have hmc : ¬ m * c = 0 := fun z => by
          rcases Nat.mul_eq_zero.mp z with z | z
          · exact hm z
          · omega
        rw [if_neg hmc, if_neg hm]
        have hm0 : 0 < m := Nat.pos_of_ne_zero hm
        have tp : 0 < t.1.sum := Nat.lt_of_lt_of_le (Nat.mul_pos hm0 ht) (Nat.le_of_not_lt h2)
        have sp : 0 < s.1.sum := Nat.lt_of_lt_of_le (Nat.mul_pos (Nat.mul_pos hm0 hc) hs) (Nat.le_of_not_lt h1)
        refine .inr ⟨_, _, rfl, rfl, ?_, Nat.mul_pos hs sp, Nat.mul_pos ht tp⟩
        show (s.1.map _).map _ = (t.1.map _).map _
        rw [map_map_mul, map_map_mul]
        show s.1.map (· * ((s.1.sum - m * c * s.2) * (t.2 * t.1.sum))) = t.1.map (· * ((t.1.sum - m * t.2) * (s.2 * s.1.sum * c)))
        have e1 : (s.1.sum - m * c * s.2) * t.2 = (t.1.sum - m * t.2) * (s.2 * c) := by
          rw [Nat.sub_mul, Nat.sub_mul, hS]
          congr 1
          rw [Nat.mul_right_comm m t.2, Nat.mul_assoc m c s.2, Nat.mul_comm c s.2]
        have e2 : (s.1.sum - m * c * s.2) * (t.2 * t.1.sum) = t.1.sum * ((t.1.sum - m * t.2) * (s.2 * c)) := by
          rw [← Nat.mul_assoc, e1, Nat.mul_comm]
        have e3 : (t.1.sum - m * t.2) * (s.2 * s.1.sum * c) = s.1.sum * ((t.1.sum - m * t.2) * (s.2 * c)) := by
          rw [Nat.mul_right_comm s.2, ← Nat.mul_assoc, Nat.mul_comm]
        rw [e2, e3, ← map_map_mul, ← map_map_mul (a := s.1.sum)]
        congr 1
        -- x * T = y * S
        refine map_cancel ht ?_
        rw [map_map_mul, Nat.mul_comm t.1.sum t.2, ← map_map_mul, h, map_map_mul, map_map_mul]
        have e4 : s.2 * c * t.1.sum = s.1.sum * t.2 := by rw [hS, Nat.mul_comm]
        rw [e4]
theorem scl_held : ∀ (ds : List Deed) {c : Nat} {s t : S8}, Sc c s t → 0 < s.2 → 0 < t.2 → 0 < c →
    (held (ds.map (Deed.scale c)) s = none ∧ held ds t = none) ∨ ∃ s' t', held (ds.map (Deed.scale c)) s = some s' ∧ held ds t = some t' ∧ Sc c s' t'
  | [], c, s, t, h, _, _, _ => .inr ⟨s, t, rfl, rfl, h⟩
  | d :: ds, c, s, t, h, hs, ht, hc => by
    rw [List.map_cons]
    unfold held
    rcases sc_pre d h hs ht hc with ⟨e1, e2⟩ | ⟨s', t', e1, e2, h', hs', ht'⟩
    · rw [e1, e2]; exact .inl ⟨rfl, rfl⟩
    · rw [e1, e2]
      have g1 := red_tim (s := s')
      have g2 := red_tim (s := t')
      have p1 : 0 < gA s'.2 s'.1 := gA_pos hs'
      have p2 : 0 < gA t'.2 t'.1 := gA_pos ht'
      exact scl_held ds (sc_tim h' g1 g2 p1 p2) (by
        have := g1.2
        rw [this] at hs'
        exact Nat.pos_of_mul_pos_right hs') (by
        have := g2.2
        rw [this] at ht'
        exact Nat.pos_of_mul_pos_right ht') hc

/-! ### charges alone -/
def chs : Nat → List Nat → List Deed
  | _, [] => []
  | i, x :: xs => if 0 < x then .charge i x :: chs (i + 1) xs else chs (i + 1) xs
theorem gA_one (xs : List Nat) : gA 1 xs = 1 := Nat.dvd_one.mp (gA_dvd xs 1).1
theorem red_one (xs : List Nat) : red (xs, 1) = (xs, 1) := by
  unfold red
  simp only [gA_one, Nat.div_one, List.map_id']
theorem held_chs : ∀ (xs p : List Nat), held (chs p.length xs) (p ++ List.replicate xs.length 0, 1) = some (p ++ xs, 1)
  | [], p => by simp [chs, held]
  | x :: xs, p => by
    have ih := held_chs xs (p ++ [x])
    rw [List.length_append, List.length_singleton] at ih
    have e : p ++ [x] ++ List.replicate xs.length 0 = p ++ x :: List.replicate xs.length 0 := by simp
    rw [e] at ih
    have e2 : p ++ [x] ++ xs = p ++ x :: xs := by simp
    rw [e2] at ih
    unfold chs
    by_cases h : 0 < x
    · rw [if_pos h]
      unfold held pre
      simp only [List.length_cons, List.replicate_succ]
      have e3 : (p ++ 0 :: List.replicate xs.length 0).set p.length ((p ++ 0 :: List.replicate xs.length 0).getD p.length 0 + x * 1) = p ++ x :: List.replicate xs.length 0 := by
        simp [List.set_append, List.getD_eq_getElem?_getD]
      rw [e3, red_one]
      exact ih
    · have hx : x = 0 := by omega
      subst hx
      rw [if_neg h]
      rw [List.length_cons, List.replicate_succ]
      exact ih
theorem held_chs0 {xs : List Nat} (h : xs.length = 8) : held (chs 0 xs) s0 = some (xs, 1) := by
  have := held_chs xs []
  rw [h] at this
  exact this
end K24
set_option Elab.async false
set_option linter.all false
set_option maxRecDepth 100000
set_option maxHeartbeats 400000
namespace K24

/-! ### other names -/
def Deed.ren (nm : List Nat) : Deed → Deed
  | .charge k a => .charge (nm.getD k 0) a
  | .gather a => .gather a
  | .empty => .empty
structure Re (nm : List Nat) (s t : S8) : Prop where
  u : s.2 = t.2
  ls : s.1.length = 8
  lt : t.1.length = 8
  at_ : ∀ k, k < 8 → s.1.getD (nm.getD k 0) 0 = t.1.getD k 0
theorem list_getD {xs : List Nat} {n : Nat} (h : xs.length = n) : (List.range n).map (fun k => xs.getD k 0) = xs := by
  subst h
  apply List.ext_getElem
  · simp
  · intro i h1 h2
    simp at h1
    simp [h1]
theorem nm_map {nm : List Nat} (hn : nm.length = 8) (f : Nat → Nat) : (List.range 8).map (fun k => f (nm.getD k 0)) = nm.map f := by
  conv => rhs; rw [← list_getD hn]
  rw [List.map_map]
  rfl
theorem Re.perm {nm : List Nat} {s t : S8} (h : Re nm s t) (hn : nm.length = 8) (hp : nm.Perm (List.range 8)) : t.1.Perm s.1 := by
  have e1 : t.1 = nm.map fun j => s.1.getD j 0 := by
    rw [← nm_map hn, ← list_getD h.lt]
    exact List.map_congr_left fun k hk => (h.at_ k (List.mem_range.mp hk)).symm
  rw [e1]
  refine (hp.map _).trans ?_
  rw [list_getD h.ls]
theorem re_red {nm : List Nat} {s t : S8} (h : Re nm s t) (hn : nm.length = 8) (hp : nm.Perm (List.range 8)) : Re nm (red s) (red t) := by
  have g : gA s.2 s.1 = gA t.2 t.1 := by rw [h.u]; exact (gA_perm (h.perm hn hp)).symm
  have dv : ∀ (xs : List Nat) (g i : Nat), (xs.map (· / g)).getD i 0 = xs.getD i 0 / g := fun xs g i => by
    simp only [List.getD_eq_getElem?_getD, List.getElem?_map]
    cases xs[i]? <;> simp
  refine ⟨by show s.2 / _ = t.2 / _; rw [g, h.u], by simp [red, h.ls], by simp [red, h.lt], fun k hk => ?_⟩
  show (s.1.map _).getD _ 0 = (t.1.map _).getD _ 0
  rw [dv, dv, g, h.at_ k hk]
theorem nm_lt {nm : List Nat} (hn : nm.length = 8) (hp : nm.Perm (List.range 8)) {k : Nat} (hk : k < 8) : nm.getD k 0 < 8 := by
  have : nm.getD k 0 ∈ nm := by
    rw [List.getD_eq_getElem?_getD, List.getElem?_eq_getElem (by omega)]
    simp
  exact List.mem_range.mp (hp.mem_iff.mp this)
theorem nm_inj {nm : List Nat} (hn : nm.length = 8) (hp : nm.Perm (List.range 8)) {j k : Nat} (hj : j < 8) (hk : k < 8) (e : nm.getD j 0 = nm.getD k 0) : j = k := by
  have nd : nm.Nodup := hp.symm.nodup List.nodup_range
  rw [List.getD_eq_getElem?_getD, List.getD_eq_getElem?_getD, List.getElem?_eq_getElem (by omega), List.getElem?_eq_getElem (by omega)] at e
  exact (List.getElem_inj nd).mp (by simpa using e)
theorem getD_set {xs : List Nat} {i j a : Nat} (hi : i < xs.length) : (xs.set i a).getD j 0 = if i = j then a else xs.getD j 0 := by
  rw [List.getD_eq_getElem?_getD, List.getD_eq_getElem?_getD, List.getElem?_set]
  by_cases e : i = j
  · subst e
    simp [hi]
  · simp [e]
theorem re_pre {nm : List Nat} {s t : S8} (d : Deed) (h : Re nm s t) (hn : nm.length = 8) (hp : nm.Perm (List.range 8)) (hd : d.ok) :
    (pre s (d.ren nm) = none ∧ pre t d = none) ∨ ∃ s' t', pre s (d.ren nm) = some s' ∧ pre t d = some t' ∧ Re nm s' t' := by
  cases d with
  | charge k a =>
    obtain ⟨hk, _⟩ := hd
    refine .inr ⟨_, _, rfl, rfl, h.u, by simp [h.ls], by simp [h.lt], fun j hj => ?_⟩
    show (s.1.set (nm.getD k 0) _).getD (nm.getD j 0) 0 = (t.1.set k _).getD j 0
    rw [getD_set (by rw [h.ls]; exact nm_lt hn hp hk), getD_set (by rw [h.lt]; exact hk), h.at_ k hk, h.u, h.at_ j hj]
    by_cases e : k = j
    · subst e; rw [if_pos rfl, if_pos rfl]
    · rw [if_neg e, if_neg fun z => e (nm_inj hn hp hk hj z)]
  | empty =>
    refine .inr ⟨_, _, rfl, rfl, rfl, rfl, rfl, fun j hj => ?_⟩
    have : ∀ i, z8.getD i 0 = 0 := fun i => by
      rw [List.getD_eq_getElem?_getD, z8, List.getElem?_replicate]
      split <;> rfl
    show z8.getD _ 0 = z8.getD _ 0
    rw [this, this]
  | gather m =>
    have hS : s.1.sum = t.1.sum := ((h.perm hn hp).sum_nat).symm
    unfold Deed.ren pre
    simp only [hS, h.u]
    split
    · exact .inl ⟨rfl, rfl⟩
    · split
      · exact .inr ⟨_, _, rfl, rfl, h⟩
      · refine .inr ⟨_, _, rfl, rfl, rfl, by simp [h.ls], by simp [h.lt], fun j hj => ?_⟩
        show (s.1.map _).getD _ 0 = (t.1.map _).getD _ 0
        rw [get_mul, get_mul, h.at_ j hj]
theorem re_held : ∀ (ds : List Deed) {nm : List Nat} {s t : S8}, Re nm s t → nm.length = 8 → nm.Perm (List.range 8) → (∀ d ∈ ds, d.ok) →
    (held (ds.map (Deed.ren nm)) s = none ∧ held ds t = none) ∨ ∃ s' t', held (ds.map (Deed.ren nm)) s = some s' ∧ held ds t = some t' ∧ Re nm s' t'
  | [], nm, s, t, h, _, _, _ => .inr ⟨s, t, rfl, rfl, h⟩
  | d :: ds, nm, s, t, h, hn, hp, hd => by
    rw [List.map_cons]
    unfold held
    rcases re_pre d h hn hp (hd d List.mem_cons_self) with ⟨e1, e2⟩ | ⟨s', t', e1, e2, h'⟩
    · rw [e1, e2]; exact .inl ⟨rfl, rfl⟩
    · rw [e1, e2]
      exact re_held ds (re_red h' hn hp) hn hp fun x hx => hd x (List.mem_cons_of_mem _ hx)
theorem re0 {nm : List Nat} : Re nm s0 s0 := ⟨rfl, rfl, rfl, fun k _ => by
  have : ∀ i, z8.getD i 0 = 0 := fun i => by
    rw [List.getD_eq_getElem?_getD, z8, List.getElem?_replicate]
    split <;> rfl
  show z8.getD _ 0 = z8.getD _ 0
  rw [this, this]⟩

/-! ### one more charge -/
theorem one_charge {s : S8} (hl : s.1.length = 8) (hp : 0 < s.2) {j t k : Nat} (hj : j < 8) : ∃ g s', 0 < g ∧ held [.charge j t] s = some s' ∧ s'.1.getD k 0 * g = (if j = k then s.1.getD j 0 + t * s.2 else s.1.getD k 0) ∧ s'.1.sum * g = s.1.sum + t * s.2 := by
  have T := red_tim (s := (s.1.set j (s.1.getD j 0 + t * s.2), s.2))
  refine ⟨_, _, gA_pos (g := s.2) (xs := s.1.set j (s.1.getD j 0 + t * s.2)) hp, rfl, ?_, ?_⟩
  · rw [← get_mul, ← T.1]
    show (s.1.set j _).getD k 0 = _
    exact getD_set (by rw [hl]; exact hj)
  · rw [← sum_mul, ← T.1]
    show (s.1.set j _).sum = _
    exact sum_set _ _ _ (by rw [hl]; exact hj)
/-- enough, and one less is not: over Int -/
theorem least_ok {D b : Int} (hb : 0 < b) : D ≤ (-((-D) / b)) * b ∧ (-((-D) / b) - 1) * b < D := by
  have h1 := Int.mul_ediv_self_le (x := -D) (k := b) (by omega)
  have h2 := Int.lt_mul_ediv_self_add (x := -D) (k := b) hb
  have e : b * ((-D) / b) = (-D) / b * b := Int.mul_comm _ _
  rw [e] at h1 h2
  constructor
  · rw [Int.neg_mul]; omega
  · rw [Int.sub_mul, Int.neg_mul]; omega

/-! ### all of it, and more than all of it -/
theorem map_zero (xs : List Nat) : xs.map (· * 0) = List.replicate xs.length 0 := by
  induction xs with
  | nil => rfl
  | cons x xs ih => rw [List.map_cons, ih, List.length_cons, List.replicate_succ, Nat.mul_zero]
theorem gA_zeros (g n : Nat) : gA g (List.replicate n 0) = g := by
  induction n with
  | zero => rfl
  | succ n ih =>
    rw [List.replicate_succ]
    show gA (Nat.gcd g 0) _ = g
    rw [Nat.gcd_zero_right]
    exact ih
theorem red_zeros {u : Nat} (h : 0 < u) : red (List.replicate 8 0, u) = (List.replicate 8 0, 1) := by
  unfold red
  simp only [gA_zeros, List.map_replicate, Nat.zero_div, Nat.div_self h]
theorem zeros_of_sum : ∀ {xs : List Nat}, xs.sum = 0 → xs = List.replicate xs.length 0
  | [], _ => rfl
  | x :: xs, h => by
    rw [List.sum_cons] at h
    rw [List.length_cons, List.replicate_succ, ← zeros_of_sum (xs := xs) (by omega)]
    have : x = 0 := by omega
    rw [this]
theorem gather_all {s : S8} {T : Nat} (hl : s.1.length = 8) (hp : 0 < s.2) (hT : s.1.sum = T * s.2) : held [.gather T] s = some (List.replicate 8 0, 1) := by
  unfold held pre
  simp only
  rw [if_neg (by rw [hT]; exact Nat.lt_irrefl _)]
  by_cases h : T = 0
  · rw [if_pos h]
    simp only
    show held [] (red s) = _
    subst h
    rw [Nat.zero_mul] at hT
    have e := zeros_of_sum hT
    rw [hl] at e
    have e2 : s = (List.replicate 8 0, s.2) := by rw [← e]
    rw [e2, red_zeros hp]
    rfl
  · rw [if_neg h]
    simp only
    have e : s.1.sum - T * s.2 = 0 := by rw [hT]; exact Nat.sub_self _
    rw [e, map_zero, hl, red_zeros (Nat.mul_pos hp (by rw [hT]; exact Nat.mul_pos (Nat.pos_of_ne_zero h) hp))]
    rfl
theorem gather_more {s : S8} {T : Nat} (hp : 0 < s.2) (hT : s.1.sum = T * s.2) : held [.gather (T + 1)] s = none := by
  unfold held pre
  simp only
  rw [if_pos (by rw [hT]; exact Nat.mul_lt_mul_of_pos_right (Nat.lt_succ_self _) hp)]
theorem empty_charge (s : S8) : held [.empty, .charge 3 7] s = some ([0, 0, 0, 7, 0, 0, 0, 0], 1) := by
  have e : red (z8, 1) = (z8, 1) := red_one _
  show held [.charge 3 7] (red (z8, 1)) = _
  rw [e]
  show some (red ([0, 0, 0, 7, 0, 0, 0, 0], 1)) = _
  rw [red_one]
end K24
set_option Elab.async false
set_option linter.all false
set_option maxRecDepth 100000
set_option maxHeartbeats 400000
namespace K24
open PySem L2 DL
/-! ### what the defs promise -/
abbrev nI (n : Nat) : D := .int ((n : Nat) : Int)
def Deed.d : Deed → D
  | .charge k a => .tuple [.str "charge", nI k, nI a]
  | .gather a => .tuple [.str "gather", nI a]
  | .empty => .tuple [.str "empty"]
def dsD (ds : List Deed) : D := .tuple (ds.map Deed.d)
def sD (s : S8) : D := .tuple [.tuple (s.1.map nI), nI s.2]
def heD : Option S8 → D
  | none => .none
  | some s => sD s
def hoD : Option S8 → D
  | none => .none
  | some s => .tuple [.list (s.1.map nI), nI s.2]
def leD (o : Option S8) (k j p : Nat) : D := match o with
  | none => .none
  | some s => if 1000 * s.1.getD k 0 ≤ p * s.1.sum then nI 0 else if k = j ∨ p = 0 then .none else .int (-((-(((s.1.getD k 0 * 1000 : Nat) : Int) - ((s.1.sum * p : Nat) : Int))) / ((p * s.2 : Nat) : Int)))
def Deeds (ds : List Deed) : Prop := ds.length ≤ 30 ∧ ∀ d ∈ ds, d.ok
def Pot (n : Nat) (xs : List D) : Prop := ∃ o s c : Int, xs = [.int o, .int s, .int c] ∧ 0 ≤ o ∧ (0 ≤ s ∧ s < 2 ^ 61) ∧ 0 ≤ c ∧ c ≤ n
def sp_is_tuple : DSp := fun as q => ∃ xs lo hi, as = [.dat (.tuple xs), .dat (.int lo), .dat (.int hi)] ∧ (lo ≤ ((xs.length : Nat) : Int) ∧ ((xs.length : Nat) : Int) ≤ hi) ∧ q (.dat (.bool true)) []
def sp_is_whole : DSp := fun as q => ∃ i, as = [.dat (.int i)] ∧ q (.dat (.bool true)) []
def sp_is_integer : DSp := fun as q => ∃ i lo hi, as = [.dat (.int i), .dat (.int lo), .dat (.int hi)] ∧ (lo ≤ i ∧ i ≤ hi) ∧ q (.dat (.bool true)) []
def sp_is_deeds : DSp := fun as q => ∃ ds, as = [.dat (dsD ds)] ∧ Deeds ds ∧ q (.dat (.bool true)) []
def sp_divisor : DSp := fun as q => ∃ a b : Nat, as = [.dat (nI a), .dat (nI b)] ∧ q (.dat (nI (Nat.gcd a b))) []
def sp__law_gcd : DSp := fun as q => ∃ a b : Nat, as = [.dat (nI a), .dat (nI b)] ∧ b < 2 ^ 2000 ∧ q (.dat (nI (Nat.gcd a b))) []
def sp_held_of : DSp := fun as q => ∃ ds, as = [.dat (dsD ds)] ∧ Deeds ds ∧ q (.dat (hoD (held ds s0))) []
def sp_held : DSp := fun as q => ∃ ds, as = [.dat (dsD ds)] ∧ Deeds ds ∧ q (.dat (heD (held ds s0))) []
def sp__law_held : DSp := fun as q => ∃ ds, as = [.dat (dsD ds)] ∧ Deeds ds ∧ q (.dat (heD (held ds s0))) []
def sp_least_charge : DSp := fun as q => ∃ ds k j p, as = [.dat (dsD ds), .dat (nI k), .dat (nI j), .dat (nI p)] ∧ Deeds ds ∧ (k < 8 ∧ j < 8 ∧ p ≤ 1000) ∧ q (.dat (leD (held ds s0) k j p)) []
def sp__law_take : DSp := fun as q => ∃ (n : Nat) (xs : List D) (m : Nat), as = [.io xs, .dat (nI m)] ∧ Pot n xs ∧ n < 100000 ∧ (0 < m ∧ m < 2 ^ 40) ∧ ∀ (r : Nat) ys, r < m → Pot (n + 1) ys → q (.dat (nI r)) ys
def sp__law_of : DSp := fun as q => ∃ (n : Nat) (xs ds : List D), as = [.io xs, .dat (.list ds)] ∧ Pot n xs ∧ n < 100000 ∧ (0 < ds.length ∧ ds.length < 1000) ∧ ∀ d ys, d ∈ ds → Pot (n + 1) ys → q (.dat d) ys
def sp__law_some : DSp := fun as q => ∃ (n : Nat) (xs ds : List D) (m : Nat), as = [.io xs, .dat (.list ds), .dat (nI m)] ∧ Pot n xs ∧ n < 90000 ∧ (m = ds.length ∧ ds.length < 1000) ∧ ∀ es ys, es.Perm ds → Pot (n + m) ys → q (.tmp es) ys
def sp__law_deeds_drawn : DSp := fun as q => ∃ (n : Nat) (xs : List D) (m : Nat), as = [.io xs, .dat (nI m)] ∧ Pot n xs ∧ n < 90000 ∧ m ≤ 30 ∧ ∀ ds ys, Deeds ds → Pot (n + 200) ys → q (.dat (dsD ds)) ys
def spRight : DSp := fun as q => ∃ (n : Nat) (xs : List D) (ds : List Deed), as = [.io xs, .dat (dsD ds), .dat (heD (held ds s0))] ∧ Pot n xs ∧ n < 90000 ∧ Deeds ds ∧ ∀ ys, Pot (n + 20) ys → q (.dat (.bool true)) ys
def sp__law_is_charge_right : DSp := spRight
def sp__law_is_parted_right : DSp := spRight
def sp__law_are_others_right : DSp := spRight
def sp__law_right : DSp := fun as q => ∃ (n : Nat) (xs : List D), as = [.io xs] ∧ Pot n xs ∧ n < 80000 ∧ ∀ ys, Pot (n + 500) ys → q (.dat (.bool true)) ys
def sp__law_places : DSp := fun as q => ∃ ns : List Int, as = [.dat (.list (ns.map PyData.int)), .dat (.int 3)] ∧ ns.length ≤ 63 ∧ ∀ m, m ≤ 3 → q (.tmp (rangeD 0 m)) []
def sp__law_pot : DSp := fun as q => ∃ (ns : List Int) (i : Nat), as = [.dat (.list (ns.map PyData.int)), .dat (nI i)] ∧ ns.length ≤ 63 ∧ i < 3 ∧ ∀ ys, Pot 0 ys → q (.tmp ys) []
end K24
set_option Elab.async false
set_option linter.all false
set_option maxRecDepth 100000
set_option maxHeartbeats 400000
namespace K24
open PySem L2 DL
open PyProof.Rows (boot_repr boot_sum boot_all boot_any boot_max boot_min boot_abs boot_int boot_list boot_tuple)
def top (i : Nat) : Stmt := PySem.Challenge.pw_everypiecesound_k24_whole_pots_mixed_dee.main.body.getD i (.Pass ⟨0, 0, 0, 0⟩)
abbrev s__law_places : Stmt := top 27
abbrev N__law_places : List Str := ["script", "most"]
abbrev s__law_pot : Stmt := top 24
abbrev N__law_pot : List Str := ["script", "place", "cell", "own", "small"]
abbrev s__law_take : Stmt := top 25
abbrev N__law_take : List Str := ["pot", "upto", "digit", "prime", "blend"]
abbrev s__law_of : Stmt := top 26
abbrev N__law_of : List Str := ["pot", "some"]
abbrev s__law_deeds_drawn : Stmt := top 29
abbrev N__law_deeds_drawn : List Str := ["pot", "most", "found", "scale", "there", "lap", "way", "much"]
abbrev s__law_gcd : Stmt := top 30
abbrev N__law_gcd : List Str := ["one", "other", "lap"]
abbrev s__law_held : Stmt := top 31
abbrev N__law_held : List Str := ["deeds", "some", "under", "deed", "total", "least", "one"]
abbrev s_is_tuple : Stmt := top 1
abbrev N_is_tuple : List Str := ["value", "least", "most"]
abbrev s_is_whole : Stmt := top 2
abbrev N_is_whole : List Str := ["value"]
abbrev s_is_integer : Stmt := top 3
abbrev N_is_integer : List Str := ["value", "low", "high"]
abbrev s_is_deeds : Stmt := top 18
abbrev N_is_deeds : List Str := ["value", "deed"]
abbrev s_divisor : Stmt := top 19
abbrev N_divisor : List Str := ["one", "other"]
abbrev s_held_of : Stmt := top 20
abbrev N_held_of : List Str := ["deeds", "amounts", "under", "deed", "total", "share", "one"]
abbrev s_held : Stmt := top 21
abbrev N_held : List Str := ["deeds", "found"]
abbrev s_least_charge : Stmt := top 22
abbrev N_least_charge : List Str := ["deeds", "kind", "other", "parts", "number", "found", "amounts", "under", "own", "total"]
abbrev s__law_is_charge_right : Stmt := top 32
abbrev N__law_is_charge_right : List Str := ["pot", "deeds", "due", "kind", "other", "parts", "told", "some", "under", "total", "mine", "least", "made", "less"]
abbrev s__law_is_parted_right : Stmt := top 33
abbrev N__law_is_parted_right : List Str := ["pot", "deeds", "due", "cut", "first", "some", "under", "rest", "deed", "made", "told", "kind", "one", "mine"]
abbrev s__law_some : Stmt := top 28
abbrev N__law_some : List Str := ["pot", "pool", "many", "rests", "found", "lap"]
abbrev s__law_are_others_right : Stmt := top 34
abbrev N__law_are_others_right : List Str := ["pot", "deeds", "due", "names", "made", "told", "there", "kind", "deed", "one"]
abbrev s__law_right : Stmt := top 35
abbrev N__law_right : List Str := ["pot", "deeds", "due", "more"]
abbrev s_law : Stmt := top 36
abbrev N_law : List Str := ["script", "place", "pot", "lap"]
structure Txt (mg : Str → Option Value) : Prop where
  b_list : mg "list" = none
  b_range : mg "range" = none
  b_max : mg "max" = none
  b_min : mg "min" = none
  b_len : mg "len" = none
  b_sum : mg "sum" = none
  b_int : mg "int" = none
  b_abs : mg "abs" = none
  b_tuple : mg "tuple" = none
  b_isinstance : mg "isinstance" = none
  b_bool : mg "bool" = none
  b_all : mg "all" = none
  b_str : mg "str" = none
  b_repr : mg "repr" = none
  b_enumerate : mg "enumerate" = none
  b_any : mg "any" = none
  b_zip : mg "zip" = none
  c_MOST_STEPS : ∃ t, mg "MOST_STEPS" = some (.int 30 t)
  c_TRIPLE : ∃ t, mg "TRIPLE" = some (.int 3 t)
  c_CHARGE : ∃ t, mg "CHARGE" = some (.str "charge" t)
  c_MOST_KINDS : ∃ t, mg "MOST_KINDS" = some (.int 8 t)
  c_PAIR : ∃ t, mg "PAIR" = some (.int 2 t)
  c_MOST_ROOM : ∃ t, mg "MOST_ROOM" = some (.int 1000000 t)
  c_GATHER : ∃ t, mg "GATHER" = some (.str "gather" t)
  c_EMPTY : ∃ t, mg "EMPTY" = some (.str "empty" t)
  c_MOST_AMOUNT : ∃ t, mg "MOST_AMOUNT" = some (.int 1000 t)
def t__law_places : DTS := dRet (dLstRg (rg1 (dOpN max2B (dCons (dC (.int 1)) (dCons (dOpN min2B (dCons (dVar 1) (dCons (dOpN lenB (dCons (dVar 0) (dNil))) (dNil)))) (dNil))))))
abbrev r2__law_pot : DTS := dSeq (dSet 4 (dOp2 modB (dOpN intB (dCons (dVar 2) (dNil))) (dC (.int 2305843009213693951)))) (dRet (dLst (dCons (dVar 3) (dCons (dOp2 modB (dOpN intB (dCons (dOp2 addB (dOp2 addB (dOp2 mulB (dVar 4) (dC (.int 140753))) (dOp2 mulB (dOp2 mulB (dC (.int 34039)) (dVar 1)) (dVar 1))) (dC (.int 937))) (dNil))) (dC (.int 2305843009213693921))) (dCons (dC (.int 0)) (dNil))))))
abbrev r1__law_pot : DTS := dSeq (dSet 3 (dOp2 mulB (dOp2 modB (dOpN intB (dCons (dOpN absB (dCons (dVar 2) (dNil))) (dNil))) (dOp2 powB (dOp2 powB (dC (.int 10)) (dC (.int 60))) (dC (.int 5)))) (dOpN intB (dCons (dOp2 geB (dOpN absB (dCons (dVar 2) (dNil))) (dOp2 powB (dC (.int 10)) (dC (.int 18)))) (dNil))))) (r2__law_pot)
def t__law_pot : DTS := dSeq (dSet 2 (dIfE (dTest (dOp2 ltB (dVar 1) (dOpN lenB (dCons (dVar 0) (dNil))))) (dOp2 ixB (dVar 0) (dVar 1)) (dOp2 addB (dOp2 addB (dOp2 modB (dOpN sumB (dCons (dSl slB (dVar 0) (dPartN) (dPart (dC (.int 1)))) (dNil))) (dC (.int 1000003))) (dOp2 mulB (dC (.int 31859)) (dVar 1))) (dC (.int 481))))) (r1__law_pot)
abbrev r4__law_take : DTS := dSeq (dSet 4 (dOp2 modB (dOpN intB (dCons (dOp2 mulB (dVar 4) (dOp2 addB (dOp2 modB (dOpN intB (dCons (dVar 4) (dNil))) (dC (.int 10459))) (dOp2 mulB (dC (.int 122)) (dOp2 ixB (dVar 0) (dC (.int 2)))))) (dNil))) (dC (.int 2305843009213693907)))) (dRet (dOp2 modB (dOpN intB (dCons (dOp2 fdivB (dVar 4) (dC (.int 152))) (dNil))) (dVar 1)))
abbrev r3__law_take : DTS := dSeq (dSet 4 (dOp2 modB (dOpN intB (dCons (dOp2 powB (dOpN intB (dCons (dOp2 addB (dOp2 addB (dOp2 ixB (dVar 0) (dC (.int 1))) (dOp2 mulB (dOp2 mulB (dC (.int 112169)) (dOp2 ixB (dVar 0) (dC (.int 2)))) (dOp2 ixB (dVar 0) (dC (.int 2))))) (dC (.int 785))) (dNil))) (dC (.int 3))) (dNil))) (dVar 3))) (r4__law_take)
abbrev r2__law_take : DTS := dSeq (dSet 3 (dOp2 ixB (dLst (dCons (dC (.int 2147483647)) (dCons (dC (.int 2147483629)) (dCons (dC (.int 2147483587)) (dCons (dC (.int 2147483579)) (dCons (dC (.int 2147483563)) (dNil))))))) (dOp2 modB (dOpN intB (dCons (dOp2 ixB (dVar 0) (dC (.int 2))) (dNil))) (dC (.int 5))))) (r3__law_take)
abbrev r1__law_take : DTS := dSeq (dSetIx 0 (dOp2 addB (dOp2 ixB (dVar 0) (dC (.int 2))) (dC (.int 1))) (dC (.int 2))) (r2__law_take)
def t__law_take : DTS := dSeq (dIf (dTest (dOp2 gtB (dOp2 ixB (dVar 0) (dC (.int 0))) (dC (.int 0)))) (dSeq (dSet 2 (dOp2 modB (dOpN intB (dCons (dOp2 ixB (dVar 0) (dC (.int 0))) (dNil))) (dVar 1))) (dSeq (dSetIx 0 (dOp2 fdivB (dOp2 ixB (dVar 0) (dC (.int 0))) (dVar 1)) (dC (.int 0))) (dRet (dVar 2)))) (dNext)) (r1__law_take)
def t__law_of : DTS := dRet (dOp2 ixB (dVar 1) (dCallIo 0 [false] sp__law_take (dCons (dVar 0) (dCons (dOpN lenB (dCons (dVar 1) (dNil))) (dNil)))))
abbrev b1__law_deeds_drawn : DTS := dSeq (dSet 6 (dCallIo 0 [false] sp__law_take (dCons (dVar 0) (dCons (dC (.int 9)) (dNil))))) (dIf (dTest (dOp2 ltB (dVar 6) (dC (.int 5)))) (dSeq (dDrop (dApp 2 (dTup (dCons (dC (.str "charge")) (dCons (dOpN intB (dCons (dCallIo 0 [false] sp__law_take (dCons (dVar 0) (dCons (dCallIo 0 [false] sp__law_of (dCons (dVar 0) (dCons (dLst (dCons (dC (.int 2)) (dCons (dC (.int 8)) (dNil)))) (dNil)))) (dNil)))) (dNil))) (dCons (dOpN intB (dCons (dCallIo 0 [false] sp__law_take (dCons (dVar 0) (dCons (dOp2 addB (dVar 3) (dC (.int 1))) (dNil)))) (dNil))) (dNil))))))) (dSet 4 (dOp2 addB (dVar 4) (dOp2 ixB (dOp2 ixB (dVar 2) (dOp1 negB (dC (.int 1)))) (dC (.int 2)))))) (dIf (dTest (dOp2 ltB (dVar 6) (dC (.int 8)))) (dSeq (dSet 7 (dOpN min2B (dCons (dOp2 powB (dC (.int 10)) (dC (.int 6))) (dCons (dVar 4) (dNil))))) (dSeq (dDrop (dApp 2 (dTup (dCons (dC (.str "gather")) (dCons (dOpN intB (dCons (dCallIo 0 [false] sp__law_of (dCons (dVar 0) (dCons (dLst (dCons (dVar 7) (dCons (dOp2 fdivB (dVar 7) (dC (.int 2))) (dCons (dOpN min2B (dCons (dC (.int 1)) (dCons (dVar 7) (dNil)))) (dCons (dOpN intB (dCons (dCallIo 0 [false] sp__law_take (dCons (dVar 0) (dCons (dOp2 addB (dVar 7) (dC (.int 1))) (dNil)))) (dNil))) (dNil)))))) (dNil)))) (dNil))) (dNil)))))) (dSet 4 (dOp2 subB (dVar 4) (dOp2 ixB (dOp2 ixB (dVar 2) (dOp1 negB (dC (.int 1)))) (dC (.int 1))))))) (dSeq (dDrop (dApp 2 (dTup (dCons (dC (.str "empty")) (dNil))))) (dSet 4 (dC (.int 0))))))
abbrev r1__law_deeds_drawn : DTS := dSeq (dFor (diRng1 (dCons (dCallIo 0 [false] sp__law_take (dCons (dVar 0) (dCons (dOp2 addB (dVar 1) (dC (.int 1))) (dNil)))) (dNil))) (gdName 5) (b1__law_deeds_drawn)) (dRet (dOpN tupleB (dCons (dVar 2) (dNil))))
def t__law_deeds_drawn : DTS := dSeq (dPar [2, 3, 4] (dCons (dLst (dNil)) (dCons (dOpN intB (dCons (dCallIo 0 [false] sp__law_of (dCons (dVar 0) (dCons (dLst (dCons (dC (.int 6)) (dCons (dC (.int 90)) (dCons (dOp2 powB (dC (.int 10)) (dC (.int 6))) (dNil))))) (dNil)))) (dNil))) (dCons (dC (.int 0)) (dNil))))) (r1__law_deeds_drawn)
abbrev b1__law_gcd : DTS := dSeq (dIf (dTest (dOp2 eqB (dVar 1) (dC (.int 0)))) (dRet (dVar 0)) (dNext)) (dPar [0, 1] (dCons (dVar 1) (dCons (dOp2 modB (dOpN intB (dCons (dVar 0) (dNil))) (dVar 1)) (dNil))))
def t__law_gcd : DTS := dSeq (dFor (diRng1 (dCons (dC (.int 5000)) (dNil))) (gdName 2) (b1__law_gcd)) (dRet (dVar 0))
abbrev e1__law_held : DTE := dOp2 mulB (dVar 6) (dOp2 subB (dVar 4) (dOp2 mulB (dOp2 ixB (dVar 3) (dC (.int 1))) (dVar 2)))
abbrev b1__law_held : DTS := dSet 5 (dCall [false, false] sp__law_gcd (dCons (dVar 5) (dCons (dVar 6) (dNil))))
abbrev e2__law_held : DTE := dOp2 fdivB (dVar 6) (dVar 5)
abbrev b2__law_held : DTS := dSeq (dIf (dTest (dOp2 eqB (dOp2 ixB (dVar 3) (dC (.int 0))) (dC (.str "charge")))) (dSetIx 1 (dOp2 addB (dOp2 ixB (dVar 1) (dOp2 ixB (dVar 3) (dC (.int 1)))) (dOp2 mulB (dOp2 ixB (dVar 3) (dC (.int 2))) (dVar 2))) (dOp2 ixB (dVar 3) (dC (.int 1)))) (dIf (dTest (dOp2 eqB (dOp2 ixB (dVar 3) (dC (.int 0))) (dC (.str "empty")))) (dPar [1, 2] (dCons (dRepL (dCons (dC (.int 0)) (dNil)) (dC (.int 8))) (dCons (dC (.int 1)) (dNil)))) (dSeq (dSet 4 (dOpN sumB (dCons (dVar 1) (dNil)))) (dSeq (dIf (dTest (dOp2 gtB (dOp2 mulB (dOp2 ixB (dVar 3) (dC (.int 1))) (dVar 2)) (dVar 4))) (dRet (dC .none)) (dNext)) (dIf (dTest (dOp2 gtB (dOp2 ixB (dVar 3) (dC (.int 1))) (dC (.int 0)))) (dPar [1, 2] (dCons (dLc (dcSeq (dVar 1)) (gdName 6) (dYes) (e1__law_held) [6]) (dCons (dOp2 mulB (dVar 2) (dVar 4)) (dNil)))) (dNext)))))) (dSeq (dSet 5 (dVar 2)) (dSeq (dFor (diSeq (dVar 1)) (gdName 6) (b1__law_held)) (dPar [1, 2] (dCons (dLc (dcSeq (dVar 1)) (gdName 6) (dYes) (e2__law_held) [6]) (dCons (dOp2 fdivB (dVar 2) (dVar 5)) (dNil))))))
abbrev r1__law_held : DTS := dSeq (dFor (diSeq (dVar 0)) (gdName 3) (b2__law_held)) (dRet (dTup (dCons (dOpN tupleB (dCons (dVar 1) (dNil))) (dCons (dVar 2) (dNil)))))
def t__law_held : DTS := dSeq (dPar [1, 2] (dCons (dRepL (dCons (dC (.int 0)) (dNil)) (dC (.int 8))) (dCons (dC (.int 1)) (dNil)))) (r1__law_held)
def t_is_tuple : DTS := dRet (dAndV (dIsi .tuple (dVar 0)) (dChain leB leB (dVar 1) (dOpN lenB (dCons (dVar 0) (dNil))) (dVar 2)))
def t_is_whole : DTS := dRet (dAndV (dIsi .int (dVar 0)) (dNotV (dIsi .bool (dVar 0))))
def t_is_integer : DTS := dRet (dAndV (dCall [false] sp_is_whole (dCons (dVar 0) (dNil))) (dChain leB leB (dVar 1) (dVar 0) (dVar 2)))
abbrev e1_is_deeds : DTE := dCall [false, false, false] sp_is_tuple (dCons (dVar 1) (dCons (dC (.int 1)) (dCons (dC (.int 3)) (dNil))))
abbrev b1_is_deeds : DTS := dSeq (dIf (dNot (dTruth (dIsi .str (dOp2 ixB (dVar 1) (dC (.int 0)))))) (dRet (dC (.bool false))) (dNext)) (dIf (dTest (dOp2 eqB (dOp2 ixB (dVar 1) (dC (.int 0))) (dC (.str "charge")))) (dSeq (dIf (dOr (dTest (dOp2 neB (dOpN lenB (dCons (dVar 1) (dNil))) (dC (.int 3)))) (dNot (dTruth (dCall [false, false, false] sp_is_integer (dCons (dOp2 ixB (dVar 1) (dC (.int 1))) (dCons (dC (.int 0)) (dCons (dOp2 subB (dC (.int 8)) (dC (.int 1))) (dNil)))))))) (dRet (dC (.bool false))) (dNext)) (dIf (dNot (dTruth (dCall [false, false, false] sp_is_integer (dCons (dOp2 ixB (dVar 1) (dC (.int 2))) (dCons (dC (.int 0)) (dCons (dC (.int 1000000)) (dNil))))))) (dRet (dC (.bool false))) (dNext))) (dIf (dTest (dOp2 eqB (dOp2 ixB (dVar 1) (dC (.int 0))) (dC (.str "gather")))) (dIf (dOr (dTest (dOp2 neB (dOpN lenB (dCons (dVar 1) (dNil))) (dC (.int 2)))) (dNot (dTruth (dCall [false, false, false] sp_is_integer (dCons (dOp2 ixB (dVar 1) (dC (.int 1))) (dCons (dC (.int 0)) (dCons (dC (.int 1000000)) (dNil)))))))) (dRet (dC (.bool false))) (dNext)) (dIf (dTest (dOp2 neB (dVar 1) (dTup (dCons (dC (.str "empty")) (dNil))))) (dRet (dC (.bool false))) (dNext))))
abbrev r1_is_deeds : DTS := dSeq (dFor (diSeq (dVar 0)) (gdName 1) (b1_is_deeds)) (dRet (dC (.bool true)))
def t_is_deeds : DTS := dSeq (dIf (dOr (dNot (dTruth (dCall [false, false, false] sp_is_tuple (dCons (dVar 0) (dCons (dC (.int 0)) (dCons (dC (.int 30)) (dNil))))))) (dNot (dTruth (dOpN allB (dCons (dLc (dcSeq (dVar 0)) (gdName 1) (dYes) (e1_is_deeds) [1]) (dNil)))))) (dRet (dC (.bool false))) (dNext)) (r1_is_deeds)
abbrev b1_divisor : DTS := dPar [0, 1] (dCons (dVar 1) (dCons (dOp2 modB (dVar 0) (dVar 1)) (dNil)))
abbrev c1_divisor : DTT := dTest (dOp2 neB (dVar 1) (dC (.int 0)))
def t_divisor : DTS := dSeq (dWhile (c1_divisor) (b1_divisor)) (dRet (dVar 0))
abbrev e1_held_of : DTE := dOp2 mulB (dVar 6) (dOp2 subB (dVar 4) (dOp2 mulB (dOp2 ixB (dVar 3) (dC (.int 1))) (dVar 2)))
abbrev b1_held_of : DTS := dSet 5 (dCall [false, false] sp_divisor (dCons (dVar 5) (dCons (dVar 6) (dNil))))
abbrev e2_held_of : DTE := dOp2 fdivB (dVar 6) (dVar 5)
abbrev b2_held_of : DTS := dSeq (dIf (dTest (dOp2 eqB (dOp2 ixB (dVar 3) (dC (.int 0))) (dC (.str "charge")))) (dSetIx 1 (dOp2 addB (dOp2 ixB (dVar 1) (dOp2 ixB (dVar 3) (dC (.int 1)))) (dOp2 mulB (dOp2 ixB (dVar 3) (dC (.int 2))) (dVar 2))) (dOp2 ixB (dVar 3) (dC (.int 1)))) (dIf (dTest (dOp2 eqB (dOp2 ixB (dVar 3) (dC (.int 0))) (dC (.str "empty")))) (dSet 1 (dRepL (dCons (dC (.int 0)) (dNil)) (dC (.int 8)))) (dSeq (dSet 4 (dOpN sumB (dCons (dVar 1) (dNil)))) (dSeq (dIf (dTest (dOp2 gtB (dOp2 mulB (dOp2 ixB (dVar 3) (dC (.int 1))) (dVar 2)) (dVar 4))) (dRet (dC .none)) (dNext)) (dIf (dTest (dOp2 gtB (dOp2 ixB (dVar 3) (dC (.int 1))) (dC (.int 0)))) (dPar [1, 2] (dCons (dLc (dcSeq (dVar 1)) (gdName 6) (dYes) (e1_held_of) [6]) (dCons (dOp2 mulB (dVar 2) (dVar 4)) (dNil)))) (dNext)))))) (dSeq (dSet 5 (dVar 2)) (dSeq (dFor (diSeq (dVar 1)) (gdName 6) (b1_held_of)) (dPar [1, 2] (dCons (dLc (dcSeq (dVar 1)) (gdName 6) (dYes) (e2_held_of) [6]) (dCons (dOp2 fdivB (dVar 2) (dVar 5)) (dNil))))))
abbrev r1_held_of : DTS := dSeq (dFor (diSeq (dVar 0)) (gdName 3) (b2_held_of)) (dRet (dTup (dCons (dVar 1) (dCons (dVar 2) (dNil)))))
def t_held_of : DTS := dSeq (dPar [1, 2] (dCons (dRepL (dCons (dC (.int 0)) (dNil)) (dC (.int 8))) (dCons (dC (.int 1)) (dNil)))) (r1_held_of)
abbrev r1_held : DTS := dSeq (dSet 1 (dCall [false] sp_held_of (dCons (dVar 0) (dNil)))) (dRet (dIfE (dTest (dOp2 isNotB (dVar 1) (dC .none))) (dTup (dCons (dOpN tupleB (dCons (dOp2 ixB (dVar 1) (dC (.int 0))) (dNil))) (dCons (dOp2 ixB (dVar 1) (dC (.int 1))) (dNil)))) (dC .none)))
def t_held : DTS := dSeq (dIf (dNot (dTruth (dCall [false] sp_is_deeds (dCons (dVar 0) (dNil))))) (dNever) (dNext)) (r1_held)
abbrev b1_least_charge : DTS := dIf (dNot (dTruth (dCall [false, false, false] sp_is_integer (dCons (dVar 4) (dCons (dC (.int 0)) (dCons (dOp2 subB (dC (.int 8)) (dC (.int 1))) (dNil))))))) (dNever) (dNext)
abbrev r8_least_charge : DTS := dSeq (dIf (dOr (dTest (dOp2 eqB (dVar 1) (dVar 2))) (dTest (dOp2 eqB (dVar 3) (dC (.int 0))))) (dRet (dC .none)) (dNext)) (dRet (dOp1 negB (dOp2 fdivB (dOp1 negB (dOp2 subB (dVar 8) (dVar 9))) (dOp2 mulB (dVar 3) (dVar 7)))))
abbrev r7_least_charge : DTS := dSeq (dIf (dTest (dOp2 leB (dVar 8) (dVar 9))) (dRet (dC (.int 0))) (dNext)) (r8_least_charge)
abbrev r6_least_charge : DTS := dSeq (dPar [8, 9] (dCons (dOp2 mulB (dOp2 ixB (dVar 6) (dVar 1)) (dC (.int 1000))) (dCons (dOp2 mulB (dOpN sumB (dCons (dVar 6) (dNil))) (dVar 3)) (dNil)))) (r7_least_charge)
abbrev r5_least_charge : DTS := dSeq (dUnp (gdTup 2 (gdCons (gdName 6) (gdCons (gdName 7) (gdNil)))) (dVar 5)) (r6_least_charge)
abbrev r4_least_charge : DTS := dSeq (dIf (dTest (dOp2 isB (dVar 5) (dC .none))) (dRet (dC .none)) (dNext)) (r5_least_charge)
abbrev r3_least_charge : DTS := dSeq (dSet 5 (dCall [false] sp_held_of (dCons (dVar 0) (dNil)))) (r4_least_charge)
abbrev r2_least_charge : DTS := dSeq (dIf (dNot (dTruth (dCall [false, false, false] sp_is_integer (dCons (dVar 3) (dCons (dC (.int 0)) (dCons (dC (.int 1000)) (dNil))))))) (dNever) (dNext)) (r3_least_charge)
abbrev r1_least_charge : DTS := dSeq (dFor (diSeq (dTup (dCons (dVar 1) (dCons (dVar 2) (dNil))))) (gdName 4) (b1_least_charge)) (r2_least_charge)
def t_least_charge : DTS := dSeq (dIf (dNot (dTruth (dCall [false] sp_is_deeds (dCons (dVar 0) (dNil))))) (dNever) (dNext)) (r1_least_charge)
abbrev r11__law_is_charge_right : DTS := dSeq (dIf (dTest (dOp2 gtB (dVar 6) (dC (.int 0)))) (dSeq (dSet 13 (dCall [false] sp_held (dCons (dOp2 addB (dVar 1) (dTup (dCons (dTup (dCons (dC (.str "charge")) (dCons (dVar 4) (dCons (dOp2 subB (dVar 6) (dC (.int 1))) (dNil))))) (dNil)))) (dNil)))) (dRet (dOp2 gtB (dOp2 mulB (dC (.int 1000)) (dOp2 ixB (dOp2 ixB (dVar 13) (dC (.int 0))) (dVar 3))) (dOp2 mulB (dVar 5) (dOpN sumB (dCons (dOp2 ixB (dVar 13) (dC (.int 0))) (dNil))))))) (dNext)) (dRet (dC (.bool true)))
abbrev r10__law_is_charge_right : DTS := dSeq (dIf (dTest (dOp2 gtB (dOp2 mulB (dC (.int 1000)) (dOp2 ixB (dOp2 ixB (dVar 12) (dC (.int 0))) (dVar 3))) (dOp2 mulB (dVar 5) (dOpN sumB (dCons (dOp2 ixB (dVar 12) (dC (.int 0))) (dNil)))))) (dRet (dC (.bool false))) (dNext)) (r11__law_is_charge_right)
abbrev r9__law_is_charge_right : DTS := dSeq (dSet 12 (dCall [false] sp_held (dCons (dOp2 addB (dVar 1) (dTup (dCons (dTup (dCons (dC (.str "charge")) (dCons (dVar 4) (dCons (dVar 6) (dNil))))) (dNil)))) (dNil)))) (r10__law_is_charge_right)
abbrev r8__law_is_charge_right : DTS := dSeq (dIf (dOr (dTest (dOp2 isB (dVar 6) (dC .none))) (dOr (dNot (dTest (dOp2 leB (dVar 6) (dOp2 powB (dC (.int 10)) (dC (.int 6)))))) (dTest (dOp2 gtB (dOpN lenB (dCons (dVar 1) (dNil))) (dC (.int 29)))))) (dRet (dC (.bool true))) (dNext)) (r9__law_is_charge_right)
abbrev r7__law_is_charge_right : DTS := dSeq (dIf (dTest (dOp2 neB (dOpN reprB (dCons (dVar 6) (dNil))) (dOpN reprB (dCons (dVar 11) (dNil))))) (dRet (dC (.bool false))) (dNext)) (r8__law_is_charge_right)
abbrev r6__law_is_charge_right : DTS := dSeq (dIf (dTest (dOp2 eqB (dVar 3) (dVar 4))) (dSet 11 (dIfE (dTest (dOp2 leB (dOp2 mulB (dC (.int 1000)) (dVar 10)) (dOp2 mulB (dVar 5) (dVar 9)))) (dC (.int 0)) (dC .none))) (dIf (dTest (dOp2 leB (dOp2 mulB (dC (.int 1000)) (dVar 10)) (dOp2 mulB (dVar 5) (dVar 9)))) (dSet 11 (dC (.int 0))) (dIf (dTest (dOp2 eqB (dVar 5) (dC (.int 0)))) (dSet 11 (dC .none)) (dSet 11 (dOp1 negB (dOp2 fdivB (dOp2 subB (dOp2 mulB (dVar 5) (dVar 9)) (dOp2 mulB (dC (.int 1000)) (dVar 10))) (dOp2 mulB (dVar 5) (dVar 8)))))))) (r7__law_is_charge_right)
abbrev r5__law_is_charge_right : DTS := dSeq (dPar [9, 10] (dCons (dOpN sumB (dCons (dVar 7) (dNil))) (dCons (dOp2 ixB (dVar 7) (dVar 3)) (dNil)))) (r6__law_is_charge_right)
abbrev r4__law_is_charge_right : DTS := dSeq (dUnp (gdTup 2 (gdCons (gdName 7) (gdCons (gdName 8) (gdNil)))) (dVar 2)) (r5__law_is_charge_right)
abbrev r3__law_is_charge_right : DTS := dSeq (dIf (dTest (dOp2 isB (dVar 2) (dC .none))) (dRet (dOp2 isB (dVar 6) (dC .none))) (dNext)) (r4__law_is_charge_right)
abbrev r2__law_is_charge_right : DTS := dSeq (dSet 6 (dCall [false, false, false, false] sp_least_charge (dCons (dVar 1) (dCons (dVar 3) (dCons (dVar 4) (dCons (dVar 5) (dNil))))))) (r3__law_is_charge_right)
abbrev r1__law_is_charge_right : DTS := dSeq (dSet 5 (dOpN intB (dCons (dCallIo 0 [false] sp__law_of (dCons (dVar 0) (dCons (dLst (dCons (dC (.int 0)) (dCons (dC (.int 1)) (dCons (dC (.int 250)) (dCons (dC (.int 999)) (dCons (dC (.int 1000)) (dCons (dOpN intB (dCons (dCallIo 0 [false] sp__law_take (dCons (dVar 0) (dCons (dC (.int 1001)) (dNil)))) (dNil))) (dNil)))))))) (dNil)))) (dNil)))) (r2__law_is_charge_right)
def t__law_is_charge_right : DTS := dSeq (dPar [3, 4] (dCons (dOpN intB (dCons (dCallIo 0 [false] sp__law_take (dCons (dVar 0) (dCons (dC (.int 8)) (dNil)))) (dNil))) (dCons (dOpN intB (dCons (dCallIo 0 [false] sp__law_take (dCons (dVar 0) (dCons (dC (.int 8)) (dNil)))) (dNil))) (dNil)))) (r1__law_is_charge_right)
abbrev b1__law_is_parted_right : DTS := dDrop (dApp 7 (dIfE (dTest (dOp2 neB (dOp2 ixB (dVar 8) (dC (.int 0))) (dC (.str "empty")))) (dOp2 addB (dSl slB (dVar 8) (dPartN) (dPart (dOp1 negB (dC (.int 1))))) (dTup (dCons (dOp2 mulB (dOp2 ixB (dVar 8) (dOp1 negB (dC (.int 1)))) (dVar 6)) (dNil)))) (dVar 8)))
abbrev e1__law_is_parted_right : DTE := dTup (dCons (dC (.str "charge")) (dCons (dVar 11) (dCons (dVar 12) (dNil))))
abbrev i1__law_is_parted_right : DTT := dTest (dOp2 gtB (dVar 12) (dC (.int 0)))
abbrev e2__law_is_parted_right : DTE := dAndV (dOp2 neB (dOp2 ixB (dVar 8) (dC (.int 0))) (dC (.str "empty"))) (dOp2 gtB (dOp2 ixB (dVar 8) (dOp1 negB (dC (.int 1)))) (dOp2 powB (dC (.int 10)) (dC (.int 6))))
abbrev e3__law_is_parted_right : DTE := dOp2 eqB (dOp2 mulB (dVar 12) (dOp2 ixB (dVar 2) (dC (.int 1)))) (dOp2 mulB (dOp2 mulB (dVar 13) (dOp2 ixB (dVar 10) (dC (.int 1)))) (dVar 6))
abbrev r10__law_is_parted_right : DTS := dSeq (dIf (dOr (dTest (dOp2 isB (dVar 2) (dC .none))) (dTest (dOp2 isB (dVar 10) (dC .none)))) (dRet (dAndV (dOp2 isB (dVar 2) (dC .none)) (dOp2 isB (dVar 10) (dC .none)))) (dNext)) (dRet (dOpN allB (dCons (dLc (dcZip2 (dCons (dOp2 ixB (dVar 10) (dC (.int 0))) (dCons (dOp2 ixB (dVar 2) (dC (.int 0))) (dNil)))) (gdTup 2 (gdCons (gdName 12) (gdCons (gdName 13) (gdNil)))) (dYes) (e3__law_is_parted_right) [12, 13]) (dNil))))
abbrev r9__law_is_parted_right : DTS := dSeq (dSet 10 (dCall [false] sp_held (dCons (dVar 9) (dNil)))) (r10__law_is_parted_right)
abbrev r8__law_is_parted_right : DTS := dSeq (dIf (dOr (dTest (dOp2 gtB (dOpN lenB (dCons (dVar 9) (dNil))) (dC (.int 30)))) (dTruth (dOpN anyB (dCons (dLc (dcSeq (dVar 9)) (gdName 8) (dYes) (e2__law_is_parted_right) [8]) (dNil))))) (dRet (dC (.bool true))) (dNext)) (r9__law_is_parted_right)
abbrev r7__law_is_parted_right : DTS := dSeq (dSet 9 (dOpN tupleB (dCons (dOp2 addB (dLc (dcEnum (dCons (dVar 5) (dNil))) (gdTup 2 (gdCons (gdName 11) (gdCons (gdName 12) (gdNil)))) (i1__law_is_parted_right) (e1__law_is_parted_right) [11, 12]) (dVar 7)) (dNil)))) (r8__law_is_parted_right)
abbrev r6__law_is_parted_right : DTS := dSeq (dFor (diSeq (dSl slB (dVar 1) (dPart (dVar 3)) (dPartN))) (gdName 8) (b1__law_is_parted_right)) (r7__law_is_parted_right)
abbrev r5__law_is_parted_right : DTS := dSeq (dSet 7 (dLst (dNil))) (r6__law_is_parted_right)
abbrev r4__law_is_parted_right : DTS := dSeq (dUnp (gdTup 2 (gdCons (gdName 5) (gdCons (gdName 6) (gdNil)))) (dVar 4)) (r5__law_is_parted_right)
abbrev r3__law_is_parted_right : DTS := dSeq (dIf (dTest (dOp2 isB (dVar 4) (dC .none))) (dRet (dOp2 isB (dVar 2) (dC .none))) (dNext)) (r4__law_is_parted_right)
abbrev r2__law_is_parted_right : DTS := dSeq (dIf (dTest (dOp2 neB (dOpN reprB (dCons (dCall [false] sp_held (dCons (dSl slB (dVar 1) (dPartN) (dPart (dVar 3))) (dNil))) (dNil))) (dOpN reprB (dCons (dVar 4) (dNil))))) (dRet (dC (.bool false))) (dNext)) (r3__law_is_parted_right)
abbrev r1__law_is_parted_right : DTS := dSeq (dSet 4 (dCall [false] sp__law_held (dCons (dSl slB (dVar 1) (dPartN) (dPart (dVar 3))) (dNil)))) (r2__law_is_parted_right)
def t__law_is_parted_right : DTS := dSeq (dSet 3 (dOpN intB (dCons (dCallIo 0 [false] sp__law_take (dCons (dVar 0) (dCons (dOp2 addB (dOpN lenB (dCons (dVar 1) (dNil))) (dC (.int 1))) (dNil)))) (dNil)))) (r1__law_is_parted_right)
abbrev b1__law_some : DTS := dDrop (dApp 4 (dPopAt 3 (dCallIo 0 [false] sp__law_take (dCons (dVar 0) (dCons (dOpN lenB (dCons (dVar 3) (dNil))) (dNil))))))
abbrev r1__law_some : DTS := dSeq (dFor (diRng1 (dCons (dVar 2) (dNil))) (gdName 5) (b1__law_some)) (dRet (dVar 4))
def t__law_some : DTS := dSeq (dPar [3, 4] (dCons (dOpN listB (dCons (dVar 1) (dNil))) (dCons (dLst (dNil)) (dNil)))) (r1__law_some)
abbrev e1__law_are_others_right : DTE := dOpN intB (dCons (dVar 7) (dNil))
abbrev e2__law_are_others_right : DTE := dIfE (dTest (dOp2 eqB (dOp2 ixB (dVar 8) (dC (.int 0))) (dC (.str "charge")))) (dTup (dCons (dC (.str "charge")) (dCons (dOp2 ixB (dVar 3) (dOp2 ixB (dVar 8) (dC (.int 1)))) (dCons (dOp2 ixB (dVar 8) (dC (.int 2))) (dNil))))) (dVar 8)
abbrev e3__law_are_others_right : DTE := dOp2 neB (dOp2 ixB (dOp2 ixB (dVar 5) (dC (.int 0))) (dOp2 ixB (dVar 3) (dVar 7))) (dVar 9)
abbrev r5__law_are_others_right : DTS := dSeq (dIf (dTest (dOp2 ltB (dOpN lenB (dCons (dVar 1) (dNil))) (dC (.int 29)))) (dSeq (dIf (dTest (dOp2 neB (dOpN reprB (dCons (dCall [false] sp_held (dCons (dOp2 addB (dVar 1) (dTup (dCons (dTup (dCons (dC (.str "empty")) (dNil))) (dCons (dTup (dCons (dC (.str "charge")) (dCons (dC (.int 3)) (dCons (dC (.int 7)) (dNil))))) (dNil))))) (dNil))) (dNil))) (dOpN reprB (dCons (dTup (dCons (dTup (dCons (dC (.int 0)) (dCons (dC (.int 0)) (dCons (dC (.int 0)) (dCons (dC (.int 7)) (dCons (dC (.int 0)) (dCons (dC (.int 0)) (dCons (dC (.int 0)) (dCons (dC (.int 0)) (dNil)))))))))) (dCons (dC (.int 1)) (dNil)))) (dNil))))) (dRet (dC (.bool false))) (dNext)) (dIf (dAnd (dTest (dOp2 eqB (dOp2 modB (dOpN sumB (dCons (dOp2 ixB (dVar 2) (dC (.int 0))) (dNil))) (dOp2 ixB (dVar 2) (dC (.int 1)))) (dC (.int 0)))) (dTest (dOp2 leB (dOp2 fdivB (dOpN sumB (dCons (dOp2 ixB (dVar 2) (dC (.int 0))) (dNil))) (dOp2 ixB (dVar 2) (dC (.int 1)))) (dOp2 subB (dOp2 powB (dC (.int 10)) (dC (.int 6))) (dC (.int 1)))))) (dSeq (dSet 6 (dOp2 fdivB (dOpN sumB (dCons (dOp2 ixB (dVar 2) (dC (.int 0))) (dNil))) (dOp2 ixB (dVar 2) (dC (.int 1))))) (dSeq (dIf (dTest (dOp2 neB (dOpN reprB (dCons (dCall [false] sp_held (dCons (dOp2 addB (dVar 1) (dTup (dCons (dTup (dCons (dC (.str "gather")) (dCons (dVar 6) (dNil)))) (dNil)))) (dNil))) (dNil))) (dOpN reprB (dCons (dTup (dCons (dOp2 mulB (dTup (dCons (dC (.int 0)) (dNil))) (dC (.int 8))) (dCons (dC (.int 1)) (dNil)))) (dNil))))) (dRet (dC (.bool false))) (dNext)) (dRet (dOp2 isB (dCall [false] sp_held (dCons (dOp2 addB (dVar 1) (dTup (dCons (dTup (dCons (dC (.str "gather")) (dCons (dOp2 addB (dVar 6) (dC (.int 1))) (dNil)))) (dNil)))) (dNil))) (dC .none))))) (dNext))) (dNext)) (dRet (dC (.bool true)))
abbrev r4__law_are_others_right : DTS := dSeq (dIf (dOr (dTest (dOp2 isB (dVar 5) (dC .none))) (dOr (dTest (dOp2 neB (dOp2 ixB (dVar 5) (dC (.int 1))) (dOp2 ixB (dVar 2) (dC (.int 1))))) (dTruth (dOpN anyB (dCons (dLc (dcEnum (dCons (dOp2 ixB (dVar 2) (dC (.int 0))) (dNil))) (gdTup 2 (gdCons (gdName 7) (gdCons (gdName 9) (gdNil)))) (dYes) (e3__law_are_others_right) [7, 9]) (dNil)))))) (dRet (dC (.bool false))) (dNext)) (r5__law_are_others_right)
abbrev r3__law_are_others_right : DTS := dSeq (dIf (dTest (dOp2 isB (dVar 2) (dC .none))) (dRet (dOp2 isB (dVar 5) (dC .none))) (dNext)) (r4__law_are_others_right)
abbrev r2__law_are_others_right : DTS := dSeq (dSet 5 (dCall [false] sp_held (dCons (dVar 4) (dNil)))) (r3__law_are_others_right)
abbrev r1__law_are_others_right : DTS := dSeq (dSet 4 (dOpN tupleB (dCons (dLc (dcSeq (dVar 1)) (gdName 8) (dYes) (e2__law_are_others_right) [8]) (dNil)))) (r2__law_are_others_right)
def t__law_are_others_right : DTS := dSeq (dSet 3 (dLc (dcSeq (dCallIo 0 [false, false] sp__law_some (dCons (dVar 0) (dCons (dLstRg (rg1 (dC (.int 8)))) (dCons (dC (.int 8)) (dNil)))))) (gdName 7) (dYes) (e1__law_are_others_right) [7])) (r1__law_are_others_right)
abbrev r4__law_right : DTS := dSeq (dSet 3 (dOp2 addB (dSl slB (dVar 1) (dPartN) (dPart (dC (.int 29)))) (dTup (dCons (dTup (dCons (dC (.str "gather")) (dCons (dOp2 powB (dC (.int 10)) (dC (.int 6))) (dNil)))) (dNil))))) (dRet (dOp2 eqB (dOpN reprB (dCons (dCall [false] sp_held (dCons (dVar 3) (dNil))) (dNil))) (dOpN reprB (dCons (dCall [false] sp__law_held (dCons (dVar 3) (dNil))) (dNil)))))
abbrev r3__law_right : DTS := dSeq (dIf (dOr (dNot (dTruth (dCallIo 0 [false, false] sp__law_is_parted_right (dCons (dVar 0) (dCons (dVar 1) (dCons (dVar 2) (dNil))))))) (dNot (dTruth (dCallIo 0 [false, false] sp__law_are_others_right (dCons (dVar 0) (dCons (dVar 1) (dCons (dVar 2) (dNil)))))))) (dRet (dC (.bool false))) (dNext)) (r4__law_right)
abbrev r2__law_right : DTS := dSeq (dIf (dOr (dTest (dOp2 neB (dOpN reprB (dCons (dCall [false] sp_held (dCons (dVar 1) (dNil))) (dNil))) (dOpN reprB (dCons (dVar 2) (dNil))))) (dNot (dTruth (dCallIo 0 [false, false] sp__law_is_charge_right (dCons (dVar 0) (dCons (dVar 1) (dCons (dVar 2) (dNil)))))))) (dRet (dC (.bool false))) (dNext)) (r3__law_right)
abbrev r1__law_right : DTS := dSeq (dSet 2 (dCall [false] sp__law_held (dCons (dVar 1) (dNil)))) (r2__law_right)
def t__law_right : DTS := dSeq (dSet 1 (dCallIo 0 [false] sp__law_deeds_drawn (dCons (dVar 0) (dCons (dOpN intB (dCons (dCallIo 0 [false] sp__law_of (dCons (dVar 0) (dCons (dLst (dCons (dC (.int 8)) (dCons (dC (.int 30)) (dNil)))) (dNil)))) (dNil))) (dNil))))) (r1__law_right)
abbrev e1_law : DTE := dCallIo 2 [] sp__law_right (dCons (dVar 2) (dNil))
abbrev b1_law : DTS := dSeq (dSet 2 (dCall [false, false] sp__law_pot (dCons (dVar 0) (dCons (dVar 1) (dNil))))) (dIf (dNot (dTruth (dOpN allB (dCons (dLc (dcOf (diRng1 (dCons (dC (.int 3)) (dNil)))) (gdName 3) (dYes) (e1_law) [3]) (dNil))))) (dRet (dC (.bool false))) (dNext))
def t_law : DTS := dSeq (dFor (diSeq (dCall [false, false] sp__law_places (dCons (dVar 0) (dCons (dC (.int 3)) (dNil))))) (gdName 1) (b1_law)) (dRet (dC (.bool true)))
end K24
set_option Elab.async false
set_option linter.all false
set_option maxRecDepth 100000
set_option maxHeartbeats 400000
namespace K24
open PySem L2 DL
open PyProof.Rows (boot_repr boot_sum boot_all boot_any boot_max boot_min boot_abs boot_int boot_list boot_tuple)
theorem len_is_tuple : ∀ as q, sp_is_tuple as q → as.length = 3 := fun _ _ ⟨_, _, _, h, _⟩ => by rw [h]; rfl
theorem ok_is_tuple : ∀ as q, sp_is_tuple as q → t_is_tuple (endsD as q) (startD N_is_tuple.length as) := by
  rintro _ q ⟨xs, lo, hi, rfl, ⟨h1, h2⟩, hq⟩
  conv => whnf
  refine br_dt h1 ?_
  conv => whnf
  rw [decide_eq_true h2]
  exact hq
theorem len_is_whole : ∀ as q, sp_is_whole as q → as.length = 1 := fun _ _ ⟨_, h, _⟩ => by rw [h]; rfl
theorem ok_is_whole : ∀ as q, sp_is_whole as q → t_is_whole (endsD as q) (startD N_is_whole.length as) := by
  rintro _ q ⟨i, rfl, hq⟩
  exact hq
theorem len_is_integer : ∀ as q, sp_is_integer as q → as.length = 3 := fun _ _ ⟨_, _, _, h, _⟩ => by rw [h]; rfl
theorem ok_is_integer : ∀ as q, sp_is_integer as q → t_is_integer (endsD as q) (startD N_is_integer.length as) := by
  rintro _ q ⟨i, lo, hi, rfl, ⟨h1, h2⟩, hq⟩
  conv => whnf
  refine ⟨i, rfl, ?_⟩
  conv => whnf
  refine br_dt h1 ?_
  conv => whnf
  rw [decide_eq_true h2]
  exact hq
theorem len_divisor : ∀ as q, sp_divisor as q → as.length = 2 := fun _ _ ⟨_, _, h, _⟩ => by rw [h]; rfl
theorem while_divisor (E : DEnds) : ∀ b a : Nat, E.nx [.dat (nI (Nat.gcd a b)), .dat (nI 0)] → ∃ n, whileN (dTest (dOp2 neB (dVar 1) (dC (.int 0)))) (dPar [0, 1] (dCons (dVar 1) (dCons (dOp2 modB (dVar 0) (dVar 1)) (dNil)))) E n [.dat (nI a), .dat (nI b)] := by
  intro b
  induction b using Nat.strongRecOn with
  | _ b ih =>
    intro a h
    by_cases hb : b = 0
    · subst hb
      refine ⟨1, ?_⟩
      conv => whnf
      rw [Nat.gcd_zero_right] at h
      exact h
    · have hb0 : 0 < b := Nat.pos_of_ne_zero hb
      obtain ⟨n, hn⟩ := ih (a % b) (Nat.mod_lt a hb0) b (by rw [Nat.gcd_comm b, ← Nat.gcd_rec, Nat.gcd_comm]; exact h)
      refine ⟨n + 1, ?_⟩
      conv => whnf
      refine br_nt (by omega) ?_
      conv => whnf
      refine ⟨by omega, ?_⟩
      conv => whnf
      refine ⟨rfl, ?_⟩
      conv => whnf
      refine ⟨show 2 ≤ sizeLine by decide, ?_⟩
      exact hn
theorem ok_divisor : ∀ as q, sp_divisor as q → t_divisor (endsD as q) (startD N_divisor.length as) := by
  rintro _ q ⟨a, b, rfl, hq⟩
  refine while_divisor _ b a ?_
  exact hq
end K24
set_option Elab.async false
set_option linter.all false
set_option maxRecDepth 100000
set_option maxHeartbeats 400000
namespace K24
open PySem L2 DL
open PyProof.Rows (boot_repr boot_sum boot_all boot_any boot_max boot_min boot_abs boot_int boot_list boot_tuple)
theorem len__law_gcd : ∀ as q, sp__law_gcd as q → as.length = 2 := fun _ _ ⟨_, _, h, _⟩ => by rw [h]; rfl
abbrev gcdBody : DTS := (dSeq (dIf (dTest (dOp2 eqB (dVar 1) (dC (.int 0)))) (dRet (dVar 0)) (dNext)) (dPar [0, 1] (dCons (dVar 1) (dCons (dOp2 modB (dOpN intB (dCons (dVar 0) (dNil))) (dVar 1)) (dNil)))))
/-- one lap -/
theorem gcd_lap (E : DEnds) (xs : List D) (x : Int) (a b : Nat) (w : DV) (h0 : b = 0 → E.rt (.dat (nI a)) [.dat (nI a), .dat (nI b), .dat (.int x)])
    (h1 : 0 < b → forW (gdName 2) gcdBody E xs [.dat (nI b), .dat (nI (a % b)), .dat (.int x)]) : forW (gdName 2) gcdBody E (.int x :: xs) [.dat (nI a), .dat (nI b), w] := by
  conv => whnf
  refine br_d (fun h => ?_) (fun h => ?_)
  · exact h0 (by omega)
  · conv => whnf
    refine ⟨by omega, ?_⟩
    conv => whnf
    refine ⟨rfl, ?_⟩
    conv => whnf
    refine ⟨sz2, ?_⟩
    exact h1 (by omega)
theorem gcd_laps (E : DEnds) : ∀ (k a b n : Nat) (x : Int) (w : DV), b ≤ a → a * b < 2 ^ k → k < n → (∀ τ, E.rt (.dat (nI (Nat.gcd a b))) τ) → forW (gdName 2) gcdBody E (rangeD x n) [.dat (nI a), .dat (nI b), w]
  | 0, a, b, n + 1, x, w, hab, hk, hn, hq => by
    rw [rangeD_succ]
    have hb : b = 0 := by
      rcases Nat.mul_eq_zero.mp (Nat.lt_one_iff.mp hk) with h | h
      · omega
      · exact h
    subst hb
    refine gcd_lap _ _ _ _ _ _ (fun _ => ?_) (fun h => absurd h (by omega))
    rw [Nat.gcd_zero_right] at hq
    exact hq _
  | k + 1, a, b, n + 1, x, w, hab, hk, hn, hq => by
    rw [rangeD_succ]
    refine gcd_lap _ _ _ _ _ _ (fun h => ?_) (fun h => ?_)
    · subst h
      rw [Nat.gcd_zero_right] at hq
      exact hq _
    · have hm : a % b < b := Nat.mod_lt a h
      refine gcd_laps E k b (a % b) n (x + 1) _ (Nat.le_of_lt hm) ?_ (by omega) ?_
      · have e : a = b * (a / b) + a % b := (Nat.div_add_mod a b).symm
        have hd : 1 ≤ a / b := (Nat.one_le_div_iff h).mpr hab
        have h2 : b + a % b ≤ a := by
          have := Nat.mul_le_mul_left b hd
          omega
        have h3 : b * (a % b) * 2 ≤ a * b := by
          calc b * (a % b) * 2 = (a % b + a % b) * b := by rw [Nat.mul_comm b, Nat.mul_right_comm, ← Nat.mul_two]
            _ ≤ a * b := Nat.mul_le_mul_right b (by omega)
        rw [Nat.pow_succ] at hk
        omega
      · rw [Nat.gcd_comm b, ← Nat.gcd_rec, Nat.gcd_comm]
        exact hq
theorem ok__law_gcd : ∀ as q, sp__law_gcd as q → t__law_gcd (endsD as q) (startD N__law_gcd.length as) := by
  rintro _ q ⟨a, b, rfl, hb, hq⟩
  conv => whnf
  refine ⟨by decide, ?_⟩
  conv => whnf
  refine ⟨by decide, ?_⟩
  have e : (5000 : Int).toNat = 4999 + 1 := by decide
  rw [e]
  show forW (gdName 2) gcdBody _ (rangeD 0 (4999 + 1)) _
  rw [rangeD_succ]
  refine gcd_lap _ _ _ _ _ _ (fun h => ?_) (fun h => ?_)
  · subst h
    rw [Nat.gcd_zero_right] at hq
    exact hq
  · have hm : a % b < b := Nat.mod_lt a h
    refine gcd_laps _ 4000 b (a % b) 4999 _ _ (Nat.le_of_lt hm) ?_ (by decide) (fun τ => ?_)
    · calc b * (a % b) < 2 ^ 2000 * 2 ^ 2000 := Nat.mul_lt_mul'' hb (Nat.lt_trans hm hb)
        _ = 2 ^ 4000 := by rw [← Nat.pow_add]
    · rw [Nat.gcd_comm b, ← Nat.gcd_rec, Nat.gcd_comm]
      exact hq
theorem len__law_places : ∀ as q, sp__law_places as q → as.length = 2 := fun _ _ ⟨_, h, _⟩ => by rw [h]; rfl
theorem ok__law_places : ∀ as q, sp__law_places as q → t__law_places (endsD as q) (startD N__law_places.length as) := by
  rintro _ q ⟨ns, rfl, hl, hq⟩
  conv => whnf
  refine ⟨?_, ?_⟩
  · unfold rgOk
    have h1 : (0 : Int) ≤ max 1 (min 3 (((ns.map PyData.int).length : Nat) : Int)) := by omega
    have h2 : max 1 (min 3 (((ns.map PyData.int).length : Nat) : Int)) ≤ 3 := by omega
    refine ⟨by omega, by omega, by omega, by omega, by omega⟩
  · exact hq _ (by omega)
end K24
set_option Elab.async false
set_option linter.all false
set_option maxRecDepth 100000
set_option maxHeartbeats 400000
namespace K24
open PySem L2 DL
open PyProof.Rows (boot_repr boot_sum boot_all boot_any boot_max boot_min boot_abs boot_int boot_list boot_tuple)
theorem len__law_pot : ∀ as q, sp__law_pot as q → as.length = 2 := fun _ _ ⟨_, _, h, _⟩ => by rw [h]; rfl
theorem mulOkL {i j : Int} (h : -(2 ^ 64) < i) (h2 : i < 2 ^ 64) : mulOk i j := .inl (.inl ⟨h, h2⟩)
theorem mulOkR {i j : Int} (h : -(2 ^ 64) < j) (h2 : j < 2 ^ 64) : mulOk i j := .inl (.inr ⟨h, h2⟩)
theorem atI_ints {ns : List Int} {i : Nat} (h : i < ns.length) : atI (ns.map PyData.int) ((i : Nat) : Int) = some (.int ns[i]) := by
  exact atI_nat (by simp [h])
theorem cut_ints {ns : List Int} {l u : Option Int} : ∃ ms : List Int, cutD (ns.map PyData.int) l u = ms.map PyData.int := by
  unfold cutD
  rw [← List.map_drop, ← List.map_take]
  exact ⟨_, rfl⟩
abbrev potRest : DTS := (dSeq (dSet 3 (dOp2 mulB (dOp2 modB (dOpN intB (dCons (dOpN absB (dCons (dVar 2) (dNil))) (dNil))) (dOp2 powB (dOp2 powB (dC (.int 10)) (dC (.int 60))) (dC (.int 5)))) (dOpN intB (dCons (dOp2 geB (dOpN absB (dCons (dVar 2) (dNil))) (dOp2 powB (dC (.int 10)) (dC (.int 18)))) (dNil))))) (dSeq (dSet 4 (dOp2 modB (dOpN intB (dCons (dVar 2) (dNil))) (dC (.int 2305843009213693951)))) (dRet (dLst (dCons (dVar 3) (dCons (dOp2 modB (dOpN intB (dCons (dOp2 addB (dOp2 addB (dOp2 mulB (dVar 4) (dC (.int 140753))) (dOp2 mulB (dOp2 mulB (dC (.int 34039)) (dVar 1)) (dVar 1))) (dC (.int 937))) (dNil))) (dC (.int 2305843009213693921))) (dCons (dC (.int 0)) (dNil))))))))
theorem pot_rest (q : EV → List D → Prop) (as : List DL.Arg) (ns : D) (i : Nat) (c : Int) (x y : DV) (hi : i < 3) (ha : as = [.dat ns, .dat (nI i)]) (hq : ∀ ys, Pot 0 ys → q (.tmp ys) []) : potRest (endsD as q) [.dat ns, .dat (nI i), .dat (.int c), x, y] := by
  subst ha
  conv => whnf
  refine ⟨by unfold powOk; decide +kernel, ?_⟩
  conv => whnf
  refine ⟨by unfold powOk; decide +kernel, ?_⟩
  conv => whnf
  refine ⟨by decide +kernel, ?_⟩
  conv => whnf
  refine ⟨by unfold powOk; decide +kernel, ?_⟩
  conv => whnf
  refine ⟨mulOkR (by split <;> decide) (by split <;> decide), ?_⟩
  conv => whnf
  refine ⟨by decide, ?_⟩
  conv => whnf
  refine ⟨mulOkR (by decide) (by decide), ?_⟩
  conv => whnf
  refine ⟨mulOkL (by decide) (by decide), ?_⟩
  conv => whnf
  refine ⟨mulOkR (by omega) (by omega), ?_⟩
  conv => whnf
  refine ⟨by decide, ?_⟩
  conv => whnf
  refine ⟨sz3, ?_⟩
  refine hq _ ⟨_, _, _, rfl, ?_, ⟨?_, ?_⟩, Int.le_refl 0, Int.le_refl 0⟩
  · refine Int.mul_nonneg (Int.emod_nonneg _ (by decide +kernel)) (by split <;> decide)
  · exact Int.emod_nonneg _ (by decide)
  · exact Int.lt_trans (Int.emod_lt_of_pos _ (by decide)) (by decide)
theorem ok__law_pot : ∀ as q, sp__law_pot as q → t__law_pot (endsD as q) (startD N__law_pot.length as) := by
  rintro _ q ⟨ns, i, rfl, hl, hi, hq⟩
  conv => whnf
  refine br_d (fun h => ?_) (fun h => ?_)
  · conv => whnf
    have hlt : i < ns.length := by
      rw [List.length_map] at h
      omega
    refine optW_mk (atI_ints hlt) ?_
    exact pot_rest q _ (.list (ns.map PyData.int)) i ns[i] .emp .emp hi rfl hq
  · conv => whnf
    obtain ⟨ms, e⟩ := cut_ints (ns := ns) (l := none) (u := some 1)
    refine optW_mk (by rw [e]; exact intsOf_map ms) ?_
    conv => whnf
    refine ⟨by decide, ?_⟩
    conv => whnf
    refine ⟨mulOkL (by decide) (by decide), ?_⟩
    exact pot_rest q _ (.list (ns.map PyData.int)) i _ .emp .emp hi rfl hq
end K24
set_option Elab.async false
set_option linter.all false
set_option maxRecDepth 100000
set_option maxHeartbeats 400000
namespace K24
open PySem L2 DL
open PyProof.Rows (boot_repr boot_sum boot_all boot_any boot_max boot_min boot_abs boot_int boot_list boot_tuple)
theorem len__law_take : ∀ as q, sp__law_take as q → as.length = 2 := fun _ _ ⟨_, _, _, h, _⟩ => by rw [h]; rfl
theorem toN {i : Int} (h : 0 ≤ i) : i = ((i.toNat : Nat) : Int) := (Int.toNat_of_nonneg h).symm
theorem Bd.int {n : Nat} {x : Int} (h0 : 0 ≤ x) (h : x < 2 ^ n) : Bd n x := by
  obtain ⟨m, rfl⟩ := Int.eq_ofNat_of_zero_le h0
  exact Bd.nat (by exact_mod_cast h)
theorem primes (k : Int) (h0 : 0 ≤ k) (h : k < 5) : ∃ p : Int, atI [PyData.int 2147483647, .int 2147483629, .int 2147483587, .int 2147483579, .int 2147483563] k = some (.int p) ∧ 0 < p ∧ p < 2 ^ 31 := by
  have : k = 0 ∨ k = 1 ∨ k = 2 ∨ k = 3 ∨ k = 4 := by omega
  rcases this with rfl | rfl | rfl | rfl | rfl
  · exact ⟨_, rfl, by decide, by decide⟩
  · exact ⟨_, rfl, by decide, by decide⟩
  · exact ⟨_, rfl, by decide, by decide⟩
  · exact ⟨_, rfl, by decide, by decide⟩
  · exact ⟨_, rfl, by decide, by decide⟩
theorem ok__law_take : ∀ as q, sp__law_take as q → t__law_take (endsD as q) (startD N__law_take.length as) := by
  rintro _ q ⟨n, _, m, rfl, ⟨o, s, c, rfl, ho, ⟨hs0, hs1⟩, hc0, hc1⟩, hn, ⟨hm0, hm1⟩, hq⟩
  conv => whnf
  refine br_d (fun h => ?_) (fun h => ?_)
  · conv => whnf
    refine ⟨by omega, ?_⟩
    conv => whnf
    refine ⟨divOk_of (n := 40) (by omega) (Bd.nat hm1), ?_⟩
    show q (.dat (.int (o % (m : Int)))) [.int (o / (m : Int)), .int s, .int c]
    have h1 := Int.emod_nonneg o (b := (m : Int)) (by omega)
    have h2 := Int.emod_lt_of_pos o (b := (m : Int)) (by omega)
    rw [toN h1]
    exact hq _ _ (by omega) ⟨_, _, _, rfl, Int.ediv_nonneg ho (by omega), ⟨hs0, hs1⟩, hc0, by omega⟩
  · conv => whnf
    refine ⟨by decide, ?_⟩
    conv => whnf
    refine ⟨by decide, ?_⟩
    conv => whnf
    have k0 := Int.emod_nonneg (c + 1) (b := 5) (by decide)
    have k1 := Int.emod_lt_of_pos (c + 1) (b := 5) (by decide)
    obtain ⟨p, hp, p0, p1⟩ := primes _ k0 k1
    refine optW_mk hp ?_
    conv => whnf
    refine ⟨mulOkL (by decide) (by decide), ?_⟩
    conv => whnf
    have e1 : 112169 * (c + 1) ≤ 112169 * 200000 := by omega
    have e2 : 0 ≤ 112169 * (c + 1) := by omega
    refine ⟨mulOkL (by omega) (by omega), ?_⟩
    conv => whnf
    have e3 : 112169 * (c + 1) * (c + 1) ≤ 112169 * 200000 * 200000 := Int.mul_le_mul e1 (by omega) (by omega) (by decide)
    have e4 : 0 ≤ 112169 * (c + 1) * (c + 1) := Int.mul_nonneg e2 (by omega)
    have hB : Bd 62 (s + 112169 * (c + 1) * (c + 1) + 785) := Bd.int (by omega) (by omega)
    refine ⟨⟨by decide, ?_⟩, ?_⟩
    · have := hB.log (by decide)
      omega
    conv => whnf
    refine ⟨p0, ?_⟩
    conv => whnf
    refine ⟨by decide, ?_⟩
    conv => whnf
    refine ⟨mulOkL (by decide) (by decide), ?_⟩
    conv => whnf
    have b0 := Int.emod_nonneg ((s + 112169 * (c + 1) * (c + 1) + 785) ^ Int.toNat 3) (b := p) (by omega)
    have b1 := Int.emod_lt_of_pos ((s + 112169 * (c + 1) * (c + 1) + 785) ^ Int.toNat 3) (b := p) p0
    refine ⟨mulOkL (by omega) (by omega), ?_⟩
    conv => whnf
    refine ⟨by decide, ?_⟩
    conv => whnf
    refine ⟨.inl ⟨by decide, by decide⟩, ?_⟩
    conv => whnf
    refine ⟨by omega, ?_⟩
    generalize (((s + 112169 * (c + 1) * (c + 1) + 785) ^ Int.toNat 3 % p * ((s + 112169 * (c + 1) * (c + 1) + 785) ^ Int.toNat 3 % p % 10459 + 122 * (c + 1))) % 2305843009213693907 / 152) = v
    show q (.dat (.int (v % (m : Int)))) [.int o, .int s, .int (c + 1)]
    have h1 := Int.emod_nonneg v (b := (m : Int)) (by omega)
    have h2 := Int.emod_lt_of_pos v (b := (m : Int)) (by omega)
    rw [toN h1]
    exact hq _ _ (by omega) ⟨_, _, _, rfl, ho, ⟨hs0, hs1⟩, by omega, by omega⟩
theorem len__law_of : ∀ as q, sp__law_of as q → as.length = 2 := fun _ _ ⟨_, _, _, h, _⟩ => by rw [h]; rfl
theorem ok__law_of : ∀ as q, sp__law_of as q → t__law_of (endsD as q) (startD N__law_of.length as) := by
  rintro _ q ⟨n, xs, ds, rfl, hP, hn, ⟨h0, h1⟩, hq⟩
  conv => whnf
  refine ⟨rfl, rfl, ?_⟩
  conv => whnf
  refine ⟨n, xs, ds.length, rfl, hP, hn, ⟨h0, by omega⟩, fun r ys hr hP' => ?_⟩
  conv => whnf
  refine optW_mk (atI_nat (List.getElem?_eq_getElem hr)) ?_
  exact hq _ _ (List.getElem_mem hr) hP'
theorem erase_perm {α : Type} : ∀ (xs : List α) (r : Nat) (h : r < xs.length), ([xs[r]] ++ xs.eraseIdx r).Perm xs
  | x :: xs, 0, h => List.Perm.refl _
  | x :: xs, r + 1, h => by
    have hr : r < xs.length := by simpa using h
    have ih := erase_perm xs r hr
    show (xs[r] :: x :: xs.eraseIdx r).Perm (x :: xs)
    exact (List.Perm.swap _ _ _).trans (ih.cons x)
theorem len__law_some : ∀ as q, sp__law_some as q → as.length = 3 := fun _ _ ⟨_, _, _, _, h, _⟩ => by rw [h]; rfl
abbrev someBody : DTS := (dDrop (dApp 4 (dPopAt 3 (dCallIo 0 [false] sp__law_take (dCons (dVar 0) (dCons (dOpN lenB (dCons (dVar 3) (dNil))) (dNil)))))))
theorem some_laps (q : EV → List D → Prop) (E : DEnds) (a b : DV) : ∀ (rests found xs : List D) (n : Nat) (i : Int) (w : DV), Pot n xs → n + rests.length < 100000 → found.length + rests.length < 1000 →
    (∀ es ys w, es.Perm (found ++ rests) → Pot (n + rests.length) ys → E.nx [.io ys, a, b, .own [], .own es, w]) → forW (gdName 5) someBody E (rangeD i rests.length) [.io xs, a, b, .own rests, .own found, w] := by
  intro rests
  induction h : rests.length generalizing rests with
  | zero =>
    intro found xs n i w hP _ _ hq
    have e : rests = [] := List.length_eq_zero_iff.mp h
    subst e
    rw [rangeD_zero]
    exact hq found xs w (by simp) hP
  | succ k ih =>
    intro found xs n i w hP hn hl hq
    rw [rangeD_succ]
    conv => whnf
    refine ⟨rfl, rfl, ?_⟩
    conv => whnf
    refine ⟨n, xs, rests.length, rfl, hP, by omega, ⟨by omega, by omega⟩, fun r ys hr hP' => ?_⟩
    conv => whnf
    refine ⟨by omega, ?_⟩
    conv => whnf
    refine ⟨by omega, ?_⟩
    have hix : seqIndex? ((r : Nat) : Int) rests.length = some r := by
      rw [seqIndex_of (by omega) (by omega)]
      simp
    refine optW_mk hix ?_
    refine optW_mk (List.getElem?_eq_getElem hr) ?_
    conv => whnf
    refine ⟨by show found.length < sizeLine; rw [sizeLine_eq]; omega, ?_⟩
    have hl2 : (rests.eraseIdx r).length = k := by rw [List.length_eraseIdx, if_pos hr]; omega
    refine ih (rests.eraseIdx r) hl2 (found ++ [rests[r]]) ys (n + 1) (i + 1) _ hP' (by omega) (by simp; omega) (fun es zs w' hp hz => ?_)
    refine hq es zs w' (hp.trans ?_) (by have e : n + (k + 1) = n + 1 + k := by omega
                                         rw [e]; exact hz)
    rw [List.append_assoc]
    exact List.Perm.append_left _ (erase_perm _ _ hr)
theorem ok__law_some : ∀ as q, sp__law_some as q → t__law_some (endsD as q) (startD N__law_some.length as) := by
  rintro _ q ⟨n, xs, ds, m, rfl, hP, hn, ⟨hm, hl⟩, hq⟩
  subst hm
  conv => whnf
  refine ⟨Nat.zero_le _, ?_⟩
  conv => whnf
  refine ⟨rfl, ?_⟩
  conv => whnf
  refine ⟨sz2, ?_⟩
  conv => whnf
  refine ⟨by omega, ?_⟩
  conv => whnf
  refine ⟨by omega, ?_⟩
  refine some_laps q _ _ _ ds [] xs n 0 _ hP (by omega) (by simpa using hl) fun es ys w hp hz => ?_
  exact hq es ys (by simpa using hp) hz
end K24
set_option Elab.async false
set_option linter.all false
set_option maxRecDepth 100000
set_option maxHeartbeats 400000
namespace K24
open PySem L2 DL
open PyProof.Rows (boot_repr boot_sum boot_all boot_any boot_max boot_min boot_abs boot_int boot_list boot_tuple)
theorem len_is_deeds : ∀ as q, sp_is_deeds as q → as.length = 1 := fun _ _ ⟨_, h, _⟩ => by rw [h]; rfl
theorem all_tuples (stay : DSt → Prop) (q : List D → DSt → Prop) (v : DV) (hs : ∀ τ, stay τ) : ∀ (ds : List Deed) (acc : List D), q (acc ++ ds.map fun _ => .bool true) [v, .emp] →
    compW (gdName 1) dYes (dCall [false, false, false] sp_is_tuple (dCons (dVar 1) (dCons (dC (.int 1)) (dCons (dC (.int 3)) (dNil))))) [1] stay q (ds.map Deed.d) acc [v, .emp]
  | [], acc, h => ⟨hs _, by simpa using h⟩
  | d :: ds, acc, h => by
    rw [List.map_cons]
    have ih := all_tuples stay q v hs ds (acc ++ [.bool true]) (by simpa using h)
    cases d with
    | charge k a =>
      conv => whnf
      refine ⟨hs _, ?_⟩
      conv => whnf
      exact ⟨_, _, _, rfl, ⟨show (1 : Int) ≤ 3 by decide, show (3 : Int) ≤ 3 by decide⟩, ih⟩
    | gather a =>
      conv => whnf
      refine ⟨hs _, ?_⟩
      conv => whnf
      exact ⟨_, _, _, rfl, ⟨show (1 : Int) ≤ 2 by decide, show (2 : Int) ≤ 3 by decide⟩, ih⟩
    | empty =>
      conv => whnf
      refine ⟨hs _, ?_⟩
      conv => whnf
      exact ⟨_, _, _, rfl, ⟨show (1 : Int) ≤ 1 by decide, show (1 : Int) ≤ 3 by decide⟩, ih⟩
abbrev deedsBody : DTS := (dSeq (dIf (dNot (dTruth (dIsi .str (dOp2 ixB (dVar 1) (dC (.int 0)))))) (dRet (dC (.bool false))) (dNext)) (dIf (dTest (dOp2 eqB (dOp2 ixB (dVar 1) (dC (.int 0))) (dC (.str "charge")))) (dSeq (dIf (dOr (dTest (dOp2 neB (dOpN lenB (dCons (dVar 1) (dNil))) (dC (.int 3)))) (dNot (dTruth (dCall [false, false, false] sp_is_integer (dCons (dOp2 ixB (dVar 1) (dC (.int 1))) (dCons (dC (.int 0)) (dCons (dOp2 subB (dC (.int 8)) (dC (.int 1))) (dNil)))))))) (dRet (dC (.bool false))) (dNext)) (dIf (dNot (dTruth (dCall [false, false, false] sp_is_integer (dCons (dOp2 ixB (dVar 1) (dC (.int 2))) (dCons (dC (.int 0)) (dCons (dC (.int 1000000)) (dNil))))))) (dRet (dC (.bool false))) (dNext))) (dIf (dTest (dOp2 eqB (dOp2 ixB (dVar 1) (dC (.int 0))) (dC (.str "gather")))) (dIf (dOr (dTest (dOp2 neB (dOpN lenB (dCons (dVar 1) (dNil))) (dC (.int 2)))) (dNot (dTruth (dCall [false, false, false] sp_is_integer (dCons (dOp2 ixB (dVar 1) (dC (.int 1))) (dCons (dC (.int 0)) (dCons (dC (.int 1000000)) (dNil)))))))) (dRet (dC (.bool false))) (dNext)) (dIf (dTest (dOp2 neB (dVar 1) (dTup (dCons (dC (.str "empty")) (dNil))))) (dRet (dC (.bool false))) (dNext)))))
theorem deeds_for (E : DEnds) (v : DV) : ∀ (ds : List Deed) (w : DV), (∀ d ∈ ds, d.ok) → (∀ w, E.nx [v, w]) → forW (gdName 1) deedsBody E (ds.map Deed.d) [v, w]
  | [], w, _, h => h w
  | d :: ds, w, hd, h => by
    rw [List.map_cons]
    have ih := fun w => deeds_for E v ds w (fun x hx => hd x (List.mem_cons_of_mem _ hx)) h
    have hd0 := hd d List.mem_cons_self
    cases d with
    | charge k a =>
      obtain ⟨hk, ha⟩ := hd0
      conv => whnf
      refine br_t (strEq_self _) ?_
      conv => whnf
      refine ⟨_, _, _, rfl, ⟨by omega, by omega⟩, ?_⟩
      conv => whnf
      refine ⟨_, _, _, rfl, ⟨by omega, by omega⟩, ?_⟩
      exact ih _
    | gather a =>
      have ha : a ≤ 1000000 := hd0
      conv => whnf
      refine br_f (strEq_ne (by decide)) ?_
      conv => whnf
      refine br_t (strEq_self _) ?_
      conv => whnf
      refine ⟨_, _, _, rfl, ⟨by omega, by omega⟩, ?_⟩
      exact ih _
    | empty =>
      conv => whnf
      refine br_f (strEq_ne (by decide)) ?_
      conv => whnf
      refine br_f (strEq_ne (by decide)) ?_
      conv => whnf
      refine ⟨show 1 ≤ sizeLine by decide, ?_⟩
      conv => whnf
      refine ⟨show SeqAt.shaped (.tuple [.str "empty"]) = true by decide +kernel, show SeqAt.shaped (.tuple [.str "empty"]) = true by decide +kernel, ?_⟩
      exact ih _
theorem ok_is_deeds : ∀ as q, sp_is_deeds as q → t_is_deeds (endsD as q) (startD N_is_deeds.length as) := by
  rintro _ q ⟨ds, rfl, ⟨hl, hd⟩, hq⟩
  conv => whnf
  refine ⟨_, _, _, rfl, ⟨by omega, by rw [List.length_map]; omega⟩, ?_⟩
  conv => whnf
  refine ⟨by rw [List.length_map, sizeLine_eq]; omega, ?_⟩
  refine all_tuples _ _ _ (fun _ => trivial) ds [] ?_
  conv => whnf
  have e : boolsOf ([] ++ ds.map fun _ => (.bool true : D)) = some (ds.map fun _ => true) := by
    have := boolsOf_map (ds.map fun _ => true)
    rw [List.map_map] at this
    exact this
  refine optW_mk e ?_
  conv => whnf
  have e2 : (ds.map fun _ => true).all id = true := by simp
  refine br_f (by rw [e2]; rfl) ?_
  conv => whnf
  refine deeds_for _ _ ds _ hd fun w => ?_
  exact hq
end K24
set_option Elab.async false
set_option linter.all false
set_option maxRecDepth 100000
set_option maxHeartbeats 400000
namespace K24
open PySem L2 DL
open PyProof.Rows (boot_repr boot_sum boot_all boot_any boot_max boot_min boot_abs boot_int boot_list boot_tuple)
theorem big {n : Nat} {s : S8} (h : Ok n s) (hn : n ≤ 30) : s.2 < 2 ^ 750 ∧ s.1.sum < 2 ^ 775 := by
  have h1 : s.2 < 2 ^ 750 := Nat.lt_of_le_of_lt (Nat.le_trans h.le (Nat.pow_le_pow_right (by decide) hn)) (by decide +kernel)
  refine ⟨h1, ?_⟩
  obtain ⟨T, hT, e⟩ := h.sum
  rw [e]
  have h2 : T < 2 ^ 25 := Nat.lt_of_le_of_lt (Nat.le_trans hT (Nat.mul_le_mul_right _ hn)) (by decide)
  have h3 := Nat.mul_lt_mul'' h2 h1
  rw [← Nat.pow_add] at h3
  exact h3
theorem big_pre {n : Nat} {s t : S8} {d : Deed} (h : Ok n s) (hn : n ≤ 30) (hd : d.ok) (e : pre s d = some t) : t.1.length = 8 ∧ 0 < t.2 ∧ t.2 < 2 ^ 1600 ∧ ∀ x ∈ t.1, x < 2 ^ 1600 := by
  obtain ⟨b1, b2⟩ := big h hn
  have p1 : (2 : Nat) ^ 750 ≤ 2 ^ 1600 := Nat.pow_le_pow_right (by decide) (by decide)
  have p2 : (2 : Nat) ^ 775 ≤ 2 ^ 1599 := Nat.pow_le_pow_right (by decide) (by decide)
  have p3 : (2 : Nat) ^ 1600 = 2 ^ 1599 + 2 ^ 1599 := by rw [← Nat.mul_two, ← Nat.pow_succ]
  cases d with
  | charge k a =>
    cases e
    refine ⟨by simp [h.len], h.pos, Nat.lt_of_lt_of_le b1 p1, fun x hx => ?_⟩
    obtain ⟨hk, ha⟩ := hd
    have l1 : x ≤ s.1.sum + a * s.2 := by
      rw [← sum_set s.1 k (a * s.2) (by rw [h.len]; exact hk)]
      exact le_sum _ _ hx
    have l2 : a * s.2 < 2 ^ 20 * 2 ^ 750 := Nat.mul_lt_mul'' (by omega) b1
    have l3 : (2 : Nat) ^ 20 * 2 ^ 750 ≤ 2 ^ 1599 := by rw [← Nat.pow_add]; exact Nat.pow_le_pow_right (by decide) (by decide)
    omega
  | empty =>
    cases e
    refine ⟨rfl, Nat.one_pos, Nat.one_lt_two_pow (by decide), fun x hx => ?_⟩
    have : x = 0 := List.eq_of_mem_replicate hx
    rw [this]
    exact Nat.two_pow_pos _
  | gather m =>
    unfold pre at e
    simp only at e
    split at e
    · cases e
    · split at e
      · cases e
        exact ⟨h.len, h.pos, Nat.lt_of_lt_of_le b1 p1, fun x hx => Nat.lt_of_lt_of_le (Nat.lt_of_le_of_lt (le_sum _ _ hx) b2) (by omega)⟩
      · rename_i h1 h2
        cases e
        have sp : 0 < s.1.sum := Nat.lt_of_lt_of_le (Nat.mul_pos (Nat.pos_of_ne_zero h2) h.pos) (Nat.le_of_not_lt h1)
        refine ⟨by simp [h.len], Nat.mul_pos h.pos sp, ?_, fun x hx => ?_⟩
        · have := Nat.mul_lt_mul'' b1 b2
          rw [← Nat.pow_add] at this
          exact Nat.lt_of_lt_of_le this (Nat.pow_le_pow_right (by decide) (by decide))
        · obtain ⟨y, hy, rfl⟩ := List.mem_map.mp hx
          have := Nat.mul_lt_mul'' (Nat.lt_of_le_of_lt (le_sum _ _ hy) b2) (Nat.lt_of_le_of_lt (Nat.sub_le s.1.sum (m * s.2)) b2)
          rw [← Nat.pow_add] at this
          exact Nat.lt_of_lt_of_le this (Nat.pow_le_pow_right (by decide) (by decide))

/-! ### the parts that both ways share -/
abbrev b1G (sp : DSp) : DTS := dSet 5 (dCall [false, false] sp (dCons (dVar 5) (dCons (dVar 6) (dNil))))
abbrev tailG (sp : DSp) : DTS := (dSeq (dSet 5 (dVar 2)) (dSeq (dFor (diSeq (dVar 1)) (gdName 6) (b1G sp)) (dPar [1, 2] (dCons (dLc (dcSeq (dVar 1)) (gdName 6) (dYes) (e2_held_of) [6]) (dCons (dOp2 fdivB (dVar 2) (dVar 5)) (dNil))))))
abbrev b2G (sp : DSp) (em : DTS) : DTS := dSeq (dIf (dTest (dOp2 eqB (dOp2 ixB (dVar 3) (dC (.int 0))) (dC (.str "charge")))) (dSetIx 1 (dOp2 addB (dOp2 ixB (dVar 1) (dOp2 ixB (dVar 3) (dC (.int 1)))) (dOp2 mulB (dOp2 ixB (dVar 3) (dC (.int 2))) (dVar 2))) (dOp2 ixB (dVar 3) (dC (.int 1)))) (dIf (dTest (dOp2 eqB (dOp2 ixB (dVar 3) (dC (.int 0))) (dC (.str "empty")))) em (dSeq (dSet 4 (dOpN sumB (dCons (dVar 1) (dNil)))) (dSeq (dIf (dTest (dOp2 gtB (dOp2 mulB (dOp2 ixB (dVar 3) (dC (.int 1))) (dVar 2)) (dVar 4))) (dRet (dC .none)) (dNext)) (dIf (dTest (dOp2 gtB (dOp2 ixB (dVar 3) (dC (.int 1))) (dC (.int 0)))) (dPar [1, 2] (dCons (dLc (dcSeq (dVar 1)) (gdName 6) (dYes) (e1_held_of) [6]) (dCons (dOp2 mulB (dVar 2) (dVar 4)) (dNil)))) (dNext)))))) (tailG sp)
def GcdSp (sp : DSp) : Prop := ∀ (a b : Nat) (q : EV → List D → Prop), b < 2 ^ 2000 → q (.dat (nI (Nat.gcd a b))) [] → sp [.dat (nI a), .dat (nI b)] q
theorem gcd_for {sp : DSp} (hsp : GcdSp sp) (E : DEnds) (v A u d t : DV) : ∀ (xs : List Nat) (g : Nat) (w : DV), (∀ x ∈ xs, x < 2 ^ 2000) → (∀ w, E.nx [v, A, u, d, t, .dat (nI (gA g xs)), w]) →
    forW (gdName 6) (b1G sp) E (xs.map nI) [v, A, u, d, t, .dat (nI g), w]
  | [], g, w, _, h => h w
  | x :: xs, g, w, hx, h => by
    rw [List.map_cons]
    conv => whnf
    refine hsp g x _ (hx x List.mem_cons_self) ?_
    exact gcd_for hsp E v A u d t xs (Nat.gcd g x) _ (fun y hy => hx y (List.mem_cons_of_mem _ hy)) h
theorem comp_div (stay : DSt → Prop) (q : List D → DSt → Prop) (v A u d t : DV) (g : Nat) (hs : ∀ τ, stay τ) (hg : divOk g) : ∀ (xs : List Nat) (acc : List D), q (acc ++ (xs.map (· / g)).map nI) [v, A, u, d, t, .dat (nI g), .emp] →
    compW (gdName 6) dYes e2_held_of [6] stay q (xs.map nI) acc [v, A, u, d, t, .dat (nI g), .emp]
  | [], acc, h => ⟨hs _, by simpa using h⟩
  | x :: xs, acc, h => by
    rw [List.map_cons]
    have ih := comp_div stay q v A u d t g hs hg xs (acc ++ [nI (x / g)]) (by simpa using h)
    conv => whnf
    refine ⟨hs _, ?_⟩
    conv => whnf
    refine ⟨hg, ?_⟩
    exact ih
theorem tail_ok {sp : DSp} (hsp : GcdSp sp) (E : DEnds) (v d t w5 w6 : DV) (s : S8) (hl : s.1.length = 8) (hp : 0 < s.2) (b1 : s.2 < 2 ^ 1600) (b2 : ∀ x ∈ s.1, x < 2 ^ 1600)
    (h : ∀ w5 w6, E.nx [v, .own ((red s).1.map nI), .dat (nI (red s).2), d, t, w5, w6]) : tailG sp E [v, .own (s.1.map nI), .dat (nI s.2), d, t, w5, w6] := by
  have pw : (2 : Nat) ^ 1600 ≤ 2 ^ 2000 := Nat.pow_le_pow_right (by decide) (by decide)
  have g0 : 0 < gA s.2 s.1 := gA_pos hp
  have gb : gA s.2 s.1 < 2 ^ 1600 := Nat.lt_of_le_of_lt (Nat.le_of_dvd hp (gA_dvd s.1 s.2).1) b1
  have hg : divOk ((gA s.2 s.1 : Nat) : Int) := divOk_of (n := 1600) (by omega) (Bd.nat gb)
  conv => whnf
  refine gcd_for hsp _ v _ _ d t s.1 s.2 _ (fun x hx => Nat.lt_of_lt_of_le (b2 x hx) pw) (fun w => ?_)
  conv => whnf
  refine ⟨by rw [List.length_map, hl]; decide, ?_⟩
  refine comp_div _ _ v _ _ d t _ (fun _ => trivial) hg s.1 [] ?_
  conv => whnf
  refine ⟨hg, ?_⟩
  conv => whnf
  refine ⟨rfl, ?_⟩
  conv => whnf
  refine ⟨sz2, ?_⟩
  exact h _ _
end K24
set_option Elab.async false
set_option linter.all false
set_option maxRecDepth 100000
set_option maxHeartbeats 400000
namespace K24
open PySem L2 DL
open PyProof.Rows (boot_repr boot_sum boot_all boot_any boot_max boot_min boot_abs boot_int boot_list boot_tuple)
def EmOk (em : DTS) : Prop := ∀ (E : DEnds) (v d t w5 w6 : DV) (A : List D) (u : Nat), 0 < u → u < 2 ^ 1600 →
  (∀ u' : Nat, 0 < u' → u' < 2 ^ 1600 → E.nx [v, .own (z8.map nI), .dat (nI u'), d, t, w5, w6]) → em E [v, .own A, .dat (nI u), d, t, w5, w6]
theorem atI_nats {xs : List Nat} {k : Nat} (h : k < xs.length) : atI (xs.map nI) ((k : Nat) : Int) = some (nI (xs.getD k 0)) := by
  refine atI_nat ?_
  simp [h, List.getD_eq_getElem?_getD]
theorem ixN_nat {n k : Nat} (h : k < n) : ixN n ((k : Nat) : Int) = some k := by
  unfold ixN
  rw [if_pos (by omega), if_pos (by omega)]
  simp
theorem ints_nats (xs : List Nat) : intsOf (xs.map nI) = some (xs.map fun n => ((n : Nat) : Int)) := by
  have := intsOf_map (xs.map fun n => ((n : Nat) : Int))
  rw [List.map_map] at this
  exact this
theorem sum_nats (xs : List Nat) : (xs.map fun n => ((n : Nat) : Int)).sum = ((xs.sum : Nat) : Int) := by
  induction xs with
  | nil => rfl
  | cons x xs ih => rw [List.map_cons, List.sum_cons, List.sum_cons, ih]; simp
theorem comp_mul (stay : DSt → Prop) (q : List D → DSt → Prop) (v A w5 : DV) (u m S : Nat) (hs : ∀ (T : D) x, stay [v, A, .dat (nI u), .dat (Deed.gather m).d, .dat T, w5, x]) (hm : m < 2 ^ 20) (hu : u < 2 ^ 750) (hS : S < 2 ^ 775) (hSu : m * u ≤ S) :
    ∀ (xs : List Nat) (acc : List D), (∀ x ∈ xs, x < 2 ^ 775) → q (acc ++ (xs.map (· * (S - m * u))).map nI) [v, A, .dat (nI u), .dat (Deed.gather m).d, .dat (nI S), w5, .emp] →
    compW (gdName 6) dYes e1_held_of [6] stay q (xs.map nI) acc [v, A, .dat (nI u), .dat (Deed.gather m).d, .dat (nI S), w5, .emp]
  | [], acc, _, h => ⟨hs _ _, by simpa using h⟩
  | x :: xs, acc, hx, h => by
    rw [List.map_cons]
    have ih := comp_mul stay q v A w5 u m S hs hm hu hS hSu xs (acc ++ [nI (x * (S - m * u))]) (fun y hy => hx y (List.mem_cons_of_mem _ hy)) (by simpa using h)
    have e : nI (x * (S - m * u)) = .int ((x : Int) * ((S : Int) - (m : Int) * (u : Int))) := by
      show PyData.int _ = _
      rw [Int.natCast_mul, Int.ofNat_sub hSu, Int.natCast_mul]
    rw [e] at ih
    conv => whnf
    refine ⟨hs _ _, ?_⟩
    conv => whnf
    refine ⟨mulOk_of (m := 20) (n := 750) (Bd.nat hm) (Bd.nat hu), ?_⟩
    conv => whnf
    have hb : Bd 775 ((S : Int) - (m : Int) * (u : Int)) := by
      rw [← Int.natCast_mul, ← Int.ofNat_sub hSu]
      exact Bd.nat (Nat.lt_of_le_of_lt (Nat.sub_le _ _) hS)
    refine ⟨mulOk_of (m := 775) (n := 775) (Bd.nat (hx x List.mem_cons_self)) hb, ?_⟩
    exact ih
theorem step_ok {sp : DSp} (hsp : GcdSp sp) {em : DTS} (hem : EmOk em) (E : DEnds) (v t w5 w6 : DV) (n : Nat) (s : S8) (h : Ok n s) (hn : n < 30) (d : Deed) (hd : d.ok)
    (hnone : pre s d = none → ∀ τ, E.rt (.dat .none) τ) (hsome : ∀ t', pre s d = some t' → ∀ tt w5 w6, E.nx [v, .own ((red t').1.map nI), .dat (nI (red t').2), .dat d.d, tt, w5, w6]) :
    b2G sp em E [v, .own (s.1.map nI), .dat (nI s.2), .dat d.d, t, w5, w6] := by
  obtain ⟨c1, c2⟩ := big h (Nat.le_of_lt hn)
  have tail : ∀ (t' : S8) (tt w5 w6 : DV), pre s d = some t' → tailG sp E [v, .own (t'.1.map nI), .dat (nI t'.2), .dat d.d, tt, w5, w6] := fun t' tt w5 w6 e => by
    obtain ⟨q1, q2, q3, q4⟩ := big_pre h (Nat.le_of_lt hn) hd e
    exact tail_ok hsp E v _ tt w5 w6 t' q1 q2 q3 q4 (hsome t' e tt)
  cases d with
  | charge k a =>
    obtain ⟨hk, ha⟩ := hd
    have hk8 : k < s.1.length := by rw [h.len]; exact hk
    conv => whnf
    refine br_t (strEq_self _) ?_
    conv => whnf
    refine optW_mk (atI_nats hk8) ?_
    conv => whnf
    refine ⟨mulOk_of (m := 20) (n := 750) (Bd.nat (by omega)) (Bd.nat c1), ?_⟩
    conv => whnf
    refine optW_mk (ixN_nat (by rw [List.length_map]; exact hk8)) ?_
    have := tail _ t w5 w6 rfl
    rw [List.map_set] at this
    exact this
  | empty =>
    conv => whnf
    refine br_f (strEq_ne (by decide)) ?_
    conv => whnf
    refine br_t (strEq_self _) ?_
    refine hem _ v _ t w5 w6 _ _ h.pos (Nat.lt_of_lt_of_le c1 (Nat.pow_le_pow_right (by decide) (by decide))) fun u' hu0 hu1 => ?_
    refine tail_ok hsp E v _ t w5 w6 (z8, u') rfl hu0 hu1 (fun x hx => by
      have : x = 0 := List.eq_of_mem_replicate hx
      rw [this]
      exact Nat.two_pow_pos _) fun w5 w6 => ?_
    have e1 : red (z8, u') = (List.replicate 8 0, 1) := red_zeros hu0
    have e2 : red (z8, 1) = (List.replicate 8 0, 1) := red_zeros Nat.one_pos
    rw [e1, ← e2]
    exact hsome _ rfl t w5 w6
  | gather m =>
    have hm : m ≤ 1000000 := hd
    conv => whnf
    refine br_f (strEq_ne (by decide)) ?_
    conv => whnf
    refine br_f (strEq_ne (by decide)) ?_
    conv => whnf
    refine optW_mk (ints_nats _) ?_
    rw [sum_nats]
    conv => whnf
    refine ⟨mulOk_of (m := 20) (n := 750) (Bd.nat (by omega)) (Bd.nat c1), ?_⟩
    conv => whnf
    refine br_d (fun hlt => ?_) (fun hge => ?_)
    · have hlt' : s.1.sum < m * s.2 := by
        have : ((s.1.sum : Nat) : Int) < ((m * s.2 : Nat) : Int) := by rw [Int.natCast_mul]; exact hlt
        exact Int.ofNat_lt.mp this
      refine hnone ?_ _
      unfold pre
      simp only
      rw [if_pos hlt']
    · have hge' : ¬ s.1.sum < m * s.2 := fun z => hge (by
        have : ((s.1.sum : Nat) : Int) < ((m * s.2 : Nat) : Int) := Int.ofNat_lt.mpr z
        rw [Int.natCast_mul] at this
        exact this)
      conv => whnf
      refine br_d (fun hm0 => ?_) (fun hm0 => ?_)
      · have hpre : pre s (.gather m) = some (s.1.map (· * (s.1.sum - m * s.2)), s.2 * s.1.sum) := by
          unfold pre
          simp only
          rw [if_neg hge', if_neg (by omega)]
        conv => whnf
        refine ⟨by rw [List.length_map, h.len]; decide, ?_⟩
        refine comp_mul _ _ v _ w5 s.2 m s.1.sum (fun _ _ => rfl) (by omega) c1 c2 (Nat.le_of_not_lt hge') s.1 [] (fun x hx => Nat.lt_of_le_of_lt (le_sum _ _ hx) c2) ?_
        conv => whnf
        refine ⟨mulOk_of (m := 750) (n := 775) (Bd.nat c1) (Bd.nat c2), ?_⟩
        conv => whnf
        refine ⟨rfl, ?_⟩
        conv => whnf
        refine ⟨sz2, ?_⟩
        exact tail _ _ w5 w6 hpre
      · have hpre : pre s (.gather m) = some s := by
          unfold pre
          simp only
          rw [if_neg hge', if_pos (by omega)]
        exact tail _ _ w5 w6 hpre
theorem held_for {sp : DSp} (hsp : GcdSp sp) {em : DTS} (hem : EmOk em) (E : DEnds) (v : DV) : ∀ (ds : List Deed) (d0 t w5 w6 : DV) (n : Nat) (s : S8), Ok n s → n + ds.length ≤ 30 → (∀ d ∈ ds, d.ok) →
    (held ds s = none → ∀ τ, E.rt (.dat .none) τ) → (∀ t', held ds s = some t' → ∀ d0 tt w5 w6, E.nx [v, .own (t'.1.map nI), .dat (nI t'.2), d0, tt, w5, w6]) →
    forW (gdName 3) (b2G sp em) E (ds.map Deed.d) [v, .own (s.1.map nI), .dat (nI s.2), d0, t, w5, w6]
  | [], d0, t, w5, w6, n, s, _, _, _, _, h => h s rfl d0 t w5 w6
  | d :: ds, d0, t, w5, w6, n, s, ok, hn, hd, h1, h2 => by
    rw [List.map_cons]
    have hn' : n + 1 + ds.length ≤ 30 := by rw [List.length_cons] at hn; omega
    refine step_ok hsp hem _ v t w5 w6 n s ok (by omega) d (hd d List.mem_cons_self) (fun e => ?_) (fun t' e => ?_)
    · exact h1 (by unfold held; rw [e])
    · intro tt w5 w6
      refine held_for hsp hem E v ds _ tt w5 w6 (n + 1) (red t') (ok_pre ok (hd d List.mem_cons_self) (by omega) e) hn' (fun x hx => hd x (List.mem_cons_of_mem _ hx)) (fun e2 => ?_) (fun t2 e2 => ?_)
      · exact h1 (by unfold held; rw [e]; exact e2)
      · exact h2 t2 (by unfold held; rw [e]; exact e2)
theorem gcdSp1 : GcdSp sp_divisor := fun a b q _ h => ⟨a, b, rfl, h⟩
theorem gcdSp2 : GcdSp sp__law_gcd := fun a b q hb h => ⟨a, b, rfl, hb, h⟩
theorem emOk1 : EmOk (dSet 1 (dRepL (dCons (dC (.int 0)) (dNil)) (dC (.int 8)))) := fun E v d t w5 w6 A u h0 h1 h => by
  conv => whnf
  refine ⟨show 1 ≤ sizeLine by decide, ?_⟩
  conv => whnf
  refine ⟨⟨by decide, by decide, show 1 * 8 ≤ sizeLine by decide⟩, ?_⟩
  exact h u h0 h1
theorem emOk2 : EmOk (dPar [1, 2] (dCons (dRepL (dCons (dC (.int 0)) (dNil)) (dC (.int 8))) (dCons (dC (.int 1)) (dNil)))) := fun E v d t w5 w6 A u h0 h1 h => by
  conv => whnf
  refine ⟨show 1 ≤ sizeLine by decide, ?_⟩
  conv => whnf
  refine ⟨⟨by decide, by decide, show 1 * 8 ≤ sizeLine by decide⟩, ?_⟩
  conv => whnf
  refine ⟨rfl, ?_⟩
  conv => whnf
  refine ⟨sz2, ?_⟩
  exact h 1 (by decide) (Nat.one_lt_two_pow (by decide))
end K24
set_option Elab.async false
set_option linter.all false
set_option maxRecDepth 100000
set_option maxHeartbeats 400000
namespace K24
open PySem L2 DL
open PyProof.Rows (boot_repr boot_sum boot_all boot_any boot_max boot_min boot_abs boot_int boot_list boot_tuple)
theorem len_held_of : ∀ as q, sp_held_of as q → as.length = 1 := fun _ _ ⟨_, h, _⟩ => by rw [h]; rfl
theorem len__law_held : ∀ as q, sp__law_held as q → as.length = 1 := fun _ _ ⟨_, h, _⟩ => by rw [h]; rfl
theorem len_held : ∀ as q, sp_held as q → as.length = 1 := fun _ _ ⟨_, h, _⟩ => by rw [h]; rfl
theorem len_least_charge : ∀ as q, sp_least_charge as q → as.length = 4 := fun _ _ ⟨_, _, _, _, h, _⟩ => by rw [h]; rfl
theorem ok_held_of : ∀ as q, sp_held_of as q → t_held_of (endsD as q) (startD N_held_of.length as) := by
  rintro _ q ⟨ds, rfl, ⟨hl, hd⟩, hq⟩
  conv => whnf
  refine ⟨show 1 ≤ sizeLine by decide, ?_⟩
  conv => whnf
  refine ⟨⟨by decide, by decide, show 1 * 8 ≤ sizeLine by decide⟩, ?_⟩
  conv => whnf
  refine ⟨rfl, ?_⟩
  conv => whnf
  refine ⟨sz2, ?_⟩
  refine held_for gcdSp1 emOk1 _ _ ds .emp .emp .emp .emp 0 s0 ok0 (by omega) hd (fun e τ => ?_) (fun t' e d0 tt w5 w6 => ?_)
  · rw [e] at hq
    exact hq
  · rw [e] at hq
    conv => whnf
    refine ⟨sz2, ?_⟩
    exact hq
theorem ok__law_held : ∀ as q, sp__law_held as q → t__law_held (endsD as q) (startD N__law_held.length as) := by
  rintro _ q ⟨ds, rfl, ⟨hl, hd⟩, hq⟩
  conv => whnf
  refine ⟨show 1 ≤ sizeLine by decide, ?_⟩
  conv => whnf
  refine ⟨⟨by decide, by decide, show 1 * 8 ≤ sizeLine by decide⟩, ?_⟩
  conv => whnf
  refine ⟨rfl, ?_⟩
  conv => whnf
  refine ⟨sz2, ?_⟩
  refine held_for gcdSp2 emOk2 _ _ ds .emp .emp .emp .emp 0 s0 ok0 (by omega) hd (fun e τ => ?_) (fun t' e d0 tt w5 w6 => ?_)
  · rw [e] at hq
    exact hq
  · rw [e] at hq
    conv => whnf
    refine ⟨sz2, ?_⟩
    exact hq
theorem ok_held : ∀ as q, sp_held as q → t_held (endsD as q) (startD N_held.length as) := by
  rintro _ q ⟨ds, rfl, hD, hq⟩
  conv => whnf
  refine ⟨ds, rfl, hD, ?_⟩
  conv => whnf
  refine ⟨ds, rfl, hD, ?_⟩
  cases e : held ds s0 with
  | none =>
    rw [e] at hq
    exact hq
  | some t =>
    rw [e] at hq
    conv => whnf
    refine ⟨sz2, ?_⟩
    exact hq
theorem leD_some (s : S8) (k j p : Nat) : leD (some s) k j p = if 1000 * s.1.getD k 0 ≤ p * s.1.sum then nI 0 else if k = j ∨ p = 0 then .none else .int (-((-(((s.1.getD k 0 * 1000 : Nat) : Int) - ((s.1.sum * p : Nat) : Int))) / ((p * s.2 : Nat) : Int))) := rfl
theorem ok_least_charge : ∀ as q, sp_least_charge as q → t_least_charge (endsD as q) (startD N_least_charge.length as) := by
  rintro _ q ⟨ds, k, j, p, rfl, hD, ⟨hk, hj, hp⟩, hq⟩
  conv => whnf
  refine ⟨ds, rfl, hD, ?_⟩
  conv => whnf
  refine ⟨sz2, ?_⟩
  conv => whnf
  refine ⟨_, _, _, rfl, ⟨by omega, by omega⟩, ?_⟩
  conv => whnf
  refine ⟨_, _, _, rfl, ⟨by omega, by omega⟩, ?_⟩
  conv => whnf
  refine ⟨_, _, _, rfl, ⟨by omega, by omega⟩, ?_⟩
  conv => whnf
  refine ⟨ds, rfl, hD, ?_⟩
  cases e : held ds s0 with
  | none =>
    rw [e] at hq
    exact hq
  | some t =>
    rw [e] at hq
    have okt : Ok ds.length t := by
      have := oks_held ds 0 s0 t ok0 hD.2 (by have := hD.1; omega) e
      rw [Nat.zero_add] at this
      exact this
    obtain ⟨b1, b2⟩ := big okt hD.1
    have hk8 : k < t.1.length := by rw [okt.len]; exact hk
    conv => whnf
    refine ⟨rfl, ?_⟩
    conv => whnf
    refine ⟨rfl, ?_⟩
    conv => whnf
    refine optW_mk (atI_nats hk8) ?_
    conv => whnf
    refine ⟨mulOkR (by decide) (by decide), ?_⟩
    conv => whnf
    refine optW_mk (ints_nats _) ?_
    rw [sum_nats]
    conv => whnf
    refine ⟨mulOkR (by omega) (by omega), ?_⟩
    conv => whnf
    refine ⟨rfl, ?_⟩
    conv => whnf
    refine ⟨sz2, ?_⟩
    conv => whnf
    have hq : q (.dat (leD (some t) k j p)) [] := hq
    refine br_d (fun hle => ?_) (fun hgt => ?_)
    · have h1 : 1000 * t.1.getD k 0 ≤ p * t.1.sum := by
        have : ((t.1.getD k 0 * 1000 : Nat) : Int) ≤ ((t.1.sum * p : Nat) : Int) := hle
        have := Int.ofNat_le.mp this
        rw [Nat.mul_comm 1000, Nat.mul_comm p]
        exact this
      rw [leD_some] at hq
      rw [if_pos h1] at hq
      exact hq
    · have h1 : ¬ 1000 * t.1.getD k 0 ≤ p * t.1.sum := fun z => hgt (by
        rw [Nat.mul_comm 1000, Nat.mul_comm p] at z
        have : ((t.1.getD k 0 * 1000 : Nat) : Int) ≤ ((t.1.sum * p : Nat) : Int) := Int.ofNat_le.mpr z
        exact this)
      rw [leD_some] at hq
      rw [if_neg h1] at hq
      conv => whnf
      refine br_d (fun hkj => ?_) (fun hkj => ?_)
      · rw [if_pos (.inl (Int.ofNat.inj hkj))] at hq
        exact hq
      · conv => whnf
        refine br_d (fun hp0 => ?_) (fun hp0 => ?_)
        · rw [if_pos (.inr (by omega))] at hq
          exact hq
        · rw [if_neg (by
            rintro (z | z)
            · exact hkj (by rw [z])
            · exact hp0 (by rw [z]; rfl))] at hq
          conv => whnf
          refine ⟨mulOkL (by omega) (by omega), ?_⟩
          conv => whnf
          refine ⟨?_, ?_⟩
          · have hpu : p * t.2 < 2 ^ 10 * 2 ^ 750 := Nat.mul_lt_mul'' (by omega) b1
            rw [← Nat.pow_add] at hpu
            have hpos : 0 < p * t.2 := Nat.mul_pos (by omega) okt.pos
            exact divOk_of (n := 760) (y := ((p * t.2 : Nat) : Int)) (Int.ofNat_lt.mpr hpos) (Bd.nat hpu)
          · exact hq
end K24
set_option Elab.async false
set_option linter.all false
set_option maxRecDepth 100000
set_option maxHeartbeats 400000
namespace K24
open PySem L2 DL
open PyProof.Rows (boot_repr boot_sum boot_all boot_any boot_max boot_min boot_abs boot_int boot_list boot_tuple)
theorem len__law_deeds_drawn : ∀ as q, sp__law_deeds_drawn as q → as.length = 2 := fun _ _ ⟨_, _, _, h, _⟩ => by rw [h]; rfl
theorem Pot.mono {m n : Nat} {xs : List D} (h : Pot m xs) (hm : m ≤ n) : Pot n xs := by
  obtain ⟨o, s, c, e, h1, h2, h3, h4⟩ := h
  exact ⟨o, s, c, e, h1, h2, h3, by omega⟩
theorem atI_last {α : Type} {xs : List α} {x : α} : atI (xs ++ [x]) (-1) = some x := by
  unfold atI
  have e : ixN (xs ++ [x]).length (-1) = some xs.length := by
    unfold ixN
    rw [if_neg (by decide), if_pos (by simp; omega)]
    simp
    omega
  rw [e]
  simp
abbrev gatherRest : DTS := (dSeq (dDrop (dApp 2 (dTup (dCons (dC (.str "gather")) (dCons (dOpN intB (dCons (dCallIo 0 [false] sp__law_of (dCons (dVar 0) (dCons (dLst (dCons (dVar 7) (dCons (dOp2 fdivB (dVar 7) (dC (.int 2))) (dCons (dOpN min2B (dCons (dC (.int 1)) (dCons (dVar 7) (dNil)))) (dCons (dOpN intB (dCons (dCallIo 0 [false] sp__law_take (dCons (dVar 0) (dCons (dOp2 addB (dVar 7) (dC (.int 1))) (dNil)))) (dNil))) (dNil)))))) (dNil)))) (dNil))) (dNil)))))) (dSet 4 (dOp2 subB (dVar 4) (dOp2 ixB (dOp2 ixB (dVar 2) (dOp1 negB (dC (.int 1)))) (dC (.int 1))))))
theorem gather_rest (E : DEnds) (mo sc w5 w6 : DV) (th mu n : Nat) (ys found : List D) (hP1 : Pot n ys) (hn : n + 3 < 100000) (hmu : mu ≤ 1000000) (szf : found.length < sizeLine)
    (h : ∀ (m : Nat) (zs : List D), m ≤ mu → Pot (n + 2) zs → E.nx [.io zs, mo, .own (found ++ [(Deed.gather m).d]), sc, .dat (.int ((th : Int) - (m : Int))), w5, w6, .dat (nI mu)]) :
    gatherRest E [.io ys, mo, .own found, sc, .dat (nI th), w5, w6, .dat (nI mu)] := by
  conv => whnf
  refine ⟨.inl ⟨by decide, by decide⟩, ?_⟩
  conv => whnf
  refine ⟨rfl, rfl, ?_⟩
  conv => whnf
  refine ⟨n, ys, mu + 1, rfl, hP1, by omega, ⟨by omega, by omega⟩, fun rr zs hrr hP2 => ?_⟩
  conv => whnf
  refine ⟨show 4 ≤ sizeLine by decide, ?_⟩
  conv => whnf
  refine ⟨rfl, rfl, ?_⟩
  conv => whnf
  refine ⟨n + 1, zs, [nI mu, nI (mu / 2), .int (min 1 ((mu : Nat) : Int)), nI rr], rfl, hP2, by omega, ⟨by show 0 < 4; decide, by show 4 < 1000; decide⟩, fun d zs2 hdm hP3 => ?_⟩
  obtain ⟨m, em, hm⟩ : ∃ m : Nat, d = nI m ∧ m ≤ mu := by
    rcases List.mem_cons.mp hdm with e | e
    · exact ⟨mu, e, Nat.le_refl _⟩
    · rcases List.mem_cons.mp e with e | e
      · exact ⟨mu / 2, e, Nat.div_le_self _ _⟩
      · rcases List.mem_cons.mp e with e | e
        · exact ⟨min 1 mu, by rw [e]; show PyData.int _ = PyData.int _; congr 1; omega, by omega⟩
        · exact ⟨rr, List.mem_singleton.mp e, by omega⟩
  subst em
  conv => whnf
  refine ⟨sz2, ?_⟩
  conv => whnf
  refine ⟨szf, ?_⟩
  conv => whnf
  refine optW_mk atI_last ?_
  exact h m zs2 hm hP3
theorem drawn_for (E : DEnds) (mo : DV) (sc : Nat) (hsc : sc ≤ 1000000) : ∀ (k n : Nat) (xs : List D) (found : List Deed) (th : Nat) (i : Int) (w5 w6 w7 : DV), Pot n xs → n + 4 * k + 4 < 100000 → found.length + k ≤ 30 → (∀ d ∈ found, d.ok) → th ≤ 1000000 * found.length →
    (∀ (xs : List D) (ds : List Deed) (th : Nat) (w5 w6 w7 : DV), Pot (n + 4 * k) xs → ds.length ≤ 30 → (∀ d ∈ ds, d.ok) → E.nx [.io xs, mo, .own (ds.map Deed.d), .dat (nI sc), .dat (nI th), w5, w6, w7]) →
    forW (gdName 5) b1__law_deeds_drawn E (rangeD i k) [.io xs, mo, .own (found.map Deed.d), .dat (nI sc), .dat (nI th), w5, w6, w7]
  | 0, n, xs, found, th, i, w5, w6, w7, hP, hn, hl, hd, hth, h => by
    rw [rangeD_zero]
    exact h xs found th w5 w6 w7 hP (by omega) hd
  | k + 1, n, xs, found, th, i, w5, w6, w7, hP, hn, hl, hd, hth, h => by
    rw [rangeD_succ]
    have next : ∀ (d : Deed) (n' : Nat) (ys : List D) (th' : Nat) (w5 w6 w7 : DV), d.ok → n' ≤ n + 4 → Pot n' ys → th' ≤ 1000000 * (found.length + 1) →
        forW (gdName 5) b1__law_deeds_drawn E (rangeD (i + 1) k) [.io ys, mo, .own ((found ++ [d]).map Deed.d), .dat (nI sc), .dat (nI th'), w5, w6, w7] := fun d n' ys th' w5 w6 w7 hd0 hn' hP' ht' => by
      refine drawn_for E mo sc hsc k (n + 4) ys (found ++ [d]) th' (i + 1) w5 w6 w7 (hP'.mono hn') (by omega) (by simp; omega) (fun x hx => ?_) (by simpa using ht') (fun zs ds th'' a b c hz hl' hds => ?_)
      · rcases List.mem_append.mp hx with hx | hx
        · exact hd x hx
        · rw [List.mem_singleton.mp hx]; exact hd0
      · have e : n + 4 + 4 * k = n + 4 * (k + 1) := by omega
        rw [e] at hz
        exact h zs ds th'' a b c hz hl' hds
    simp only [List.map_append, List.map_cons, List.map_nil] at next
    have szf : (found.map Deed.d).length < sizeLine := by rw [List.length_map, sizeLine_eq]; omega
    conv => whnf
    refine ⟨rfl, rfl, ?_⟩
    conv => whnf
    refine ⟨n, xs, 9, rfl, hP, by omega, ⟨by decide, by decide⟩, fun r ys hr hP1 => ?_⟩
    conv => whnf
    refine br_d (fun h5 => ?_) (fun h5 => ?_)
    · conv => whnf
      refine ⟨show 2 ≤ sizeLine by decide, ?_⟩
      conv => whnf
      refine ⟨rfl, rfl, ?_⟩
      conv => whnf
      refine ⟨n + 1, ys, [.int 2, .int 8], rfl, hP1, by omega, ⟨by decide, by decide⟩, fun d zs hdm hP2 => ?_⟩
      obtain ⟨m, em, hm0, hm8⟩ : ∃ m : Nat, d = nI m ∧ 0 < m ∧ m ≤ 8 := by
        rcases List.mem_cons.mp hdm with e | e
        · exact ⟨2, e, by decide, by decide⟩
        · exact ⟨8, List.mem_singleton.mp e, by decide, by decide⟩
      subst em
      conv => whnf
      refine ⟨rfl, rfl, ?_⟩
      conv => whnf
      refine ⟨n + 2, zs, m, rfl, hP2, by omega, ⟨hm0, by omega⟩, fun kk zs2 hkk hP3 => ?_⟩
      conv => whnf
      refine ⟨rfl, rfl, ?_⟩
      conv => whnf
      refine ⟨n + 3, zs2, sc + 1, rfl, hP3, by omega, ⟨by omega, by omega⟩, fun am zs3 ham hP4 => ?_⟩
      conv => whnf
      refine ⟨sz3, ?_⟩
      conv => whnf
      refine ⟨szf, ?_⟩
      conv => whnf
      refine optW_mk atI_last ?_
      conv => whnf
      have nx := next (.charge kk am) (n + 4) zs3 (th + am) (.dat (.int i)) (.dat (nI r)) w7 ⟨by omega, by omega⟩ (Nat.le_refl _) hP4 (by omega)
      exact nx
    · conv => whnf
      refine br_d (fun h8 => ?_) (fun h8 => ?_)
      · conv => whnf
        refine ⟨by unfold powOk; decide +kernel, ?_⟩
        obtain ⟨mu, emu, hmu, hmt⟩ : ∃ mu : Nat, min (10 ^ Int.toNat 6) ((th : Nat) : Int) = ((mu : Nat) : Int) ∧ mu ≤ 1000000 ∧ mu ≤ th := by
          have e : (10 : Int) ^ Int.toNat 6 = 1000000 := by decide
          rw [e]
          refine ⟨min 1000000 th, by omega, by omega, by omega⟩
        have g := gather_rest { nx := forW (gdName 5) b1__law_deeds_drawn E (rangeD (i + 1) k), rt := E.rt, bk := E.nx, ct := forW (gdName 5) b1__law_deeds_drawn E (rangeD (i + 1) k) } mo (.dat (nI sc)) (.dat (.int i)) (.dat (nI r)) th mu (n + 1) ys (found.map Deed.d) hP1 (by omega) hmu szf fun m zs hm hP3 => by
          have nx := next (.gather m) (n + 4) zs (th - m) (.dat (.int i)) (.dat (nI r)) (.dat (nI mu)) (by show m ≤ 1000000; omega) (Nat.le_refl _) (hP3.mono (by omega)) (by omega)
          have e : nI (th - m) = .int ((th : Int) - (m : Int)) := by show PyData.int _ = _; rw [Int.ofNat_sub (by omega)]
          rw [e] at nx
          exact nx
        have e3 : nI mu = .int (min (10 ^ Int.toNat 6) ((th : Nat) : Int)) := by rw [emu]
        rw [e3] at g
        exact g
      · conv => whnf
        refine ⟨show 1 ≤ sizeLine by decide, ?_⟩
        conv => whnf
        refine ⟨szf, ?_⟩
        conv => whnf
        exact next .empty (n + 1) ys 0 (.dat (.int i)) (.dat (nI r)) w7 trivial (by omega) hP1 (Nat.zero_le _)
end K24
set_option Elab.async false
set_option linter.all false
set_option maxRecDepth 100000
set_option maxHeartbeats 400000
namespace K24
open PySem L2 DL
open PyProof.Rows (boot_repr boot_sum boot_all boot_any boot_max boot_min boot_abs boot_int boot_list boot_tuple)
theorem ok__law_deeds_drawn : ∀ as q, sp__law_deeds_drawn as q → t__law_deeds_drawn (endsD as q) (startD N__law_deeds_drawn.length as) := by
  rintro _ q ⟨n, xs, mo, rfl, hP, hn, hmo, hq⟩
  conv => whnf
  refine ⟨Nat.zero_le _, ?_⟩
  conv => whnf
  refine ⟨by unfold powOk; decide +kernel, ?_⟩
  conv => whnf
  refine ⟨sz3, ?_⟩
  conv => whnf
  refine ⟨rfl, rfl, ?_⟩
  conv => whnf
  refine ⟨n, xs, [.int 6, .int 90, .int (10 ^ Int.toNat 6)], rfl, hP, by omega, ⟨by show 0 < 3; decide, by show 3 < 1000; decide⟩, fun d ys hdm hP1 => ?_⟩
  obtain ⟨sc, em, hsc⟩ : ∃ m : Nat, d = nI m ∧ m ≤ 1000000 := by
    rcases List.mem_cons.mp hdm with e | e
    · exact ⟨6, e, by decide⟩
    · rcases List.mem_cons.mp e with e | e
      · exact ⟨90, e, by decide⟩
      · exact ⟨1000000, by rw [List.mem_singleton.mp e]; rfl, by decide⟩
  subst em
  conv => whnf
  refine ⟨rfl, ?_⟩
  conv => whnf
  refine ⟨sz3, ?_⟩
  conv => whnf
  refine ⟨rfl, rfl, ?_⟩
  conv => whnf
  refine ⟨n + 1, ys, mo + 1, rfl, hP1, by omega, ⟨by omega, by omega⟩, fun k zs hk hP2 => ?_⟩
  conv => whnf
  refine ⟨by omega, ?_⟩
  conv => whnf
  refine ⟨by omega, ?_⟩
  refine drawn_for _ _ sc hsc k (n + 2) zs [] 0 0 .emp .emp .emp hP2 (by omega) (by simp; omega) (fun _ h => nomatch h) (Nat.zero_le _) fun us ds th w5 w6 w7 hP3 hl hd => ?_
  exact hq ds us ⟨hl, hd⟩ (hP3.mono (by omega))
theorem len__law_is_charge_right : ∀ as q, sp__law_is_charge_right as q → as.length = 3 := fun _ _ ⟨_, _, _, h, _⟩ => by rw [h]; rfl
/-! ### repr of what they give -/
theorem repr_heD {o : Option S8} (h : ∀ t, o = some t → ∃ n, n ≤ 30 ∧ Ok n t) : reprOk (heD o) := by
  cases o with
  | none => exact reprOk_of 8 (by simp only [heD, leafOk]) (by simp only [heD, PyData.bulk]; decide) (by simp only [heD, PyData.depth]; decide)
  | some t =>
    obtain ⟨n, hn, ok⟩ := h t rfl
    obtain ⟨b1, b2⟩ := big ok hn
    have e : t.1.map nI = (t.1.map fun n => ((n : Nat) : Int)).map PyData.int := by rw [List.map_map]; rfl
    refine reprOk_of 800 ?_ ?_ ?_
    · simp only [heD, sD, leafOk, leafOkAll, Bool.and_true, Bool.and_eq_true, decide_eq_true_eq, e]
      refine ⟨leaf_ints fun x hx => ?_, ?_⟩
      · obtain ⟨y, hy, rfl⟩ := List.mem_map.mp hx
        exact (Bd.nat (n := 800) (Nat.lt_of_le_of_lt (le_sum _ _ hy) (Nat.lt_of_lt_of_le b2 (Nat.pow_le_pow_right (by decide) (by decide))))).log (by decide)
      · exact (Bd.nat (n := 800) (Nat.lt_of_lt_of_le b1 (Nat.pow_le_pow_right (by decide) (by decide)))).log (by decide)
    · simp only [heD, sD, PyData.bulk, PyData.bulkAll, e, bulk_ints, List.length_map, ok.len]
      decide
    · simp only [heD, sD, PyData.depth, PyData.depthAll, e, depth_ints]
      decide
theorem held_ok {ds : List Deed} (hD : Deeds ds) : ∀ t, held ds s0 = some t → ∃ n, n ≤ 30 ∧ Ok n t := fun t e => by
  have := oks_held ds 0 s0 t ok0 hD.2 (by have := hD.1; omega) e
  rw [Nat.zero_add] at this
  exact ⟨_, hD.1, this⟩
theorem repr_held {ds : List Deed} (hD : Deeds ds) : reprOk (heD (held ds s0)) := repr_heD (held_ok hD)
theorem repr_leD {ds : List Deed} (hD : Deeds ds) {k j p : Nat} (hp : p ≤ 1000) : reprOk (leD (held ds s0) k j p) := by
  cases e : held ds s0 with
  | none => exact reprOk_of 8 (by simp only [leD, leafOk]) (by simp only [leD, PyData.bulk]; decide) (by simp only [leD, PyData.depth]; decide)
  | some t =>
    obtain ⟨n, hn, ok⟩ := held_ok hD t e
    obtain ⟨b1, b2⟩ := big ok hn
    rw [leD_some]
    split
    · exact reprOk_of 8 (by simp only [leafOk]; decide) (by simp only [PyData.bulk]; decide) (by simp only [PyData.depth]; decide)
    · split
      · exact reprOk_of 8 (by simp only [leafOk]) (by simp only [PyData.bulk]; decide) (by simp only [PyData.depth]; decide)
      · refine reprOk_of 800 ?_ (by simp only [PyData.bulk]; decide) (by simp only [PyData.depth]; decide)
        simp only [leafOk, decide_eq_true_eq]
        refine Bd.log (n := 800) ?_ (by decide)
        -- the quotient is no greater than what is divided
        have h1 : t.1.getD k 0 ≤ t.1.sum := by
          rw [List.getD_eq_getElem?_getD]
          cases e2 : t.1[k]? with
          | none => exact Nat.zero_le _
          | some x => exact le_sum _ _ (List.mem_of_getElem? e2)
        have hA : t.1.getD k 0 * 1000 < 2 ^ 790 := by
          have := Nat.mul_lt_mul'' (Nat.lt_of_le_of_lt h1 b2) (show 1000 < 2 ^ 15 by decide)
          rw [← Nat.pow_add] at this
          exact this
        have hB : t.1.sum * p < 2 ^ 790 := by
          have := Nat.mul_lt_mul'' b2 (show p < 2 ^ 15 by omega)
          rw [← Nat.pow_add] at this
          exact this
        have hAB : (-(((t.1.getD k 0 * 1000 : Nat) : Int) - ((t.1.sum * p : Nat) : Int))).natAbs ≤ 2 ^ 790 := by omega
        have hdiv : ∀ (x : Int) (y : Nat), (x / (y : Int)).natAbs ≤ x.natAbs := fun x y => by
          by_cases y0 : y = 0
          · subst y0; simp
          · exact Int.natAbs_ediv_le_natAbs x y
        have := hdiv (-(((t.1.getD k 0 * 1000 : Nat) : Int) - ((t.1.sum * p : Nat) : Int))) (p * t.2)
        unfold Bd
        rw [Int.natAbs_neg]
        refine Nat.lt_of_le_of_lt (Nat.le_trans this hAB) ?_
        exact Nat.pow_lt_pow_right (by decide) (by decide)
end K24
set_option Elab.async false
set_option linter.all false
set_option maxRecDepth 100000
set_option maxHeartbeats 400000
namespace K24
open PySem L2 DL
open PyProof.Rows (boot_repr boot_sum boot_all boot_any boot_max boot_min boot_abs boot_int boot_list boot_tuple)
theorem leD_cases {t : S8} (hu : 0 < t.2) (k j p : Nat) : leD (some t) k j p = .none ∨ ∃ x : Nat, leD (some t) k j p = nI x ∧
    ((x = 0 ∧ 1000 * t.1.getD k 0 ≤ p * t.1.sum) ∨ (0 < x ∧ k ≠ j ∧ 1000 * t.1.getD k 0 ≤ p * (t.1.sum + x * t.2) ∧ p * (t.1.sum + (x - 1) * t.2) < 1000 * t.1.getD k 0)) := by
  rw [leD_some]
  by_cases h1 : 1000 * t.1.getD k 0 ≤ p * t.1.sum
  · rw [if_pos h1]
    exact .inr ⟨0, rfl, .inl ⟨rfl, h1⟩⟩
  · rw [if_neg h1]
    by_cases h2 : k = j ∨ p = 0
    · rw [if_pos h2]
      exact .inl rfl
    · rw [if_neg h2]
      right
      have hkj : k ≠ j := fun z => h2 (.inl z)
      have hp : 0 < p := Nat.pos_of_ne_zero fun z => h2 (.inr z)
      have hb : (0 : Int) < ((p * t.2 : Nat) : Int) := Int.ofNat_lt.mpr (Nat.mul_pos hp hu)
      have eD : (((t.1.getD k 0 * 1000 : Nat) : Int) - ((t.1.sum * p : Nat) : Int)) = (((1000 * t.1.getD k 0 : Nat) : Int) - ((p * t.1.sum : Nat) : Int)) := by
        rw [Nat.mul_comm 1000, Nat.mul_comm p]
      rw [eD]
      obtain ⟨g1, g2⟩ := least_ok (D := ((1000 * t.1.getD k 0 : Nat) : Int) - ((p * t.1.sum : Nat) : Int)) hb
      generalize hX : -((-(((1000 * t.1.getD k 0 : Nat) : Int) - ((p * t.1.sum : Nat) : Int))) / ((p * t.2 : Nat) : Int)) = X at g1 g2
      have hD : (0 : Int) < ((1000 * t.1.getD k 0 : Nat) : Int) - ((p * t.1.sum : Nat) : Int) := by omega
      have hX0 : 0 < X := by
        refine Int.lt_of_not_ge fun z => ?_
        have : X * ((p * t.2 : Nat) : Int) ≤ 0 := Int.mul_nonpos_of_nonpos_of_nonneg z (Int.le_of_lt hb)
        omega
      obtain ⟨x, rfl⟩ := Int.eq_ofNat_of_zero_le (Int.le_of_lt hX0)
      have hx0 : 0 < x := Int.ofNat_lt.mp hX0
      refine ⟨x, rfl, .inr ⟨hx0, hkj, ?_, ?_⟩⟩
      · have e : p * (t.1.sum + x * t.2) = p * t.1.sum + x * (p * t.2) := by rw [Nat.mul_add, Nat.mul_left_comm]
        rw [e]
        have g1' : ((1000 * t.1.getD k 0 : Nat) : Int) - ((p * t.1.sum : Nat) : Int) ≤ ((x * (p * t.2) : Nat) : Int) := by rw [Int.natCast_mul x]; exact g1
        omega
      · have e : p * (t.1.sum + (x - 1) * t.2) = p * t.1.sum + (x - 1) * (p * t.2) := by rw [Nat.mul_add, Nat.mul_left_comm]
        rw [e]
        have g2' : (((x - 1) * (p * t.2) : Nat) : Int) < ((1000 * t.1.getD k 0 : Nat) : Int) - ((p * t.1.sum : Nat) : Int) := by
          rw [Int.natCast_mul (x - 1), Int.ofNat_sub hx0]
          exact g2
        omega
theorem dsD_snoc (ds : List Deed) (es : List Deed) : dsD (ds ++ es) = .tuple (ds.map Deed.d ++ es.map Deed.d) := by
  unfold dsD
  rw [List.map_append]
theorem deeds_snoc {ds es : List Deed} (hD : Deeds ds) (hl : ds.length + es.length ≤ 30) (he : ∀ d ∈ es, d.ok) : Deeds (ds ++ es) :=
  ⟨by rw [List.length_append]; exact hl, fun d hd => by
    rcases List.mem_append.mp hd with h | h
    · exact hD.2 d h
    · exact he d h⟩
theorem held_snoc {ds es : List Deed} {t : S8} (h : held ds s0 = some t) : held (ds ++ es) s0 = held es t := by
  rw [held_app, h]
theorem szc {n : Nat} (h : n ≤ 1000) : n ≤ sizeLine := by rw [sizeLine_eq]; omega
/-- the tail, once the two answers are one -/
theorem cr8 (q : EV → List D → Prop) (ys : List D) (ds : List Deed) (hD : Deeds ds) (t : S8) (ht : held ds s0 = some t) (k j p : Nat) (hk : k < 8) (hj : j < 8) (hp : p ≤ 1000) (xs0 : List D) (a1 a2 : DL.Arg) (d2 w7 w8 w9 w10 w11 w12 w13 : DV)
    (hq : q (.dat (.bool true)) ys) : r8__law_is_charge_right (endsD [.io xs0, a1, a2] q) [.io ys, .dat (dsD ds), d2, .dat (nI k), .dat (nI j), .dat (nI p), .dat (leD (held ds s0) k j p), w7, w8, w9, w10, w11, w12, w13] := by
  obtain ⟨n, hn, ok⟩ := held_ok hD t ht
  rw [ht]
  rcases leD_cases ok.pos k j p with e | ⟨x, e, hx⟩
  · rw [e]
    conv => whnf
    exact hq
  · rw [e]
    conv => whnf
    refine ⟨by unfold powOk; decide +kernel, ?_⟩
    conv => whnf
    refine br_n (fun h6 => ?_) (fun h6 => ?_)
    · exact hq
    · have hx6 : x ≤ 1000000 := by
        have : ((x : Nat) : Int) ≤ 10 ^ Int.toNat 6 := h6
        have e6 : (10 : Int) ^ Int.toNat 6 = 1000000 := by decide
        rw [e6] at this
        omega
      conv => whnf
      refine br_d (fun h29 => ?_) (fun h29 => ?_)
      · exact hq
      · have hl : ds.length ≤ 29 := by
          rw [List.length_map] at h29
          omega
        have more : ∀ y : Nat, y ≤ 1000000 → ∃ g s', 0 < g ∧ Deeds (ds ++ [.charge j y]) ∧ held (ds ++ [.charge j y]) s0 = some s' ∧ s'.1.length = 8 ∧ s'.1.getD k 0 * g = (if j = k then t.1.getD j 0 + y * t.2 else t.1.getD k 0) ∧ s'.1.sum * g = t.1.sum + y * t.2 := fun y hy => by
          have D2 : Deeds (ds ++ [.charge j y]) := deeds_snoc hD (by simpa using hl) fun d hd => by
            rw [List.mem_singleton.mp hd]
            exact ⟨hj, hy⟩
          obtain ⟨g, s', h0, h1, h2, h3⟩ := one_charge ok.len ok.pos (t := y) (k := k) hj
          have hh : held (ds ++ [.charge j y]) s0 = some s' := by rw [held_snoc ht]; exact h1
          obtain ⟨_, _, ok'⟩ := held_ok D2 s' hh
          exact ⟨g, s', h0, D2, hh, ok'.len, h2, h3⟩
        obtain ⟨g, s', g0, D2, hh, l8, e1, e2⟩ := more x hx6
        conv => whnf
        refine ⟨sz3, ?_⟩
        conv => whnf
        refine ⟨show 1 ≤ sizeLine by decide, ?_⟩
        conv => whnf
        refine ⟨szc (by show (ds.map Deed.d).length + 1 ≤ 1000; rw [List.length_map]; omega), ?_⟩
        conv => whnf
        refine ⟨ds ++ [.charge j x], by rw [dsD_snoc]; rfl, D2, ?_⟩
        rw [hh]
        conv => whnf
        refine optW_mk (atI_nats (by rw [l8]; exact hk)) ?_
        conv => whnf
        refine ⟨mulOkL (by decide) (by decide), ?_⟩
        conv => whnf
        refine optW_mk (ints_nats _) ?_
        rw [sum_nats]
        conv => whnf
        refine ⟨mulOkL (by omega) (by omega), ?_⟩
        conv => whnf
        have le1 : 1000 * s'.1.getD k 0 ≤ p * s'.1.sum := by
          refine Nat.le_of_mul_le_mul_right (c := g) ?_ g0
          rw [Nat.mul_assoc, Nat.mul_assoc, e1, e2]
          rcases hx with ⟨h0, h1⟩ | ⟨h0, h1, h2, h3⟩
          · subst h0
            rw [Nat.zero_mul, Nat.add_zero, Nat.add_zero]
            split
            · rename_i z; rw [z]; exact h1
            · exact h1
          · rw [if_neg fun z => h1 z.symm]
            exact h2
        refine br_df (fun z => ?_) ?_
        · have z' : ((p * s'.1.sum : Nat) : Int) < ((1000 * s'.1.getD k 0 : Nat) : Int) := by rw [Int.natCast_mul p, Int.natCast_mul 1000]; exact z
          omega
        conv => whnf
        refine br_d (fun hpos => ?_) (fun hpos => ?_)
        · have hx0 : 0 < x := Int.ofNat_lt.mp hpos
          rcases hx with ⟨h0, h1⟩ | ⟨h0, h1, h2, h3⟩
          · omega
          obtain ⟨g', s2, g0', D3, hh2, l8', e1', e2'⟩ := more (x - 1) (by omega)
          conv => whnf
          refine ⟨sz3, ?_⟩
          conv => whnf
          refine ⟨show 1 ≤ sizeLine by decide, ?_⟩
          conv => whnf
          refine ⟨szc (by show (ds.map Deed.d).length + 1 ≤ 1000; rw [List.length_map]; omega), ?_⟩
          conv => whnf
          have ex : ((x : Int) - 1) = ((x - 1 : Nat) : Int) := by omega
          refine ⟨ds ++ [.charge j (x - 1)], by rw [dsD_snoc]; show [DL.Arg.dat (PyData.tuple (ds.map Deed.d ++ [PyData.tuple [.str "charge", nI j, .int ((x : Int) - 1)]]))] = _; rw [ex]; rfl, D3, ?_⟩
          rw [hh2]
          conv => whnf
          refine optW_mk (atI_nats (by rw [l8']; exact hk)) ?_
          conv => whnf
          refine ⟨mulOkL (by decide) (by decide), ?_⟩
          conv => whnf
          refine optW_mk (ints_nats _) ?_
          rw [sum_nats]
          conv => whnf
          refine ⟨mulOkL (by omega) (by omega), ?_⟩
          have lt1 : p * s2.1.sum < 1000 * s2.1.getD k 0 := by
            refine Nat.lt_of_mul_lt_mul_right (a := g') ?_
            rw [Nat.mul_assoc, Nat.mul_assoc, e1', e2', if_neg fun z => h1 z.symm]
            exact h3
          have lt2 : ((p : Int) * ((s2.1.sum : Nat) : Int)) < 1000 * ((s2.1.getD k 0 : Nat) : Int) := by
            rw [← Int.natCast_mul p]
            have : ((p * s2.1.sum : Nat) : Int) < ((1000 * s2.1.getD k 0 : Nat) : Int) := Int.ofNat_lt.mpr lt1
            rw [Int.natCast_mul 1000] at this
            exact this
          conv => whnf
          rw [decide_eq_true lt2]
          exact hq
        · exact hq
end K24
set_option Elab.async false
set_option linter.all false
set_option maxRecDepth 100000
set_option maxHeartbeats 400000
namespace K24
open PySem L2 DL
open PyProof.Rows (boot_repr boot_sum boot_all boot_any boot_max boot_min boot_abs boot_int boot_list boot_tuple)
/-- the law's own least charge, and the two texts -/
theorem cr6 (q : EV → List D → Prop) (ys : List D) (ds : List Deed) (hD : Deeds ds) (t : S8) (ht : held ds s0 = some t) (k j p : Nat) (hk : k < 8) (hj : j < 8) (hp : p ≤ 1000) (xs0 : List D) (a1 a2 : DL.Arg) (d2 w7 w11 w12 w13 : DV)
    (hq : q (.dat (.bool true)) ys) : r6__law_is_charge_right (endsD [.io xs0, a1, a2] q) [.io ys, .dat (dsD ds), d2, .dat (nI k), .dat (nI j), .dat (nI p), .dat (leD (held ds s0) k j p), w7, .dat (nI t.2), .dat (nI t.1.sum), .dat (nI (t.1.getD k 0)), w11, w12, w13] := by
  obtain ⟨n, hn, ok⟩ := held_ok hD t ht
  obtain ⟨b1, b2⟩ := big ok hn
  have okr : reprOk (leD (held ds s0) k j p) := repr_leD hD hp
  have tail : r7__law_is_charge_right (endsD [.io xs0, a1, a2] q) [.io ys, .dat (dsD ds), d2, .dat (nI k), .dat (nI j), .dat (nI p), .dat (leD (held ds s0) k j p), w7, .dat (nI t.2), .dat (nI t.1.sum), .dat (nI (t.1.getD k 0)), .dat (leD (held ds s0) k j p), w12, w13] := by
    conv => whnf
    refine ⟨okr, ?_⟩
    conv => whnf
    refine ⟨okr, ?_⟩
    conv => whnf
    refine br_f (by rw [strEq_self]; rfl) ?_
    exact cr8 q ys ds hD t ht k j p hk hj hp xs0 a1 a2 d2 w7 _ _ _ _ w12 w13 hq
  have el : leD (held ds s0) k j p = leD (some t) k j p := by rw [ht]
  rw [leD_some] at el
  have hle : (1000 * ((t.1.getD k 0 : Nat) : Int) ≤ (p : Int) * ((t.1.sum : Nat) : Int)) ↔ 1000 * t.1.getD k 0 ≤ p * t.1.sum := by
    rw [← Int.natCast_mul p]
    have : (1000 * ((t.1.getD k 0 : Nat) : Int)) = ((1000 * t.1.getD k 0 : Nat) : Int) := by rw [Int.natCast_mul]; rfl
    rw [this]
    exact Int.ofNat_le
  conv => whnf
  refine br_d (fun hkj => ?_) (fun hkj => ?_)
  · have hkj : k = j := Int.ofNat.inj hkj
    conv => whnf
    refine ⟨mulOkL (by decide) (by decide), ?_⟩
    conv => whnf
    refine ⟨mulOkL (by omega) (by omega), ?_⟩
    conv => whnf
    refine br_d (fun h1 => ?_) (fun h1 => ?_)
    · rw [if_pos (hle.mp h1)] at el
      rw [el] at tail ⊢
      exact tail
    · rw [if_neg (fun z => h1 (hle.mpr z)), if_pos (.inl hkj)] at el
      rw [el] at tail ⊢
      exact tail
  · have hkj : k ≠ j := fun z => hkj (by rw [z])
    conv => whnf
    refine ⟨mulOkL (by decide) (by decide), ?_⟩
    conv => whnf
    refine ⟨mulOkL (by omega) (by omega), ?_⟩
    conv => whnf
    refine br_d (fun h1 => ?_) (fun h1 => ?_)
    · rw [if_pos (hle.mp h1)] at el
      rw [el] at tail ⊢
      exact tail
    · conv => whnf
      refine br_d (fun h0 => ?_) (fun h0 => ?_)
      · rw [if_neg (fun z => h1 (hle.mpr z)), if_pos (.inr (by omega))] at el
        rw [el] at tail ⊢
        exact tail
      · rw [if_neg (fun z => h1 (hle.mpr z)), if_neg (by
          rintro (z | z)
          · exact hkj z
          · exact h0 (by rw [z]; rfl))] at el
        have e2 : leD (held ds s0) k j p = .int (-(((p : Int) * ((t.1.sum : Nat) : Int) - 1000 * ((t.1.getD k 0 : Nat) : Int)) / ((p : Int) * ((t.2 : Nat) : Int)))) := by
          rw [el]
          congr 3
          · rw [Int.natCast_mul, Int.natCast_mul, Int.neg_sub, Int.mul_comm (t.1.sum : Int), Int.mul_comm (t.1.getD k 0 : Int)]
            rfl
        conv => whnf
        refine ⟨mulOkL (by omega) (by omega), ?_⟩
        conv => whnf
        refine ⟨mulOkL (by decide) (by decide), ?_⟩
        conv => whnf
        refine ⟨mulOkL (by omega) (by omega), ?_⟩
        conv => whnf
        refine ⟨?_, ?_⟩
        · have hpu : p * t.2 < 2 ^ 10 * 2 ^ 750 := Nat.mul_lt_mul'' (by omega) b1
          rw [← Nat.pow_add] at hpu
          have hpos : 0 < p * t.2 := Nat.mul_pos (by omega) ok.pos
          exact divOk_of (n := 760) (y := ((p * t.2 : Nat) : Int)) (Int.ofNat_lt.mpr hpos) (Bd.nat hpu)
        · rw [e2] at tail ⊢
          exact tail
theorem ok__law_is_charge_right : ∀ as q, sp__law_is_charge_right as q → t__law_is_charge_right (endsD as q) (startD N__law_is_charge_right.length as) := by
  rintro _ q ⟨n, xs, ds, rfl, hP, hn, hD, hq⟩
  conv => whnf
  refine ⟨rfl, rfl, ?_⟩
  conv => whnf
  refine ⟨n, xs, 8, rfl, hP, by omega, ⟨by decide, by decide⟩, fun k ys1 hk hP1 => ?_⟩
  conv => whnf
  refine ⟨rfl, rfl, ?_⟩
  conv => whnf
  refine ⟨n + 1, ys1, 8, rfl, hP1, by omega, ⟨by decide, by decide⟩, fun j ys2 hj hP2 => ?_⟩
  conv => whnf
  refine ⟨rfl, ?_⟩
  conv => whnf
  refine ⟨sz2, ?_⟩
  conv => whnf
  refine ⟨rfl, rfl, ?_⟩
  conv => whnf
  refine ⟨n + 2, ys2, 1001, rfl, hP2, by omega, ⟨by decide, by decide⟩, fun r ys3 hr hP3 => ?_⟩
  conv => whnf
  refine ⟨show 6 ≤ sizeLine by decide, ?_⟩
  conv => whnf
  refine ⟨rfl, rfl, ?_⟩
  conv => whnf
  refine ⟨n + 3, ys3, [.int 0, .int 1, .int 250, .int 999, .int 1000, nI r], rfl, hP3, by omega, ⟨by show 0 < 6; decide, by show 6 < 1000; decide⟩, fun d ys4 hdm hP4 => ?_⟩
  obtain ⟨p, em, hp⟩ : ∃ m : Nat, d = nI m ∧ m ≤ 1000 := by
    rcases List.mem_cons.mp hdm with e | e
    · exact ⟨0, e, by decide⟩
    · rcases List.mem_cons.mp e with e | e
      · exact ⟨1, e, by decide⟩
      · rcases List.mem_cons.mp e with e | e
        · exact ⟨250, e, by decide⟩
        · rcases List.mem_cons.mp e with e | e
          · exact ⟨999, e, by decide⟩
          · rcases List.mem_cons.mp e with e | e
            · exact ⟨1000, e, by decide⟩
            · exact ⟨r, List.mem_singleton.mp e, by omega⟩
  subst em
  have hq' := hq ys4 (hP4.mono (by omega))
  conv => whnf
  refine ⟨ds, k, j, p, rfl, hD, ⟨hk, hj, hp⟩, ?_⟩
  cases ht : held ds s0 with
  | none =>
    conv => whnf
    exact hq'
  | some t =>
    obtain ⟨n', hn', ok⟩ := held_ok hD t ht
    conv => whnf
    refine ⟨rfl, ?_⟩
    conv => whnf
    refine ⟨rfl, ?_⟩
    conv => whnf
    refine optW_mk (ints_nats _) ?_
    rw [sum_nats]
    conv => whnf
    refine optW_mk (atI_nats (by rw [ok.len]; exact hk)) ?_
    conv => whnf
    refine ⟨rfl, ?_⟩
    conv => whnf
    refine ⟨sz2, ?_⟩
    have fin := cr6 q ys4 ds hD t ht k j p hk hj hp xs (.dat (dsD ds)) (.dat (heD (some t))) (.dat (heD (some t))) (.dat (.tuple (t.1.map nI))) .emp .emp .emp hq'
    rw [ht] at fin
    exact fin
end K24
set_option Elab.async false
set_option linter.all false
set_option maxRecDepth 100000
set_option maxHeartbeats 400000
namespace K24
open PySem L2 DL
open PyProof.Rows (boot_repr boot_sum boot_all boot_any boot_max boot_min boot_abs boot_int boot_list boot_tuple)
theorem cut_take {xs : List D} {n : Nat} (h : n ≤ xs.length) : cutD xs none (some ((n : Nat) : Int)) = xs.take n := by
  unfold cutD
  rw [HT.sIx_nat, HT.sIx_none, List.drop_zero, Nat.sub_zero, Nat.min_eq_left h]
theorem cut_drop {xs : List D} {n : Nat} (h : n ≤ xs.length) : cutD xs (some ((n : Nat) : Int)) none = xs.drop n := by
  unfold cutD
  rw [HT.sIx_nat, HT.sIx_none, Nat.min_eq_left h, List.take_of_length_le (by rw [List.length_drop]; exact Nat.le_refl _)]
theorem len__law_is_parted_right : ∀ as q, sp__law_is_parted_right as q → as.length = 3 := fun _ _ ⟨_, _, _, h, _⟩ => by rw [h]; rfl
/-- the rest, each deed scaled -/
theorem parted_for (E : DEnds) (v0 v1 v2 v3 v4 v5 v9 v10 v11 v12 v13 : DV) (u : Nat) (hu : u < 2 ^ 750) : ∀ (ds : List Deed) (rest : List D) (w : DV), rest.length + ds.length ≤ 1000 → (∀ d ∈ ds, d.ok) →
    (∀ w, E.nx [v0, v1, v2, v3, v4, v5, .dat (nI u), .own (rest ++ (ds.map (Deed.scale u)).map Deed.d), w, v9, v10, v11, v12, v13]) →
    forW (gdName 8) b1__law_is_parted_right E (ds.map Deed.d) [v0, v1, v2, v3, v4, v5, .dat (nI u), .own rest, w, v9, v10, v11, v12, v13]
  | [], rest, w, _, _, h => by
    have h := h w
    rw [List.map_nil, List.map_nil, List.append_nil] at h
    exact h
  | d :: ds, rest, w, hl, hd, h => by
    rw [List.map_cons]
    have ih := parted_for E v0 v1 v2 v3 v4 v5 v9 v10 v11 v12 v13 u hu ds (rest ++ [(d.scale u).d]) (.dat d.d) (by simp at hl ⊢; omega) (fun x hx => hd x (List.mem_cons_of_mem _ hx)) (by simpa using h)
    have hs : rest.length < sizeLine := by rw [sizeLine_eq]; simp at hl; omega
    have hd0 := hd d List.mem_cons_self
    cases d with
    | charge k a =>
      obtain ⟨hk, ha⟩ := hd0
      conv => whnf
      refine br_t (by rw [strEq_ne (by decide)]; rfl) ?_
      conv => whnf
      refine ⟨mulOk_of (m := 20) (n := 750) (Bd.nat (by omega)) (Bd.nat hu), ?_⟩
      conv => whnf
      refine ⟨show 1 ≤ sizeLine by decide, ?_⟩
      conv => whnf
      refine ⟨show 2 + 1 ≤ sizeLine by decide, ?_⟩
      conv => whnf
      refine ⟨hs, ?_⟩
      exact ih
    | gather a =>
      have ha : a ≤ 1000000 := hd0
      conv => whnf
      refine br_t (by rw [strEq_ne (by decide)]; rfl) ?_
      conv => whnf
      refine ⟨mulOk_of (m := 20) (n := 750) (Bd.nat (by omega)) (Bd.nat hu), ?_⟩
      conv => whnf
      refine ⟨show 1 ≤ sizeLine by decide, ?_⟩
      conv => whnf
      refine ⟨show 1 + 1 ≤ sizeLine by decide, ?_⟩
      conv => whnf
      refine ⟨hs, ?_⟩
      exact ih
    | empty =>
      conv => whnf
      refine br_f (by rw [strEq_self]; rfl) ?_
      conv => whnf
      refine ⟨hs, ?_⟩
      exact ih
def enumF (i : Nat) (xs : List D) : List D := (xs.zipIdx i).map fun p => PyData.tuple [.int (p.2 : Nat), p.1]
theorem enumF_cons (i : Nat) (x : D) (xs : List D) : enumF i (x :: xs) = .tuple [nI i, x] :: enumF (i + 1) xs := by
  unfold enumF
  rw [List.zipIdx_cons]
  rfl
/-- the charges -/
theorem parted_chs (stay : DSt → Prop) (q : List D → DSt → Prop) (v0 v1 v2 v3 v4 v5 v6 v7 v8 v9 v10 v13 : DV) (hs : ∀ τ, stay τ) : ∀ (xs : List Nat) (i : Nat) (acc : List D), q (acc ++ (chs i xs).map Deed.d) [v0, v1, v2, v3, v4, v5, v6, v7, v8, v9, v10, .emp, .emp, v13] →
    compW (gdTup 2 (gdCons (gdName 11) (gdCons (gdName 12) (gdNil)))) i1__law_is_parted_right e1__law_is_parted_right [11, 12] stay q (enumF i (xs.map nI)) acc [v0, v1, v2, v3, v4, v5, v6, v7, v8, v9, v10, .emp, .emp, v13]
  | [], i, acc, h => ⟨hs _, by simpa [chs] using h⟩
  | x :: xs, i, acc, h => by
    rw [List.map_cons, enumF_cons]
    conv => whnf
    refine ⟨hs _, ?_⟩
    conv => whnf
    refine ⟨rfl, ?_⟩
    conv => whnf
    refine ⟨rfl, ?_⟩
    conv => whnf
    refine br_d (fun h0 => ?_) (fun h0 => ?_)
    · conv => whnf
      refine ⟨sz3, ?_⟩
      have ih := parted_chs stay q v0 v1 v2 v3 v4 v5 v6 v7 v8 v9 v10 v13 hs xs (i + 1) (acc ++ [(Deed.charge i x).d]) (by
        rw [chs, if_pos (by omega)] at h
        simpa using h)
      exact ih
    · have ih := parted_chs stay q v0 v1 v2 v3 v4 v5 v6 v7 v8 v9 v10 v13 hs xs (i + 1) acc (by
        rw [chs, if_neg (by omega)] at h
        exact h)
      exact ih
def badD : Deed → Bool
  | .charge _ a => decide (10 ^ Int.toNat 6 < ((a : Nat) : Int))
  | .gather a => decide (10 ^ Int.toNat 6 < ((a : Nat) : Int))
  | .empty => false
theorem parted_any (stay : DSt → Prop) (q : List D → DSt → Prop) (v0 v1 v2 v3 v4 v5 v6 v7 v9 v10 v11 v12 v13 : DV) (hs : ∀ τ, stay τ) : ∀ (ds : List Deed) (acc : List D), q (acc ++ (ds.map badD).map PyData.bool) [v0, v1, v2, v3, v4, v5, v6, v7, .emp, v9, v10, v11, v12, v13] →
    compW (gdName 8) dYes e2__law_is_parted_right [8] stay q (ds.map Deed.d) acc [v0, v1, v2, v3, v4, v5, v6, v7, .emp, v9, v10, v11, v12, v13]
  | [], acc, h => ⟨hs _, by simpa using h⟩
  | d :: ds, acc, h => by
    rw [List.map_cons]
    have ih := parted_any stay q v0 v1 v2 v3 v4 v5 v6 v7 v9 v10 v11 v12 v13 hs ds (acc ++ [.bool (badD d)]) (by simpa using h)
    cases d with
    | charge k a =>
      conv => whnf
      refine ⟨hs _, ?_⟩
      conv => whnf
      refine br_t (by rw [strEq_ne (by decide)]; rfl) ?_
      conv => whnf
      refine ⟨by unfold powOk; decide +kernel, ?_⟩
      exact ih
    | gather a =>
      conv => whnf
      refine ⟨hs _, ?_⟩
      conv => whnf
      refine br_t (by rw [strEq_ne (by decide)]; rfl) ?_
      conv => whnf
      refine ⟨by unfold powOk; decide +kernel, ?_⟩
      exact ih
    | empty =>
      conv => whnf
      refine ⟨hs _, ?_⟩
      conv => whnf
      refine br_f (by rw [strEq_self]; rfl) ?_
      exact ih
/-- amount by amount -/
theorem parted_zip (stay : DSt → Prop) (q : List D → DSt → Prop) (v0 v1 v3 v4 v5 v7 v8 v9 v11 : DV) (s t : S8) (c : Nat) (hs : ∀ τ, stay τ) (hsu : s.2 < 2 ^ 750) (htu : t.2 < 2 ^ 750) (hc : c < 2 ^ 750) :
    ∀ (xs ys : List Nat) (acc : List D), xs.length = ys.length → (∀ x ∈ xs, x < 2 ^ 775) → (∀ y ∈ ys, y < 2 ^ 775) → xs.map (· * t.2) = ys.map (· * (s.2 * c)) → q (acc ++ xs.map fun _ => .bool true) [v0, v1, .dat (sD t), v3, v4, v5, .dat (nI c), v7, v8, v9, .dat (sD s), v11, .emp, .emp] →
    compW (gdTup 2 (gdCons (gdName 12) (gdCons (gdName 13) (gdNil)))) dYes e3__law_is_parted_right [12, 13] stay q (zipD (xs.map nI) (ys.map nI)) acc [v0, v1, .dat (sD t), v3, v4, v5, .dat (nI c), v7, v8, v9, .dat (sD s), v11, .emp, .emp]
  | [], [], acc, _, _, _, _, h => ⟨hs _, by simpa using h⟩
  | [], _ :: _, _, hl, _, _, _, _ => by simp at hl
  | _ :: _, [], _, hl, _, _, _, _ => by simp at hl
  | x :: xs, y :: ys, acc, hl, hx, hy, he, h => by
    rw [List.map_cons, List.map_cons] at he
    injection he with e1 e2
    have ih := parted_zip stay q v0 v1 v3 v4 v5 v7 v8 v9 v11 s t c hs hsu htu hc xs ys (acc ++ [.bool true]) (by simpa using hl) (fun z hz => hx z (List.mem_cons_of_mem _ hz)) (fun z hz => hy z (List.mem_cons_of_mem _ hz)) e2 (by simpa using h)
    have hx0 := hx x List.mem_cons_self
    have hy0 := hy y List.mem_cons_self
    have ez : zipD ((x :: xs).map nI) ((y :: ys).map nI) = .tuple [nI x, nI y] :: zipD (xs.map nI) (ys.map nI) := rfl
    rw [ez]
    conv => whnf
    refine ⟨hs _, ?_⟩
    conv => whnf
    refine ⟨rfl, ?_⟩
    conv => whnf
    refine ⟨rfl, ?_⟩
    conv => whnf
    refine ⟨mulOk_of (m := 775) (n := 750) (Bd.nat hx0) (Bd.nat htu), ?_⟩
    conv => whnf
    refine ⟨mulOk_of (m := 775) (n := 750) (Bd.nat hy0) (Bd.nat hsu), ?_⟩
    conv => whnf
    refine ⟨mulOk_of (m := 1525) (n := 750) (Bd.mul (m := 775) (n := 750) (Bd.nat hy0) (Bd.nat hsu)) (Bd.nat hc), ?_⟩
    have eq : ((x : Nat) : Int) * ((t.2 : Nat) : Int) = ((y : Nat) : Int) * ((s.2 : Nat) : Int) * ((c : Nat) : Int) := by
      have e1 : x * t.2 = y * (s.2 * c) := e1
      rw [← Int.natCast_mul, e1, ← Nat.mul_assoc, Int.natCast_mul, Int.natCast_mul]
    have ed : decide (((x : Nat) : Int) * ((t.2 : Nat) : Int) = ((y : Nat) : Int) * ((s.2 : Nat) : Int) * ((c : Nat) : Int)) = true := decide_eq_true eq
    rw [← ed] at ih
    exact ih
end K24
set_option Elab.async false
set_option linter.all false
set_option maxRecDepth 100000
set_option maxHeartbeats 400000
namespace K24
open PySem L2 DL
open PyProof.Rows (boot_repr boot_sum boot_all boot_any boot_max boot_min boot_abs boot_int boot_list boot_tuple)
theorem chs_ok : ∀ (xs : List Nat) (i : Nat), i + xs.length ≤ 8 → (∀ d ∈ chs i xs, badD d = false) → ∀ d ∈ chs i xs, d.ok
  | [], _, _, _, _, hd => nomatch hd
  | x :: xs, i, hi, hb, d, hd => by
    unfold chs at hb hd
    simp only [List.length_cons] at hi
    by_cases h : 0 < x
    · rw [if_pos h] at hb hd
      rcases List.mem_cons.mp hd with rfl | hd
      · have := hb _ List.mem_cons_self
        have e6 : (10 : Int) ^ Int.toNat 6 = 1000000 := by decide
        have h2 : ¬ (10 ^ Int.toNat 6 < ((x : Nat) : Int)) := of_decide_eq_false this
        rw [e6] at h2
        exact ⟨by omega, by omega⟩
      · exact chs_ok xs (i + 1) (by omega) (fun d hd => hb d (List.mem_cons_of_mem _ hd)) d hd
    · rw [if_neg h] at hb hd
      exact chs_ok xs (i + 1) (by omega) hb d hd
theorem scale_ok {u : Nat} {d : Deed} (hd : d.ok) (hb : badD (d.scale u) = false) : (d.scale u).ok := by
  have e6 : (10 : Int) ^ Int.toNat 6 = 1000000 := by decide
  cases d with
  | charge k a =>
    have h2 : ¬ (10 ^ Int.toNat 6 < ((a * u : Nat) : Int)) := of_decide_eq_false hb
    rw [e6] at h2
    exact ⟨hd.1, by omega⟩
  | gather a =>
    have h2 : ¬ (10 ^ Int.toNat 6 < ((a * u : Nat) : Int)) := of_decide_eq_false hb
    rw [e6] at h2
    show a * u ≤ 1000000
    omega
  | empty => trivial
theorem deeds_take {ds : List Deed} (h : Deeds ds) (n : Nat) : Deeds (ds.take n) := ⟨by rw [List.length_take]; have := h.1; omega, fun d hd => h.2 d (List.mem_of_mem_take hd)⟩
theorem ok__law_is_parted_right : ∀ as q, sp__law_is_parted_right as q → t__law_is_parted_right (endsD as q) (startD N__law_is_parted_right.length as) := by
  rintro _ q ⟨n, xs, ds, rfl, hP, hn, hD, hq⟩
  have hl30 := hD.1
  conv => whnf
  refine ⟨rfl, rfl, ?_⟩
  conv => whnf
  refine ⟨n, xs, ds.length + 1, by rw [List.length_map]; rfl, hP, by omega, ⟨by omega, by omega⟩, fun cut ys hcut hP1 => ?_⟩
  have hq' := hq ys (hP1.mono (by omega))
  have hcl : cut ≤ ds.length := by omega
  have hcl' : cut ≤ (ds.map Deed.d).length := by rw [List.length_map]; exact hcl
  have ect : cutD (ds.map Deed.d) none (some ((cut : Nat) : Int)) = (ds.take cut).map Deed.d := by rw [cut_take hcl', List.map_take]
  have D1 := deeds_take hD cut
  conv => whnf
  refine ⟨ds.take cut, by rw [ect]; rfl, D1, ?_⟩
  conv => whnf
  refine ⟨ds.take cut, by rw [ect]; rfl, D1, ?_⟩
  conv => whnf
  refine ⟨repr_held D1, ?_⟩
  conv => whnf
  refine ⟨repr_held D1, ?_⟩
  conv => whnf
  refine br_f (by rw [strEq_self]; rfl) ?_
  have esplit : held ds s0 = match held (ds.take cut) s0 with
      | none => none
      | some t => held (ds.drop cut) t := by
    conv => lhs; rw [← List.take_append_drop cut ds]
    exact held_app _ _ _
  cases ef : held (ds.take cut) s0 with
  | none =>
    rw [ef] at esplit
    have esplit : held ds s0 = none := esplit
    rw [esplit]
    conv => whnf
    exact hq'
  | some t =>
    rw [ef] at esplit
    have esplit : held ds s0 = held (ds.drop cut) t := esplit
    obtain ⟨nt, hnt, okt⟩ := held_ok D1 t ef
    obtain ⟨b1, b2⟩ := big okt hnt
    conv => whnf
    refine ⟨rfl, ?_⟩
    conv => whnf
    refine ⟨rfl, ?_⟩
    conv => whnf
    refine ⟨Nat.zero_le _, ?_⟩
    have ecd : cutD (ds.map Deed.d) (some ((cut : Nat) : Int)) none = (ds.drop cut).map Deed.d := by rw [cut_drop hcl', List.map_drop]
    conv => whnf
    show forW (gdName 8) b1__law_is_parted_right _ (cutD (ds.map Deed.d) (some ((cut : Nat) : Int)) none) _
    rw [ecd]
    refine parted_for _ _ _ _ _ _ _ _ _ _ _ _ t.2 b1 (ds.drop cut) [] _ (by rw [List.length_drop]; simp; omega) (fun d hd => hD.2 d (List.mem_of_mem_drop hd)) fun w => ?_
    have hchl : ∀ (xs : List Nat) (i : Nat), (chs i xs).length ≤ xs.length := fun xs => by
      induction xs with
      | nil => intro i; exact Nat.le_refl _
      | cons x xs ih =>
        intro i
        unfold chs
        split
        · rw [List.length_cons, List.length_cons]; have := ih (i + 1); omega
        · rw [List.length_cons]; have := ih (i + 1); omega
    conv => whnf
    refine ⟨by show (enumD (t.1.map nI)).length ≤ sizeLine; rw [enumD_len, List.length_map, okt.len]; decide, ?_⟩
    refine parted_chs _ _ _ _ _ _ _ _ _ _ _ _ _ _ (fun _ => trivial) t.1 0 [] ?_
    conv => whnf
    have hsz : ((chs 0 t.1).map Deed.d).length + (((ds.drop cut).map (Deed.scale t.2)).map Deed.d).length ≤ 1000 := by
      rw [List.length_map, List.length_map, List.length_map, List.length_drop]
      have := hchl t.1 0
      rw [okt.len] at this
      omega
    refine ⟨szc (by simpa using hsz), ?_⟩
    conv => whnf
    -- what is made
    have hM : ∀ made, made = chs 0 t.1 ++ (ds.drop cut).map (Deed.scale t.2) → r8__law_is_parted_right (endsD [.io xs, .dat (dsD ds), .dat (heD (held ds s0))] q) [.io ys, .dat (dsD ds), .dat (heD (held ds s0)), .dat (nI cut), .dat (heD (some t)), .dat (.tuple (t.1.map nI)), .dat (nI t.2), .own (((ds.drop cut).map (Deed.scale t.2)).map Deed.d), w, .dat (dsD made), .emp, .emp, .emp, .emp] := fun made em => by
      have ml : made.length ≤ 1000 := by
        rw [em, List.length_append]
        rw [List.length_map, List.length_map] at hsz
        exact hsz
      conv => whnf
      refine br_d (fun h30 => ?_) (fun h30 => ?_)
      · exact hq'
      · have h30' : made.length ≤ 30 := by
          rw [List.length_map] at h30
          omega
        conv => whnf
        refine ⟨by rw [List.length_map, sizeLine_eq]; omega, ?_⟩
        refine parted_any _ _ _ _ _ _ _ _ _ _ _ _ _ _ _ (fun _ => trivial) made [] ?_
        conv => whnf
        refine optW_mk (by rw [List.nil_append]; exact boolsOf_map _) ?_
        conv => whnf
        cases eb : (made.map badD).any id with
        | true =>
          conv => whnf
          exact hq'
        | false =>
          have hbad : ∀ d ∈ made, badD d = false := fun d hd => by
            have := List.any_eq_false.mp eb (badD d) (List.mem_map_of_mem hd)
            simpa using this
          have DM : Deeds made := ⟨h30', fun d hd => by
            rw [em] at hd
            rcases List.mem_append.mp hd with h | h
            · exact chs_ok t.1 0 (by rw [okt.len]; decide) (fun d hd => hbad d (by rw [em]; exact List.mem_append_left _ hd)) d h
            · obtain ⟨d', hd', rfl⟩ := List.mem_map.mp h
              exact scale_ok (hD.2 d' (List.mem_of_mem_drop hd')) (hbad _ (by rw [em]; exact List.mem_append_right _ h))⟩
          have hheld : held made s0 = held ((ds.drop cut).map (Deed.scale t.2)) (t.1, 1) := by
            rw [em, held_app, held_chs0 okt.len]
          conv => whnf
          refine ⟨made, rfl, DM, ?_⟩
          have hsc : Sc t.2 (t.1, 1) t := by show t.1.map (· * t.2) = t.1.map (· * (1 * t.2)); rw [Nat.one_mul]
          rcases scl_held (ds.drop cut) hsc Nat.one_pos okt.pos okt.pos with ⟨e1, e2⟩ | ⟨s', t', e1, e2, hS⟩
          · rw [hheld, e1, esplit, e2]
            conv => whnf
            exact hq'
          · have em2 : held made s0 = some s' := hheld.trans e1
            have ed2 : held ds s0 = some t' := esplit.trans e2
            obtain ⟨n1, hn1, ok1⟩ := held_ok DM s' em2
            obtain ⟨n2, hn2, ok2⟩ := held_ok hD t' ed2
            obtain ⟨c1, c2⟩ := big ok1 hn1
            obtain ⟨c3, c4⟩ := big ok2 hn2
            rw [em2, ed2]
            conv => whnf
            refine ⟨by show (zipD (s'.1.map nI) (t'.1.map nI)).length ≤ sizeLine; rw [zipD_len, List.length_map, List.length_map, ok1.len, ok2.len]; decide, ?_⟩
            refine parted_zip _ _ _ _ _ _ _ _ _ _ _ s' t' t.2 (fun _ => ⟨trivial, trivial⟩) c1 c3 b1 s'.1 t'.1 [] (by rw [ok1.len, ok2.len]) (fun x hx => Nat.lt_of_le_of_lt (le_sum _ _ hx) c2) (fun x hx => Nat.lt_of_le_of_lt (le_sum _ _ hx) c4) hS ?_
            have eB : boolsOf ([] ++ s'.1.map fun _ => (.bool true : D)) = some (s'.1.map fun _ => true) := by
              have := boolsOf_map (s'.1.map fun _ => true)
              rw [List.map_map] at this
              exact this
            conv => whnf
            refine optW_mk eB ?_
            have eA : (s'.1.map fun _ => true).all id = true := by simp
            conv => whnf
            rw [eA]
            exact hq'
    have hm := hM _ rfl
    have e9 : dsD (chs 0 t.1 ++ (ds.drop cut).map (Deed.scale t.2)) = .tuple ([] ++ (chs 0 t.1).map Deed.d ++ ([] ++ ((ds.drop cut).map (Deed.scale t.2)).map Deed.d)) := by rw [dsD_snoc, List.nil_append, List.nil_append]
    rw [e9] at hm
    exact hm
end K24
set_option Elab.async false
set_option linter.all false
set_option maxRecDepth 100000
set_option maxHeartbeats 400000
namespace K24
open PySem L2 DL
open PyProof.Rows (boot_repr boot_sum boot_all boot_any boot_max boot_min boot_abs boot_int boot_list boot_tuple)
theorem len__law_are_others_right : ∀ as q, sp__law_are_others_right as q → as.length = 3 := fun _ _ ⟨_, _, _, h, _⟩ => by rw [h]; rfl
def toNatD : D → Nat
  | .int i => i.toNat
  | _ => 0
theorem range_nats (n : Nat) : rangeD 0 n = (List.range n).map nI := by
  unfold rangeD
  exact List.map_congr_left fun i _ => by show PyData.int _ = PyData.int _; rw [Int.zero_add]
theorem perm_nats {es : List D} {n : Nat} (h : es.Perm (rangeD 0 n)) : ∃ nm : List Nat, es = nm.map nI ∧ nm.Perm (List.range n) := by
  rw [range_nats] at h
  refine ⟨es.map toNatD, ?_, ?_⟩
  · rw [List.map_map]
    conv => lhs; rw [← List.map_id es]
    refine List.map_congr_left fun d hd => ?_
    obtain ⟨k, _, rfl⟩ := List.mem_map.mp (h.mem_iff.mp hd)
    rfl
  · have := h.map toNatD
    rw [List.map_map] at this
    have e : (List.range n).map (toNatD ∘ nI) = List.range n := by
      conv => rhs; rw [← List.map_id (List.range n)]
      exact List.map_congr_left fun k _ => rfl
    rw [e] at this
    exact this
theorem names_comp (stay : DSt → Prop) (q : List D → DSt → Prop) (v0 v1 v2 v3 v4 v5 v6 v8 v9 : DV) (hs : ∀ τ, stay τ) : ∀ (nm : List Nat) (acc : List D), q (acc ++ nm.map nI) [v0, v1, v2, v3, v4, v5, v6, .emp, v8, v9] →
    compW (gdName 7) dYes e1__law_are_others_right [7] stay q (nm.map nI) acc [v0, v1, v2, v3, v4, v5, v6, .emp, v8, v9]
  | [], acc, h => ⟨hs _, by simpa using h⟩
  | x :: xs, acc, h => by
    rw [List.map_cons]
    conv => whnf
    refine ⟨hs _, ?_⟩
    exact names_comp stay q v0 v1 v2 v3 v4 v5 v6 v8 v9 hs xs (acc ++ [nI x]) (by simpa using h)
theorem ren_comp (stay : DSt → Prop) (q : List D → DSt → Prop) (v0 v1 v2 v4 v5 v6 v7 v9 : DV) (nm : List Nat) (hn : nm.length = 8) (hs : ∀ τ, stay τ) : ∀ (ds : List Deed) (acc : List D), (∀ d ∈ ds, d.ok) → q (acc ++ (ds.map (Deed.ren nm)).map Deed.d) [v0, v1, v2, .own (nm.map nI), v4, v5, v6, v7, .emp, v9] →
    compW (gdName 8) dYes e2__law_are_others_right [8] stay q (ds.map Deed.d) acc [v0, v1, v2, .own (nm.map nI), v4, v5, v6, v7, .emp, v9]
  | [], acc, _, h => ⟨hs _, by simpa using h⟩
  | d :: ds, acc, hd, h => by
    rw [List.map_cons]
    have ih := ren_comp stay q v0 v1 v2 v4 v5 v6 v7 v9 nm hn hs ds (acc ++ [(d.ren nm).d]) (fun x hx => hd x (List.mem_cons_of_mem _ hx)) (by simpa using h)
    have hd0 := hd d List.mem_cons_self
    cases d with
    | charge k a =>
      conv => whnf
      refine ⟨hs _, ?_⟩
      conv => whnf
      refine br_t (strEq_self _) ?_
      conv => whnf
      refine optW_mk (atI_nats (by rw [hn]; exact hd0.1)) ?_
      conv => whnf
      refine ⟨sz3, ?_⟩
      exact ih
    | gather a =>
      conv => whnf
      refine ⟨hs _, ?_⟩
      conv => whnf
      refine br_f (strEq_ne (by decide)) ?_
      exact ih
    | empty =>
      conv => whnf
      refine ⟨hs _, ?_⟩
      conv => whnf
      refine br_f (strEq_ne (by decide)) ?_
      exact ih
theorem any_comp (stay : DSt → Prop) (q : List D → DSt → Prop) (v0 v1 v2 v4 v6 v8 : DV) (nm : List Nat) (hn : nm.length = 8) (s : S8) (hl : s.1.length = 8) (hlt : ∀ k, k < 8 → nm.getD k 0 < 8) (hs : ∀ τ, stay τ) : ∀ (ys : List Nat) (i : Nat) (acc : List D), i + ys.length ≤ 8 → (∀ j, j < ys.length → s.1.getD (nm.getD (i + j) 0) 0 = ys.getD j 0) →
    q (acc ++ ys.map fun _ => .bool false) [v0, v1, v2, .own (nm.map nI), v4, .dat (sD s), v6, .emp, v8, .emp] →
    compW (gdTup 2 (gdCons (gdName 7) (gdCons (gdName 9) (gdNil)))) dYes e3__law_are_others_right [7, 9] stay q (enumF i (ys.map nI)) acc [v0, v1, v2, .own (nm.map nI), v4, .dat (sD s), v6, .emp, v8, .emp]
  | [], i, acc, _, _, h => ⟨hs _, by simpa using h⟩
  | y :: ys, i, acc, hi, hy, h => by
    rw [List.map_cons, enumF_cons]
    rw [List.length_cons] at hi
    have ih := any_comp stay q v0 v1 v2 v4 v6 v8 nm hn s hl hlt hs ys (i + 1) (acc ++ [.bool false]) (by omega) (fun j hj => by
      have := hy (j + 1) (by rw [List.length_cons]; omega)
      rw [List.getD_cons_succ] at this
      have e : i + 1 + j = i + (j + 1) := by omega
      rw [e]
      exact this) (by simpa using h)
    have e0 : s.1.getD (nm.getD i 0) 0 = y := hy 0 (by simp)
    conv => whnf
    refine ⟨hs _, ?_⟩
    conv => whnf
    refine ⟨rfl, ?_⟩
    conv => whnf
    refine ⟨rfl, ?_⟩
    conv => whnf
    refine optW_mk (atI_nats (by rw [hn]; omega)) ?_
    conv => whnf
    refine optW_mk (atI_nats (by rw [hl]; exact hlt i (by omega))) ?_
    rw [e0]
    have ed : (!decide (((y : Nat) : Int) = ((y : Nat) : Int))) = false := by simp
    rw [← ed] at ih
    exact ih
theorem repr_lit : heD (some ([0, 0, 0, 7, 0, 0, 0, 0], 1)) = .tuple [.tuple [.int 0, .int 0, .int 0, .int 7, .int 0, .int 0, .int 0, .int 0], .int 1] := rfl
theorem not_same {a b : D} (h : a = b) : (!strEq (reprS a) (reprS b)) = false := by rw [h, strEq_self]; rfl
/-- nothing left, all gathered -/
theorem or5 (q : EV → List D → Prop) (ys : List D) (ds : List Deed) (hD : Deeds ds) (t : S8) (ht : held ds s0 = some t) (xs0 : List D) (a1 a2 : DL.Arg) (w3 w4 w5 w6 w7 w8 w9 : DV)
    (hq : q (.dat (.bool true)) ys) : r5__law_are_others_right (endsD [.io xs0, a1, a2] q) [.io ys, .dat (dsD ds), .dat (sD t), w3, w4, w5, w6, w7, w8, w9] := by
  obtain ⟨n, hn, ok⟩ := held_ok hD t ht
  obtain ⟨b1, b2⟩ := big ok hn
  obtain ⟨T, hT, hsum⟩ := ok.sum
  have upos : (0 : Int) < ((t.2 : Nat) : Int) := Int.ofNat_lt.mpr ok.pos
  have ediv : ((t.1.sum : Nat) : Int) / ((t.2 : Nat) : Int) = ((T : Nat) : Int) := by
    rw [hsum, Int.natCast_mul]
    exact Int.mul_ediv_cancel _ (by omega)
  have udiv : divOk ((t.2 : Nat) : Int) := divOk_of (n := 750) upos (Bd.nat b1)
  have e6 : (10 : Int) ^ Int.toNat 6 = 1000000 := by decide
  conv => whnf
  refine br_d (fun h29 => ?_) (fun h29 => ?_)
  · have hl : ds.length < 29 := by
      rw [List.length_map] at h29
      omega
    have sz : ∀ k, k ≤ 2 → (ds.map Deed.d).length + k ≤ sizeLine := fun k hk => szc (by rw [List.length_map]; omega)
    have D1 : Deeds (ds ++ [.empty, .charge 3 7]) := deeds_snoc hD (by simp; omega) fun d hd => by
      rcases List.mem_cons.mp hd with rfl | hd
      · trivial
      · rw [List.mem_singleton.mp hd]; exact ⟨by decide, by decide⟩
    have h1 : held (ds ++ [.empty, .charge 3 7]) s0 = some ([0, 0, 0, 7, 0, 0, 0, 0], 1) := by rw [held_snoc ht]; exact empty_charge t
    have r1 := repr_held D1
    rw [h1] at r1
    conv => whnf
    refine ⟨show 1 ≤ sizeLine by decide, ?_⟩
    conv => whnf
    refine ⟨sz3, ?_⟩
    conv => whnf
    refine ⟨sz2, ?_⟩
    conv => whnf
    refine ⟨sz 2 (Nat.le_refl _), ?_⟩
    conv => whnf
    refine ⟨ds ++ [.empty, .charge 3 7], by rw [dsD_snoc]; rfl, D1, ?_⟩
    rw [h1]
    conv => whnf
    refine ⟨r1, ?_⟩
    conv => whnf
    refine ⟨show 8 ≤ sizeLine by decide, ?_⟩
    conv => whnf
    refine ⟨sz2, ?_⟩
    conv => whnf
    refine ⟨r1, ?_⟩
    conv => whnf
    refine br_f (not_same repr_lit) ?_
    conv => whnf
    refine optW_mk (ints_nats _) ?_
    rw [sum_nats]
    conv => whnf
    refine ⟨upos, ?_⟩
    conv => whnf
    refine br_d (fun hm => ?_) (fun hm => ?_)
    · conv => whnf
      refine optW_mk (ints_nats _) ?_
      rw [sum_nats]
      conv => whnf
      refine ⟨udiv, ?_⟩
      rw [ediv]
      conv => whnf
      refine ⟨by unfold powOk; decide +kernel, ?_⟩
      conv => whnf
      refine br_d (fun h6 => ?_) (fun h6 => ?_)
      · have hT6 : T + 1 ≤ 1000000 := by
          have : ((T : Nat) : Int) ≤ 10 ^ Int.toNat 6 - 1 := h6
          rw [e6] at this
          omega
        conv => whnf
        refine optW_mk (ints_nats _) ?_
        rw [sum_nats]
        conv => whnf
        refine ⟨udiv, ?_⟩
        rw [ediv]
        have D2 : Deeds (ds ++ [.gather T]) := deeds_snoc hD (by simp; omega) fun d hd => by
          rw [List.mem_singleton.mp hd]; show T ≤ 1000000; omega
        have D3 : Deeds (ds ++ [.gather (T + 1)]) := deeds_snoc hD (by simp; omega) fun d hd => by
          rw [List.mem_singleton.mp hd]; exact hT6
        have h2 : held (ds ++ [.gather T]) s0 = some (List.replicate 8 0, 1) := by rw [held_snoc ht]; exact gather_all ok.len ok.pos hsum
        have h3 : held (ds ++ [.gather (T + 1)]) s0 = none := by rw [held_snoc ht]; exact gather_more ok.pos hsum
        have r2 := repr_held D2
        rw [h2] at r2
        conv => whnf
        refine ⟨sz2, ?_⟩
        conv => whnf
        refine ⟨show 1 ≤ sizeLine by decide, ?_⟩
        conv => whnf
        refine ⟨sz 1 (by decide), ?_⟩
        conv => whnf
        refine ⟨ds ++ [.gather T], by rw [dsD_snoc]; rfl, D2, ?_⟩
        rw [h2]
        conv => whnf
        refine ⟨r2, ?_⟩
        conv => whnf
        refine ⟨show 1 ≤ sizeLine by decide, ?_⟩
        conv => whnf
        refine ⟨⟨by simp, by decide, by decide, by show 1 ≤ 1000; decide⟩, ?_⟩
        conv => whnf
        refine ⟨sz2, ?_⟩
        conv => whnf
        refine ⟨r2, ?_⟩
        conv => whnf
        have e8 : heD (some (List.replicate 8 0, 1)) = .tuple [.tuple (List.replicate (Int.toNat 8) [PyData.int 0]).flatten, .int 1] := rfl
        refine br_f (not_same e8) ?_
        conv => whnf
        refine ⟨sz2, ?_⟩
        conv => whnf
        refine ⟨show 1 ≤ sizeLine by decide, ?_⟩
        conv => whnf
        refine ⟨sz 1 (by decide), ?_⟩
        conv => whnf
        refine ⟨ds ++ [.gather (T + 1)], by rw [dsD_snoc]; rfl, D3, ?_⟩
        rw [h3]
        exact hq
      · exact hq
    · exact hq
  · exact hq
theorem ren_deeds {nm : List Nat} {ds : List Deed} (hD : Deeds ds) (hlt : ∀ k, k < 8 → nm.getD k 0 < 8) : Deeds (ds.map (Deed.ren nm)) := ⟨by rw [List.length_map]; exact hD.1, fun d hd => by
  obtain ⟨d', hd', rfl⟩ := List.mem_map.mp hd
  have h := hD.2 d' hd'
  cases d' with
  | charge k a => exact ⟨hlt k h.1, h.2⟩
  | gather a => exact h
  | empty => trivial⟩
theorem ok__law_are_others_right : ∀ as q, sp__law_are_others_right as q → t__law_are_others_right (endsD as q) (startD N__law_are_others_right.length as) := by
  rintro _ q ⟨n, xs, ds, rfl, hP, hn, hD, hq⟩
  have hl30 := hD.1
  conv => whnf
  refine ⟨⟨by decide, by decide, by decide, by decide, by decide⟩, ?_⟩
  conv => whnf
  refine ⟨rfl, rfl, ?_⟩
  conv => whnf
  refine ⟨n, xs, rangeD 0 (8 - 0 : Int).toNat, 8, rfl, hP, by omega, ⟨by rw [rangeD_len]; decide, by rw [rangeD_len]; decide⟩, fun es ys hperm hP1 => ?_⟩
  have hq' := hq ys (hP1.mono (by omega))
  have e8 : (8 - 0 : Int).toNat = 8 := by decide
  rw [e8] at hperm
  obtain ⟨nm, rfl, hp⟩ := perm_nats hperm
  have hnl : nm.length = 8 := by have := hp.length_eq; simpa using this
  have hlt : ∀ k, k < 8 → nm.getD k 0 < 8 := fun k hk => nm_lt hnl hp hk
  conv => whnf
  refine ⟨by rw [List.length_map, hnl]; decide, ?_⟩
  refine names_comp _ _ _ _ _ _ _ _ _ _ _ (fun _ => trivial) nm [] ?_
  conv => whnf
  refine ⟨szc (by show (ds.map Deed.d).length ≤ 1000; rw [List.length_map]; omega), ?_⟩
  have e0 : [] ++ nm.map nI = nm.map nI := rfl
  refine ren_comp _ _ _ _ _ _ _ _ _ _ nm hnl (fun _ => trivial) ds [] hD.2 ?_
  have DM := ren_deeds hD hlt
  conv => whnf
  refine ⟨ds.map (Deed.ren nm), rfl, DM, ?_⟩
  rcases re_held ds (re0 (nm := nm)) hnl hp hD.2 with ⟨e1, e2⟩ | ⟨s, t, e1, e2, hR⟩
  · rw [e1, e2]
    exact hq'
  · rw [e1, e2]
    conv => whnf
    refine br_f (by rw [hR.u]; simp) ?_
    conv => whnf
    refine ⟨by show (enumD (t.1.map nI)).length ≤ sizeLine; rw [enumD_len, List.length_map, hR.lt]; decide, ?_⟩
    refine any_comp _ _ _ _ _ _ _ _ nm hnl s hR.ls hlt (fun _ => trivial) t.1 0 [] (by rw [hR.lt]; decide) (fun j hj => ?_) ?_
    · rw [Nat.zero_add]
      exact hR.at_ j (by rw [hR.lt] at hj; exact hj)
    · have eB : boolsOf ([] ++ t.1.map fun _ => (.bool false : D)) = some (t.1.map fun _ => false) := by
        have := boolsOf_map (t.1.map fun _ => false)
        rw [List.map_map] at this
        exact this
      conv => whnf
      refine optW_mk eB ?_
      have eA : (t.1.map fun _ => false).any id = false := by simp
      conv => whnf
      refine br_f eA ?_
      exact or5 q ys ds hD t e2 xs _ _ _ _ _ _ _ _ _ hq'
end K24
set_option Elab.async false
set_option linter.all false
set_option maxRecDepth 100000
set_option maxHeartbeats 400000
namespace K24
open PySem L2 DL
open PyProof.Rows (boot_repr boot_sum boot_all boot_any boot_max boot_min boot_abs boot_int boot_list boot_tuple)
theorem len__law_right : ∀ as q, sp__law_right as q → as.length = 1 := fun _ _ ⟨_, _, h, _⟩ => by rw [h]; rfl
theorem cut_take' {xs : List D} {n : Nat} : cutD xs none (some ((n : Nat) : Int)) = xs.take n := by
  unfold cutD
  rw [HT.sIx_nat, HT.sIx_none, List.drop_zero, Nat.sub_zero]
  by_cases h : n ≤ xs.length
  · rw [Nat.min_eq_left h]
  · rw [Nat.min_eq_right (by omega), List.take_of_length_le (Nat.le_refl _), List.take_of_length_le (by omega)]
theorem ok__law_right : ∀ as q, sp__law_right as q → t__law_right (endsD as q) (startD N__law_right.length as) := by
  rintro _ q ⟨n, xs, rfl, hP, hn, hq⟩
  conv => whnf
  refine ⟨sz2, ?_⟩
  conv => whnf
  refine ⟨rfl, rfl, ?_⟩
  conv => whnf
  refine ⟨n, xs, [.int 8, .int 30], rfl, hP, by omega, ⟨by show 0 < 2; decide, by show 2 < 1000; decide⟩, fun d ys hdm hP1 => ?_⟩
  obtain ⟨m, em, hm⟩ : ∃ m : Nat, d = nI m ∧ m ≤ 30 := by
    rcases List.mem_cons.mp hdm with e | e
    · exact ⟨8, e, by decide⟩
    · exact ⟨30, List.mem_singleton.mp e, by decide⟩
  subst em
  conv => whnf
  refine ⟨rfl, rfl, ?_⟩
  conv => whnf
  refine ⟨n + 1, ys, m, rfl, hP1, by omega, hm, fun ds zs hD hP2 => ?_⟩
  have ro := repr_held hD
  conv => whnf
  refine ⟨ds, rfl, hD, ?_⟩
  conv => whnf
  refine ⟨ds, rfl, hD, ?_⟩
  conv => whnf
  refine ⟨ro, ?_⟩
  conv => whnf
  refine ⟨ro, ?_⟩
  conv => whnf
  refine br_f (not_same rfl) ?_
  conv => whnf
  refine ⟨rfl, rfl, ?_⟩
  conv => whnf
  refine ⟨n + 201, zs, ds, rfl, hP2.mono (by omega), by omega, hD, fun us hP3 => ?_⟩
  conv => whnf
  refine ⟨rfl, rfl, ?_⟩
  conv => whnf
  refine ⟨n + 221, us, ds, rfl, hP3.mono (by omega), by omega, hD, fun us2 hP4 => ?_⟩
  conv => whnf
  refine ⟨rfl, rfl, ?_⟩
  conv => whnf
  refine ⟨n + 241, us2, ds, rfl, hP4.mono (by omega), by omega, hD, fun us3 hP5 => ?_⟩
  have DM : Deeds (ds.take 29 ++ [.gather 1000000]) := deeds_snoc (deeds_take hD 29) (by rw [List.length_take]; simp; omega) fun d hd => by
    rw [List.mem_singleton.mp hd]; exact Nat.le_refl _
  have rm := repr_held DM
  have ed : (PyData.tuple (cutD (ds.map Deed.d) none (some 29) ++ [PyData.tuple [.str "gather", .int (10 ^ Int.toNat 6)]]) : D) = dsD (ds.take 29 ++ [.gather 1000000]) := by
    rw [dsD_snoc, List.map_take]
    have := cut_take' (xs := ds.map Deed.d) (n := 29)
    have e29 : (((29 : Nat) : Int)) = 29 := rfl
    rw [e29] at this
    rw [this]
    rfl
  conv => whnf
  refine ⟨by unfold powOk; decide +kernel, ?_⟩
  conv => whnf
  refine ⟨sz2, ?_⟩
  conv => whnf
  refine ⟨show 1 ≤ sizeLine by decide, ?_⟩
  conv => whnf
  refine ⟨szc (by
    show (cutD (ds.map Deed.d) none (some 29)).length + 1 ≤ 1000
    have h1 : (cutD (ds.map Deed.d) none (some ((29 : Nat) : Int))).length = ((ds.map Deed.d).take 29).length := by rw [cut_take']
    have h2 : (cutD (ds.map Deed.d) none (some 29)).length = ((ds.map Deed.d).take 29).length := h1
    rw [h2, List.length_take]
    omega), ?_⟩
  conv => whnf
  refine ⟨ds.take 29 ++ [.gather 1000000], by rw [← ed], DM, ?_⟩
  conv => whnf
  refine ⟨rm, ?_⟩
  conv => whnf
  refine ⟨ds.take 29 ++ [.gather 1000000], by rw [← ed], DM, ?_⟩
  conv => whnf
  refine ⟨rm, ?_⟩
  conv => whnf
  have fin := hq us3 (hP5.mono (by omega))
  rw [← strEq_self (reprS (heD (held (ds.take 29 ++ [.gather 1000000]) s0)))] at fin
  exact fin
theorem len_law : ∀ as q, lawSp as q → as.length = 1 := fun _ _ ⟨_, h, _⟩ => by rw [h]; rfl
theorem law_laps (stay : DSt → Prop) (q : List D → DSt → Prop) (v0 v1 : DV) (hs : ∀ τ, stay τ) : ∀ (k n : Nat) (i : Int) (ys : List D) (acc : List D), Pot n ys → n + 500 * k < 80000 → (∀ ys, q (acc ++ List.replicate k (.bool true)) [v0, v1, .own ys, .emp]) →
    compW (gdName 3) dYes e1_law [3] stay q (rangeD i k) acc [v0, v1, .own ys, .emp]
  | 0, n, i, ys, acc, _, _, h => by
    rw [rangeD_zero]
    exact ⟨hs _, by simpa using h ys⟩
  | k + 1, n, i, ys, acc, hP, hn, h => by
    rw [rangeD_succ]
    conv => whnf
    refine ⟨hs _, ?_⟩
    conv => whnf
    refine ⟨rfl, rfl, ?_⟩
    conv => whnf
    refine ⟨n, ys, rfl, hP, by omega, fun zs hP' => ?_⟩
    exact law_laps stay q v0 v1 hs k (n + 500) (i + 1) zs (acc ++ [.bool true]) hP' (by omega) fun us => by
      have := h us
      rw [List.replicate_succ] at this
      simpa using this
theorem law_for (E : DEnds) (ns : List Int) (hl : ns.length ≤ 63) : ∀ (k i : Nat) (w1 w2 w3 : DV), i + k ≤ 3 → (∀ w1 w2 w3, E.nx [.dat (.list (ns.map PyData.int)), w1, w2, w3]) →
    forW (gdName 1) b1_law E (rangeD ((i : Nat) : Int) k) [.dat (.list (ns.map PyData.int)), w1, w2, w3]
  | 0, i, w1, w2, w3, _, h => by
    rw [rangeD_zero]
    exact h w1 w2 w3
  | k + 1, i, w1, w2, w3, hi, h => by
    rw [rangeD_succ]
    have ih := fun w1 w2 w3 => law_for E ns hl k (i + 1) w1 w2 w3 (by omega) h
    conv => whnf
    refine ⟨ns, i, rfl, hl, by omega, fun ys hP => ?_⟩
    conv => whnf
    refine ⟨by decide, ?_⟩
    conv => whnf
    refine ⟨by decide, ?_⟩
    conv => whnf
    refine ⟨by rw [rangeD_len]; decide, ?_⟩
    refine law_laps _ _ _ _ (fun _ => trivial) 3 0 0 ys [] hP (by decide) fun zs => ?_
    conv => whnf
    exact ih _ _ _
theorem ok_law : ∀ as q, lawSp as q → t_law (endsD as q) (startD N_law.length as) := by
  rintro _ q ⟨ns, rfl, hl, hq⟩
  conv => whnf
  refine ⟨ns, rfl, hl, fun m hm => ?_⟩
  exact law_for _ ns hl m 0 .emp .emp .emp (by omega) fun w1 w2 w3 => hq
end K24
set_option Elab.async false
set_option linter.all false
set_option maxRecDepth 100000
set_option maxHeartbeats 400000
namespace K24
open PySem L2 DL
open PyProof.Rows (boot_repr boot_sum boot_all boot_any boot_max boot_min boot_abs boot_int boot_list boot_tuple)
section
variable {P : Program} {w : World} {K : PySem.W.Frag} {mg : Str → Option Value} {base : Heap}
theorem sc__law_places : FnScope N__law_places ["script", "most"] (defScope s__law_places) := ⟨rfl, rfl, rfl, by decide +kernel, rfl, by decide +kernel, by decide +kernel⟩
theorem w__law_places (T : Txt mg) (f : Addr) (cdv : Value) (A : Around) (outer : List Env) (s : Shared) (H : Hp) (hr : RoomG 0 (A.deeper (PyProof.Rows.envOfC "_law_places" (defScope s__law_places) s.heap.objs.size f cdv))) :
    DSs (cxOf CX0 P w K mg base N__law_places "_law_places" (defScope s__law_places) f cdv A outer s H EN).nox (defBody s__law_places) t__law_places := by
  have nd := (sc__law_places).nd
  exact (dss_one (ds_ret (de_lstRg rfl (by rfl) T.b_list (drg_1 (by rfl) T.b_range (de_callB (cb_max2 rfl) (by rfl) T.b_max boot_max (da_cons de_int (da_cons (de_callB (cb_min2 rfl) (by rfl) T.b_min boot_min (da_cons (de_var (pv 1)) (da_cons (de_callB cb_len (by rfl) T.b_len boot_len (da_cons (de_var (pv 0)) da_nil)) da_nil))) da_nil)))))))
theorem sc__law_pot : FnScope N__law_pot ["script", "place"] (defScope s__law_pot) := ⟨rfl, rfl, rfl, by decide +kernel, rfl, by decide +kernel, by decide +kernel⟩
theorem w__law_pot (T : Txt mg) (f : Addr) (cdv : Value) (A : Around) (outer : List Env) (s : Shared) (H : Hp) (hr : RoomG 0 (A.deeper (PyProof.Rows.envOfC "_law_pot" (defScope s__law_pot) s.heap.objs.size f cdv))) :
    DSs (cxOf CX0 P w K mg base N__law_pot "_law_pot" (defScope s__law_pot) f cdv A outer s H EN).nox (defBody s__law_pot) t__law_pot := by
  have nd := (sc__law_pot).nd
  exact (dss_cons (ds_set (i := 2) nd rfl (Or.inl rfl) (de_if (dt_cmp co_lt (de_var (pv 1)) (de_callB cb_len (by rfl) T.b_len boot_len (da_cons (de_var (pv 0)) da_nil)) (nomark _)) (de_ix io_ix (de_var (pv 0)) (de_var (pv 1)) (fun _ _ => rfl)) (de_op bo_add (de_op bo_add (de_op bo_mod (de_callB (cb_sum rfl) (by rfl) T.b_sum boot_sum (da_cons (de_slice sl_any (de_var (pv 0)) dpo_none (dpo_some de_int)) da_nil)) de_int) (de_op bo_mul de_int (de_var (pv 1)))) de_int))) (dss_cons (ds_set (i := 3) nd rfl (Or.inl rfl) (de_op bo_mul (de_op bo_mod (de_callTy cb_int (by rfl) T.b_int boot_int (da_cons (de_callB cb_abs (by rfl) T.b_abs boot_abs (da_cons (de_var (pv 2)) da_nil)) da_nil)) (de_op bo_pow (de_op bo_pow de_int de_int) de_int)) (de_callTy cb_int (by rfl) T.b_int boot_int (da_cons (de_cmp co_ge (de_callB cb_abs (by rfl) T.b_abs boot_abs (da_cons (de_var (pv 2)) da_nil)) (de_op bo_pow de_int de_int) (nomark _)) da_nil)))) (dss_cons (ds_set (i := 4) nd rfl (Or.inl rfl) (de_op bo_mod (de_callTy cb_int (by rfl) T.b_int boot_int (da_cons (de_var (pv 2)) da_nil)) de_int)) (dss_one (ds_ret (de_lst (da_cons (de_var (pv 3)) (da_cons (de_op bo_mod (de_callTy cb_int (by rfl) T.b_int boot_int (da_cons (de_op bo_add (de_op bo_add (de_op bo_mul (de_var (pv 4)) de_int) (de_op bo_mul (de_op bo_mul de_int (de_var (pv 1))) (de_var (pv 1)))) de_int) da_nil)) de_int) (da_cons de_int da_nil)))))))))
theorem sc__law_take : FnScope N__law_take ["pot", "upto"] (defScope s__law_take) := ⟨rfl, rfl, rfl, by decide +kernel, rfl, by decide +kernel, by decide +kernel⟩
theorem w__law_take (T : Txt mg) (f : Addr) (cdv : Value) (A : Around) (outer : List Env) (s : Shared) (H : Hp) (hr : RoomG 0 (A.deeper (PyProof.Rows.envOfC "_law_take" (defScope s__law_take) s.heap.objs.size f cdv))) :
    DSs (cxOf CX0 P w K mg base N__law_take "_law_take" (defScope s__law_take) f cdv A outer s H EN).nox (defBody s__law_take) t__law_take := by
  have nd := (sc__law_take).nd
  exact (dss_cons (ds_if (dt_cmp co_gt (de_ix io_ix (de_var (pv 0)) de_int (fun _ _ => rfl)) de_int (nomark _)) (dss_cons (ds_set (i := 2) nd rfl (Or.inl rfl) (de_op bo_mod (de_callTy cb_int (by rfl) T.b_int boot_int (da_cons (de_ix io_ix (de_var (pv 0)) de_int (fun _ _ => rfl)) da_nil)) (de_var (pv 1)))) (dss_cons (ds_setIx (de_op bo_fdiv (de_ix io_ix (de_var (pv 0)) de_int (fun _ _ => rfl)) (de_var (pv 1))) (pv 0) de_int) (dss_one (ds_ret (de_var (pv 2)))))) dss_nil) (dss_cons (ds_setIx (de_op bo_add (de_ix io_ix (de_var (pv 0)) de_int (fun _ _ => rfl)) de_int) (pv 0) de_int) (dss_cons (ds_set (i := 3) nd rfl (Or.inl rfl) (de_ix io_ix (de_lst (da_cons de_int (da_cons de_int (da_cons de_int (da_cons de_int (da_cons de_int da_nil)))))) (de_op bo_mod (de_callTy cb_int (by rfl) T.b_int boot_int (da_cons (de_ix io_ix (de_var (pv 0)) de_int (fun _ _ => rfl)) da_nil)) de_int) (fun _ _ => rfl))) (dss_cons (ds_set (i := 4) nd rfl (Or.inl rfl) (de_op bo_mod (de_callTy cb_int (by rfl) T.b_int boot_int (da_cons (de_op bo_pow (de_callTy cb_int (by rfl) T.b_int boot_int (da_cons (de_op bo_add (de_op bo_add (de_ix io_ix (de_var (pv 0)) de_int (fun _ _ => rfl)) (de_op bo_mul (de_op bo_mul de_int (de_ix io_ix (de_var (pv 0)) de_int (fun _ _ => rfl))) (de_ix io_ix (de_var (pv 0)) de_int (fun _ _ => rfl)))) de_int) da_nil)) de_int) da_nil)) (de_var (pv 3)))) (dss_cons (ds_set (i := 4) nd rfl (Or.inl rfl) (de_op bo_mod (de_callTy cb_int (by rfl) T.b_int boot_int (da_cons (de_op bo_mul (de_var (pv 4)) (de_op bo_add (de_op bo_mod (de_callTy cb_int (by rfl) T.b_int boot_int (da_cons (de_var (pv 4)) da_nil)) de_int) (de_op bo_mul de_int (de_ix io_ix (de_var (pv 0)) de_int (fun _ _ => rfl))))) da_nil)) de_int)) (dss_one (ds_ret (de_op bo_mod (de_callTy cb_int (by rfl) T.b_int boot_int (da_cons (de_op bo_fdiv (de_var (pv 4)) de_int) da_nil)) (de_var (pv 1))))))))))
theorem sc__law_of : FnScope N__law_of ["pot", "some"] (defScope s__law_of) := ⟨rfl, rfl, rfl, by decide +kernel, rfl, by decide +kernel, by decide +kernel⟩
theorem w__law_of (T : Txt mg) (C__law_take : CalG P w K mg base 1 "_law_take" sp__law_take) (f : Addr) (cdv : Value) (A : Around) (outer : List Env) (s : Shared) (H : Hp) (hr : RoomG 1 (A.deeper (PyProof.Rows.envOfC "_law_of" (defScope s__law_of) s.heap.objs.size f cdv))) :
    DSs (cxOf CX0 P w K mg base N__law_of "_law_of" (defScope s__law_of) f cdv A outer s H EN).nox (defBody s__law_of) t__law_of := by
  have nd := (sc__law_of).nd
  exact (dss_one (ds_ret (de_ix io_ix (de_var (pv 1)) (de_callIoC (i := 0) (ms := [false]) C__law_take hr (by decide) (by rfl) (da_cons (de_var (pv 0)) (da_cons (de_callB cb_len (by rfl) T.b_len boot_len (da_cons (de_var (pv 1)) da_nil)) da_nil))) (fun _ _ => rfl))))
theorem sc__law_deeds_drawn : FnScope N__law_deeds_drawn ["pot", "most"] (defScope s__law_deeds_drawn) := ⟨rfl, rfl, rfl, by decide +kernel, rfl, by decide +kernel, by decide +kernel⟩
theorem w__law_deeds_drawn (T : Txt mg) (C__law_of : CalG P w K mg base 2 "_law_of" sp__law_of) (C__law_take : CalG P w K mg base 1 "_law_take" sp__law_take) (f : Addr) (cdv : Value) (A : Around) (outer : List Env) (s : Shared) (H : Hp) (hr : RoomG 2 (A.deeper (PyProof.Rows.envOfC "_law_deeds_drawn" (defScope s__law_deeds_drawn) s.heap.objs.size f cdv))) :
    DSs (cxOf CX0 P w K mg base N__law_deeds_drawn "_law_deeds_drawn" (defScope s__law_deeds_drawn) f cdv A outer s H EN).nox (defBody s__law_deeds_drawn) t__law_deeds_drawn := by
  have nd := (sc__law_deeds_drawn).nd
  exact (dss_cons (ds_par3 (i := 2) (j := 3) (l := 4) rfl nd rfl rfl rfl (by decide) (by decide) (by decide) rfl rfl rfl (da_cons (de_lst da_nil) (da_cons (de_callTy cb_int (by rfl) T.b_int boot_int (da_cons (de_callIoC (i := 0) (ms := [false]) C__law_of hr (by decide) (by rfl) (da_cons (de_var (pv 0)) (da_cons (de_lst (da_cons de_int (da_cons de_int (da_cons (de_op bo_pow de_int de_int) da_nil)))) da_nil))) da_nil)) (da_cons de_int da_nil))) (by rfl)) (dss_cons (ds_for PassesOwn.never rfl (di_rng1 (by rfl) T.b_range (da_cons (de_callIoC (i := 0) (ms := [false]) C__law_take hr (by decide) (by rfl) (da_cons (de_var (pv 0)) (da_cons (de_op bo_add (de_var (pv 1)) de_int) da_nil))) da_nil)) (dg_name (i := 5) nd rfl (Or.inl rfl)) (dss_cons (ds_set (i := 6) nd rfl (Or.inl rfl) (de_callIoC (i := 0) (ms := [false]) C__law_take hr (by decide) (by rfl) (da_cons (de_var (pv 0)) (da_cons de_int da_nil)))) (dss_one (ds_if (dt_cmp co_lt (de_var (pv 6)) de_int (nomark _)) (dss_cons (ds_expr (de_app (pv 2) (de_tup (da_cons de_str (da_cons (de_callTy cb_int (by rfl) T.b_int boot_int (da_cons (de_callIoC (i := 0) (ms := [false]) C__law_take hr (by decide) (by rfl) (da_cons (de_var (pv 0)) (da_cons (de_callIoC (i := 0) (ms := [false]) C__law_of hr (by decide) (by rfl) (da_cons (de_var (pv 0)) (da_cons (de_lst (da_cons de_int (da_cons de_int da_nil))) da_nil))) da_nil))) da_nil)) (da_cons (de_callTy cb_int (by rfl) T.b_int boot_int (da_cons (de_callIoC (i := 0) (ms := [false]) C__law_take hr (by decide) (by rfl) (da_cons (de_var (pv 0)) (da_cons (de_op bo_add (de_var (pv 3)) de_int) da_nil))) da_nil)) da_nil)))) (fun {_ _} => pe_bm PySem.F.plainAttrs_list PySem.F.slot_list_append PySem.F.type_list_append mt_append))) (dss_one (ds_set (i := 4) nd rfl (Or.inl rfl) (de_op bo_add (de_var (pv 4)) (de_ix io_ix (de_ix io_ix (de_var (pv 2)) (de_un uo_neg de_int) (fun _ _ => rfl)) de_int (fun _ _ => rfl)))))) (dss_one (ds_if (dt_cmp co_lt (de_var (pv 6)) de_int (nomark _)) (dss_cons (ds_set (i := 7) nd rfl (Or.inl rfl) (de_callB (cb_min2 rfl) (by rfl) T.b_min boot_min (da_cons (de_op bo_pow de_int de_int) (da_cons (de_var (pv 4)) da_nil)))) (dss_cons (ds_expr (de_app (pv 2) (de_tup (da_cons de_str (da_cons (de_callTy cb_int (by rfl) T.b_int boot_int (da_cons (de_callIoC (i := 0) (ms := [false]) C__law_of hr (by decide) (by rfl) (da_cons (de_var (pv 0)) (da_cons (de_lst (da_cons (de_var (pv 7)) (da_cons (de_op bo_fdiv (de_var (pv 7)) de_int) (da_cons (de_callB (cb_min2 rfl) (by rfl) T.b_min boot_min (da_cons de_int (da_cons (de_var (pv 7)) da_nil))) (da_cons (de_callTy cb_int (by rfl) T.b_int boot_int (da_cons (de_callIoC (i := 0) (ms := [false]) C__law_take hr (by decide) (by rfl) (da_cons (de_var (pv 0)) (da_cons (de_op bo_add (de_var (pv 7)) de_int) da_nil))) da_nil)) da_nil))))) da_nil))) da_nil)) da_nil))) (fun {_ _} => pe_bm PySem.F.plainAttrs_list PySem.F.slot_list_append PySem.F.type_list_append mt_append))) (dss_one (ds_set (i := 4) nd rfl (Or.inl rfl) (de_op bo_sub (de_var (pv 4)) (de_ix io_ix (de_ix io_ix (de_var (pv 2)) (de_un uo_neg de_int) (fun _ _ => rfl)) de_int (fun _ _ => rfl))))))) (dss_cons (ds_expr (de_app (pv 2) (de_tup (da_cons de_str da_nil)) (fun {_ _} => pe_bm PySem.F.plainAttrs_list PySem.F.slot_list_append PySem.F.type_list_append mt_append))) (dss_one (ds_set (i := 4) nd rfl (Or.inl rfl) de_int))))))))) (dss_one (ds_ret (de_callTy cb_tuple (by rfl) T.b_tuple boot_tuple (da_cons (de_var (pv 2)) da_nil))))))
theorem sc__law_gcd : FnScope N__law_gcd ["one", "other"] (defScope s__law_gcd) := ⟨rfl, rfl, rfl, by decide +kernel, rfl, by decide +kernel, by decide +kernel⟩
theorem w__law_gcd (T : Txt mg) (f : Addr) (cdv : Value) (A : Around) (outer : List Env) (s : Shared) (H : Hp) (hr : RoomG 0 (A.deeper (PyProof.Rows.envOfC "_law_gcd" (defScope s__law_gcd) s.heap.objs.size f cdv))) :
    DSs (cxOf CX0 P w K mg base N__law_gcd "_law_gcd" (defScope s__law_gcd) f cdv A outer s H EN).nox (defBody s__law_gcd) t__law_gcd := by
  have nd := (sc__law_gcd).nd
  exact (dss_cons (ds_for PassesOwn.never rfl (di_rng1 (by rfl) T.b_range (da_cons de_int da_nil)) (dg_name (i := 2) nd rfl (Or.inl rfl)) (dss_cons (ds_if (dt_cmp (co_eq hr) (de_var (pv 1)) de_int (nomark _)) (dss_one (ds_ret (de_var (pv 0)))) dss_nil) (dss_one (ds_par (i := 0) (j := 1) rfl nd rfl rfl (by decide) rfl rfl (da_cons (de_var (pv 1)) (da_cons (de_op bo_mod (de_callTy cb_int (by rfl) T.b_int boot_int (da_cons (de_var (pv 0)) da_nil)) (de_var (pv 1))) da_nil)) (by rfl))))) (dss_one (ds_ret (de_var (pv 0)))))
theorem sc__law_held : FnScope N__law_held ["deeds"] (defScope s__law_held) := ⟨rfl, rfl, rfl, by decide +kernel, rfl, by decide +kernel, by decide +kernel⟩
theorem w__law_held (T : Txt mg) (C__law_gcd : CalG P w K mg base 1 "_law_gcd" sp__law_gcd) (f : Addr) (cdv : Value) (A : Around) (outer : List Env) (s : Shared) (H : Hp) (hr : RoomG 1 (A.deeper (PyProof.Rows.envOfC "_law_held" (defScope s__law_held) s.heap.objs.size f cdv))) :
    DSs (cxOf CX0 P w K mg base N__law_held "_law_held" (defScope s__law_held) f cdv A outer s H EN).nox (defBody s__law_held) t__law_held := by
  have nd := (sc__law_held).nd
  exact (dss_cons (ds_parT (is := [1, 2]) rfl (da_cons (de_repL (da_cons de_int da_nil) de_int) (da_cons de_int da_nil)) (pgs_cons (pg_name (i := 1) nd rfl (Or.inl rfl)) (pgs_cons (pg_name (i := 2) nd rfl (Or.inr rfl)) pgs_nil))) (dss_cons (ds_for PassesOwn.never rfl (di_seq (de_var (pv 0))) (dg_name (i := 3) nd rfl (Or.inr rfl)) (dss_cons (ds_if (dt_cmp (co_eq hr) (de_ix io_ix (de_var (pv 3)) de_int (fun _ _ => rfl)) de_str (nomark _)) (dss_one (ds_setIx (de_op bo_add (de_ix io_ix (de_var (pv 1)) (de_ix io_ix (de_var (pv 3)) de_int (fun _ _ => rfl)) (fun _ _ => rfl)) (de_op bo_mul (de_ix io_ix (de_var (pv 3)) de_int (fun _ _ => rfl)) (de_var (pv 2)))) (pv 1) (de_ix io_ix (de_var (pv 3)) de_int (fun _ _ => rfl)))) (dss_one (ds_if (dt_cmp (co_eq hr) (de_ix io_ix (de_var (pv 3)) de_int (fun _ _ => rfl)) de_str (nomark _)) (dss_one (ds_parT (is := [1, 2]) rfl (da_cons (de_repL (da_cons de_int da_nil) de_int) (da_cons de_int da_nil)) (pgs_cons (pg_name (i := 1) nd rfl (Or.inl rfl)) (pgs_cons (pg_name (i := 2) nd rfl (Or.inr rfl)) pgs_nil)))) (dss_cons (ds_set (i := 4) nd rfl (Or.inr rfl) (de_callB (cb_sum rfl) (by rfl) T.b_sum boot_sum (da_cons (de_var (pv 1)) da_nil))) (dss_cons (ds_if (dt_cmp co_gt (de_op bo_mul (de_ix io_ix (de_var (pv 3)) de_int (fun _ _ => rfl)) (de_var (pv 2))) (de_var (pv 4)) (nomark _)) (dss_one (ds_ret de_non)) dss_nil) (dss_one (ds_if (dt_cmp co_gt (de_ix io_ix (de_var (pv 3)) de_int (fun _ _ => rfl)) de_int (nomark _)) (dss_one (ds_parT (is := [1, 2]) rfl (da_cons (de_lcV [("one", 6)] rfl nd (dc_seq (de_var (pv 1))) (blkOk_by (own := [("one", 6)]) (N := N__law_held) (sc := (defScope s__law_held)) (by decide +kernel)) (fun _ _ _ _ _ => (dg_name (i := 6) nd rfl (Or.inl rfl))) (fun _ _ _ _ _ => dts_nil) (fun _ _ _ _ _ => (de_op bo_mul (de_var (pv 6)) (de_op bo_sub (de_var (pv 4)) (de_op bo_mul (de_ix io_ix (de_var (pv 3)) de_int (fun _ _ => rfl)) (de_var (pv 2))))))) (da_cons (de_op bo_mul (de_var (pv 2)) (de_var (pv 4))) da_nil)) (pgs_cons (pg_name (i := 1) nd rfl (Or.inl rfl)) (pgs_cons (pg_name (i := 2) nd rfl (Or.inr rfl)) pgs_nil)))) dss_nil))))))) (dss_cons (ds_set (i := 5) nd rfl (Or.inr rfl) (de_var (pv 2))) (dss_cons (ds_for PassesOwn.never rfl (di_seq (de_var (pv 1))) (dg_name (i := 6) nd rfl (Or.inl rfl)) (dss_one (ds_set (i := 5) nd rfl (Or.inr rfl) (de_callC (ms := [false, false]) C__law_gcd hr (by decide) (by rfl) (da_cons (de_var (pv 5)) (da_cons (de_var (pv 6)) da_nil)))))) (dss_one (ds_parT (is := [1, 2]) rfl (da_cons (de_lcV [("one", 6)] rfl nd (dc_seq (de_var (pv 1))) (blkOk_by (own := [("one", 6)]) (N := N__law_held) (sc := (defScope s__law_held)) (by decide +kernel)) (fun _ _ _ _ _ => (dg_name (i := 6) nd rfl (Or.inl rfl))) (fun _ _ _ _ _ => dts_nil) (fun _ _ _ _ _ => (de_op bo_fdiv (de_var (pv 6)) (de_var (pv 5))))) (da_cons (de_op bo_fdiv (de_var (pv 2)) (de_var (pv 5))) da_nil)) (pgs_cons (pg_name (i := 1) nd rfl (Or.inl rfl)) (pgs_cons (pg_name (i := 2) nd rfl (Or.inr rfl)) pgs_nil)))))))) (dss_one (ds_ret (de_tup (da_cons (de_callTy cb_tuple (by rfl) T.b_tuple boot_tuple (da_cons (de_var (pv 1)) da_nil)) (da_cons (de_var (pv 2)) da_nil)))))))
theorem sc_is_tuple : FnScope N_is_tuple ["value", "least", "most"] (defScope s_is_tuple) := ⟨rfl, rfl, rfl, by decide +kernel, rfl, by decide +kernel, by decide +kernel⟩
theorem w_is_tuple (T : Txt mg) (f : Addr) (cdv : Value) (A : Around) (outer : List Env) (s : Shared) (H : Hp) (hr : RoomG 0 (A.deeper (PyProof.Rows.envOfC "is_tuple" (defScope s_is_tuple) s.heap.objs.size f cdv))) :
    DSs (cxOf CX0 P w K mg base N_is_tuple "is_tuple" (defScope s_is_tuple) f cdv A outer s H EN).nox (defBody s_is_tuple) t_is_tuple := by
  have nd := (sc_is_tuple).nd
  exact (dss_one (ds_ret (de_and (de_isi (T := .tuple) (by rfl) T.b_isinstance (by rfl) T.b_tuple (by decide +kernel) (de_var (pv 0))) (de_one (de_chain co_le co_le (de_var (pv 1)) (de_callB cb_len (by rfl) T.b_len boot_len (da_cons (de_var (pv 0)) da_nil)) (de_var (pv 2)))))))
theorem sc_is_whole : FnScope N_is_whole ["value"] (defScope s_is_whole) := ⟨rfl, rfl, rfl, by decide +kernel, rfl, by decide +kernel, by decide +kernel⟩
theorem w_is_whole (T : Txt mg) (f : Addr) (cdv : Value) (A : Around) (outer : List Env) (s : Shared) (H : Hp) (hr : RoomG 0 (A.deeper (PyProof.Rows.envOfC "is_whole" (defScope s_is_whole) s.heap.objs.size f cdv))) :
    DSs (cxOf CX0 P w K mg base N_is_whole "is_whole" (defScope s_is_whole) f cdv A outer s H EN).nox (defBody s_is_whole) t_is_whole := by
  have nd := (sc_is_whole).nd
  exact (dss_one (ds_ret (de_and (de_isi (T := .int) (by rfl) T.b_isinstance (by rfl) T.b_int (by decide +kernel) (de_var (pv 0))) (de_one (de_not (de_isi (T := .bool) (by rfl) T.b_isinstance (by rfl) T.b_bool (by decide +kernel) (de_var (pv 0))))))))
theorem sc_is_integer : FnScope N_is_integer ["value", "low", "high"] (defScope s_is_integer) := ⟨rfl, rfl, rfl, by decide +kernel, rfl, by decide +kernel, by decide +kernel⟩
theorem w_is_integer (T : Txt mg) (C_is_whole : CalG P w K mg base 1 "is_whole" sp_is_whole) (f : Addr) (cdv : Value) (A : Around) (outer : List Env) (s : Shared) (H : Hp) (hr : RoomG 1 (A.deeper (PyProof.Rows.envOfC "is_integer" (defScope s_is_integer) s.heap.objs.size f cdv))) :
    DSs (cxOf CX0 P w K mg base N_is_integer "is_integer" (defScope s_is_integer) f cdv A outer s H EN).nox (defBody s_is_integer) t_is_integer := by
  have nd := (sc_is_integer).nd
  exact (dss_one (ds_ret (de_and (de_callC (ms := [false]) C_is_whole hr (by decide) (by rfl) (da_cons (de_var (pv 0)) da_nil)) (de_one (de_chain co_le co_le (de_var (pv 1)) (de_var (pv 0)) (de_var (pv 2)))))))
theorem sc_is_deeds : FnScope N_is_deeds ["value"] (defScope s_is_deeds) := ⟨rfl, rfl, rfl, by decide +kernel, rfl, by decide +kernel, by decide +kernel⟩
theorem w_is_deeds (T : Txt mg) (C_is_tuple : CalG P w K mg base 1 "is_tuple" sp_is_tuple) (C_is_integer : CalG P w K mg base 2 "is_integer" sp_is_integer) (f : Addr) (cdv : Value) (A : Around) (outer : List Env) (s : Shared) (H : Hp) (hr : RoomG 2 (A.deeper (PyProof.Rows.envOfC "is_deeds" (defScope s_is_deeds) s.heap.objs.size f cdv))) :
    DSs (cxOf CX0 P w K mg base N_is_deeds "is_deeds" (defScope s_is_deeds) f cdv A outer s H EN).nox (defBody s_is_deeds) t_is_deeds := by
  have nd := (sc_is_deeds).nd
  exact (dss_cons (ds_if (dt_pw (dw_or (dt_not (dt_truth (de_callC (ms := [false, false, false]) C_is_tuple hr (by decide) (by rfl) (da_cons (de_var (pv 0)) (da_cons de_int (da_cons (de_gI T.c_MOST_STEPS (by rfl)) da_nil)))))) (dw_or1 (dt_not (dt_truth (de_callB (cb_all rfl) (by rfl) T.b_all boot_all (da_cons (de_lcV [("deed", 1)] rfl nd (dc_seq (de_var (pv 0))) (blkOk_by (own := [("deed", 1)]) (N := N_is_deeds) (sc := (defScope s_is_deeds)) (by decide +kernel)) (fun _ _ _ _ _ => (dg_name (i := 1) nd rfl (Or.inl rfl))) (fun _ _ _ _ _ => dts_nil) (fun _ _ _ _ _ => (de_callC (ms := [false, false, false]) C_is_tuple hr (by decide) (by rfl) (da_cons (de_var (pv 1)) (da_cons de_int (da_cons (de_gI T.c_TRIPLE (by rfl)) da_nil)))))) da_nil))))))) (dss_one (ds_ret de_bl)) dss_nil) (dss_cons (ds_for PassesOwn.never rfl (di_seq (de_var (pv 0))) (dg_name (i := 1) nd rfl (Or.inl rfl)) (dss_cons (ds_if (dt_not (dt_truth (de_isi (T := .str) (by rfl) T.b_isinstance (by rfl) T.b_str (by decide +kernel) (de_ix io_ix (de_var (pv 1)) de_int (fun _ _ => rfl))))) (dss_one (ds_ret de_bl)) dss_nil) (dss_one (ds_if (dt_cmp (co_eq hr) (de_ix io_ix (de_var (pv 1)) de_int (fun _ _ => rfl)) (de_gS T.c_CHARGE (by rfl)) (nomark _)) (dss_cons (ds_if (dt_pw (dw_or (dt_cmp (co_ne hr) (de_callB cb_len (by rfl) T.b_len boot_len (da_cons (de_var (pv 1)) da_nil)) (de_gI T.c_TRIPLE (by rfl)) (nomark _)) (dw_or1 (dt_not (dt_truth (de_callC (ms := [false, false, false]) C_is_integer hr (by decide) (by rfl) (da_cons (de_ix io_ix (de_var (pv 1)) de_int (fun _ _ => rfl)) (da_cons de_int (da_cons (de_op bo_sub (de_gI T.c_MOST_KINDS (by rfl)) de_int) da_nil))))))))) (dss_one (ds_ret de_bl)) dss_nil) (dss_one (ds_if (dt_not (dt_truth (de_callC (ms := [false, false, false]) C_is_integer hr (by decide) (by rfl) (da_cons (de_ix io_ix (de_var (pv 1)) (de_gI T.c_PAIR (by rfl)) (fun _ _ => rfl)) (da_cons de_int (da_cons (de_gI T.c_MOST_ROOM (by rfl)) da_nil)))))) (dss_one (ds_ret de_bl)) dss_nil))) (dss_one (ds_if (dt_cmp (co_eq hr) (de_ix io_ix (de_var (pv 1)) de_int (fun _ _ => rfl)) (de_gS T.c_GATHER (by rfl)) (nomark _)) (dss_one (ds_if (dt_pw (dw_or (dt_cmp (co_ne hr) (de_callB cb_len (by rfl) T.b_len boot_len (da_cons (de_var (pv 1)) da_nil)) (de_gI T.c_PAIR (by rfl)) (nomark _)) (dw_or1 (dt_not (dt_truth (de_callC (ms := [false, false, false]) C_is_integer hr (by decide) (by rfl) (da_cons (de_ix io_ix (de_var (pv 1)) de_int (fun _ _ => rfl)) (da_cons de_int (da_cons (de_gI T.c_MOST_ROOM (by rfl)) da_nil))))))))) (dss_one (ds_ret de_bl)) dss_nil)) (dss_one (ds_if (dt_cmp (co_ne hr) (de_var (pv 1)) (de_tup (da_cons (de_gS T.c_EMPTY (by rfl)) da_nil)) (nomark _)) (dss_one (ds_ret de_bl)) dss_nil)))))))) (dss_one (ds_ret de_bl))))
theorem sc_divisor : FnScope N_divisor ["one", "other"] (defScope s_divisor) := ⟨rfl, rfl, rfl, by decide +kernel, rfl, by decide +kernel, by decide +kernel⟩
theorem w_divisor (T : Txt mg) (f : Addr) (cdv : Value) (A : Around) (outer : List Env) (s : Shared) (H : Hp) (hr : RoomG 0 (A.deeper (PyProof.Rows.envOfC "divisor" (defScope s_divisor) s.heap.objs.size f cdv))) :
    DSs (cxOf CX0 P w K mg base N_divisor "divisor" (defScope s_divisor) f cdv A outer s H EN).nox (defBody s_divisor) t_divisor := by
  have nd := (sc_divisor).nd
  exact (dss_cons (ds_while PassesOwn.never (dt_cmp (co_ne hr) (de_var (pv 1)) de_int (nomark _)) (dss_one (ds_par (i := 0) (j := 1) rfl nd rfl rfl (by decide) rfl rfl (da_cons (de_var (pv 1)) (da_cons (de_op bo_mod (de_var (pv 0)) (de_var (pv 1))) da_nil)) (by rfl)))) (dss_one (ds_ret (de_var (pv 0)))))
theorem sc_held_of : FnScope N_held_of ["deeds"] (defScope s_held_of) := ⟨rfl, rfl, rfl, by decide +kernel, rfl, by decide +kernel, by decide +kernel⟩
theorem w_held_of (T : Txt mg) (C_divisor : CalG P w K mg base 1 "divisor" sp_divisor) (f : Addr) (cdv : Value) (A : Around) (outer : List Env) (s : Shared) (H : Hp) (hr : RoomG 1 (A.deeper (PyProof.Rows.envOfC "held_of" (defScope s_held_of) s.heap.objs.size f cdv))) :
    DSs (cxOf CX0 P w K mg base N_held_of "held_of" (defScope s_held_of) f cdv A outer s H EN).nox (defBody s_held_of) t_held_of := by
  have nd := (sc_held_of).nd
  exact (dss_cons (ds_parT (is := [1, 2]) rfl (da_cons (de_repL (da_cons de_int da_nil) (de_gI T.c_MOST_KINDS (by rfl))) (da_cons de_int da_nil)) (pgs_cons (pg_name (i := 1) nd rfl (Or.inl rfl)) (pgs_cons (pg_name (i := 2) nd rfl (Or.inr rfl)) pgs_nil))) (dss_cons (ds_for PassesOwn.never rfl (di_seq (de_var (pv 0))) (dg_name (i := 3) nd rfl (Or.inr rfl)) (dss_cons (ds_if (dt_cmp (co_eq hr) (de_ix io_ix (de_var (pv 3)) de_int (fun _ _ => rfl)) (de_gS T.c_CHARGE (by rfl)) (nomark _)) (dss_one (ds_setIx (de_op bo_add (de_ix io_ix (de_var (pv 1)) (de_ix io_ix (de_var (pv 3)) de_int (fun _ _ => rfl)) (fun _ _ => rfl)) (de_op bo_mul (de_ix io_ix (de_var (pv 3)) (de_gI T.c_PAIR (by rfl)) (fun _ _ => rfl)) (de_var (pv 2)))) (pv 1) (de_ix io_ix (de_var (pv 3)) de_int (fun _ _ => rfl)))) (dss_one (ds_if (dt_cmp (co_eq hr) (de_ix io_ix (de_var (pv 3)) de_int (fun _ _ => rfl)) (de_gS T.c_EMPTY (by rfl)) (nomark _)) (dss_one (ds_set (i := 1) nd rfl (Or.inl rfl) (de_repL (da_cons de_int da_nil) (de_gI T.c_MOST_KINDS (by rfl))))) (dss_cons (ds_set (i := 4) nd rfl (Or.inr rfl) (de_callB (cb_sum rfl) (by rfl) T.b_sum boot_sum (da_cons (de_var (pv 1)) da_nil))) (dss_cons (ds_if (dt_cmp co_gt (de_op bo_mul (de_ix io_ix (de_var (pv 3)) de_int (fun _ _ => rfl)) (de_var (pv 2))) (de_var (pv 4)) (nomark _)) (dss_one (ds_ret de_non)) dss_nil) (dss_one (ds_if (dt_cmp co_gt (de_ix io_ix (de_var (pv 3)) de_int (fun _ _ => rfl)) de_int (nomark _)) (dss_one (ds_parT (is := [1, 2]) rfl (da_cons (de_lcV [("one", 6)] rfl nd (dc_seq (de_var (pv 1))) (blkOk_by (own := [("one", 6)]) (N := N_held_of) (sc := (defScope s_held_of)) (by decide +kernel)) (fun _ _ _ _ _ => (dg_name (i := 6) nd rfl (Or.inl rfl))) (fun _ _ _ _ _ => dts_nil) (fun _ _ _ _ _ => (de_op bo_mul (de_var (pv 6)) (de_op bo_sub (de_var (pv 4)) (de_op bo_mul (de_ix io_ix (de_var (pv 3)) de_int (fun _ _ => rfl)) (de_var (pv 2))))))) (da_cons (de_op bo_mul (de_var (pv 2)) (de_var (pv 4))) da_nil)) (pgs_cons (pg_name (i := 1) nd rfl (Or.inl rfl)) (pgs_cons (pg_name (i := 2) nd rfl (Or.inr rfl)) pgs_nil)))) dss_nil))))))) (dss_cons (ds_set (i := 5) nd rfl (Or.inr rfl) (de_var (pv 2))) (dss_cons (ds_for PassesOwn.never rfl (di_seq (de_var (pv 1))) (dg_name (i := 6) nd rfl (Or.inl rfl)) (dss_one (ds_set (i := 5) nd rfl (Or.inr rfl) (de_callC (ms := [false, false]) C_divisor hr (by decide) (by rfl) (da_cons (de_var (pv 5)) (da_cons (de_var (pv 6)) da_nil)))))) (dss_one (ds_parT (is := [1, 2]) rfl (da_cons (de_lcV [("one", 6)] rfl nd (dc_seq (de_var (pv 1))) (blkOk_by (own := [("one", 6)]) (N := N_held_of) (sc := (defScope s_held_of)) (by decide +kernel)) (fun _ _ _ _ _ => (dg_name (i := 6) nd rfl (Or.inl rfl))) (fun _ _ _ _ _ => dts_nil) (fun _ _ _ _ _ => (de_op bo_fdiv (de_var (pv 6)) (de_var (pv 5))))) (da_cons (de_op bo_fdiv (de_var (pv 2)) (de_var (pv 5))) da_nil)) (pgs_cons (pg_name (i := 1) nd rfl (Or.inl rfl)) (pgs_cons (pg_name (i := 2) nd rfl (Or.inr rfl)) pgs_nil)))))))) (dss_one (ds_ret (de_tup (da_cons (de_var (pv 1)) (da_cons (de_var (pv 2)) da_nil)))))))
theorem sc_held : FnScope N_held ["deeds"] (defScope s_held) := ⟨rfl, rfl, rfl, by decide +kernel, rfl, by decide +kernel, by decide +kernel⟩
theorem w_held (T : Txt mg) (C_is_deeds : CalG P w K mg base 3 "is_deeds" sp_is_deeds) (C_held_of : CalG P w K mg base 2 "held_of" sp_held_of) (f : Addr) (cdv : Value) (A : Around) (outer : List Env) (s : Shared) (H : Hp) (hr : RoomG 3 (A.deeper (PyProof.Rows.envOfC "held" (defScope s_held) s.heap.objs.size f cdv))) :
    DSs (cxOf CX0 P w K mg base N_held "held" (defScope s_held) f cdv A outer s H EN).nox (defBody s_held) t_held := by
  have nd := (sc_held).nd
  exact (dss_cons (ds_if (dt_not (dt_truth (de_callC (ms := [false]) C_is_deeds hr (by decide) (by rfl) (da_cons (de_var (pv 0)) da_nil)))) (dss_one ds_never) dss_nil) (dss_cons (ds_set (i := 1) nd rfl (Or.inl rfl) (de_callC (ms := [false]) C_held_of hr (by decide) (by rfl) (da_cons (de_var (pv 0)) da_nil))) (dss_one (ds_ret (de_if (dt_cmp co_isnot (de_var (pv 1)) de_non (nomark _)) (de_tup (da_cons (de_callTy cb_tuple (by rfl) T.b_tuple boot_tuple (da_cons (de_ix io_ix (de_var (pv 1)) de_int (fun _ _ => rfl)) da_nil)) (da_cons (de_ix io_ix (de_var (pv 1)) de_int (fun _ _ => rfl)) da_nil))) de_non)))))
theorem sc_least_charge : FnScope N_least_charge ["deeds", "kind", "other", "parts"] (defScope s_least_charge) := ⟨rfl, rfl, rfl, by decide +kernel, rfl, by decide +kernel, by decide +kernel⟩
theorem w_least_charge (T : Txt mg) (C_is_deeds : CalG P w K mg base 3 "is_deeds" sp_is_deeds) (C_is_integer : CalG P w K mg base 2 "is_integer" sp_is_integer) (C_held_of : CalG P w K mg base 2 "held_of" sp_held_of) (f : Addr) (cdv : Value) (A : Around) (outer : List Env) (s : Shared) (H : Hp) (hr : RoomG 3 (A.deeper (PyProof.Rows.envOfC "least_charge" (defScope s_least_charge) s.heap.objs.size f cdv))) :
    DSs (cxOf CX0 P w K mg base N_least_charge "least_charge" (defScope s_least_charge) f cdv A outer s H EN).nox (defBody s_least_charge) t_least_charge := by
  have nd := (sc_least_charge).nd
  exact (dss_cons (ds_if (dt_not (dt_truth (de_callC (ms := [false]) C_is_deeds hr (by decide) (by rfl) (da_cons (de_var (pv 0)) da_nil)))) (dss_one ds_never) dss_nil) (dss_cons (ds_for PassesOwn.never rfl (di_seq (de_tup (da_cons (de_var (pv 1)) (da_cons (de_var (pv 2)) da_nil)))) (dg_name (i := 4) nd rfl (Or.inl rfl)) (dss_one (ds_if (dt_not (dt_truth (de_callC (ms := [false, false, false]) C_is_integer hr (by decide) (by rfl) (da_cons (de_var (pv 4)) (da_cons de_int (da_cons (de_op bo_sub (de_gI T.c_MOST_KINDS (by rfl)) de_int) da_nil)))))) (dss_one ds_never) dss_nil))) (dss_cons (ds_if (dt_not (dt_truth (de_callC (ms := [false, false, false]) C_is_integer hr (by decide) (by rfl) (da_cons (de_var (pv 3)) (da_cons de_int (da_cons (de_gI T.c_MOST_AMOUNT (by rfl)) da_nil)))))) (dss_one ds_never) dss_nil) (dss_cons (ds_set (i := 5) nd rfl (Or.inl rfl) (de_callC (ms := [false]) C_held_of hr (by decide) (by rfl) (da_cons (de_var (pv 0)) da_nil))) (dss_cons (ds_if (dt_cmp co_is (de_var (pv 5)) de_non (nomark _)) (dss_one (ds_ret de_non)) dss_nil) (dss_cons (ds_unp (de_var (pv 5)) (dg_tup rfl (dgs_cons (dg_name (i := 6) nd rfl (Or.inl rfl)) (dgs_cons (dg_name (i := 7) nd rfl (Or.inl rfl)) dgs_nil)))) (dss_cons (ds_par (i := 8) (j := 9) rfl nd rfl rfl (by decide) rfl rfl (da_cons (de_op bo_mul (de_ix io_ix (de_var (pv 6)) (de_var (pv 1)) (fun _ _ => rfl)) (de_gI T.c_MOST_AMOUNT (by rfl))) (da_cons (de_op bo_mul (de_callB (cb_sum rfl) (by rfl) T.b_sum boot_sum (da_cons (de_var (pv 6)) da_nil)) (de_var (pv 3))) da_nil)) (by rfl)) (dss_cons (ds_if (dt_cmp co_le (de_var (pv 8)) (de_var (pv 9)) (nomark _)) (dss_one (ds_ret de_int)) dss_nil) (dss_cons (ds_if (dt_pw (dw_or (dt_cmp (co_eq hr) (de_var (pv 1)) (de_var (pv 2)) (nomark _)) (dw_or1 (dt_cmp (co_eq hr) (de_var (pv 3)) de_int (nomark _))))) (dss_one (ds_ret de_non)) dss_nil) (dss_one (ds_ret (de_un uo_neg (de_op bo_fdiv (de_un uo_neg (de_op bo_sub (de_var (pv 8)) (de_var (pv 9)))) (de_op bo_mul (de_var (pv 3)) (de_var (pv 7))))))))))))))))
theorem sc__law_is_charge_right : FnScope N__law_is_charge_right ["pot", "deeds", "due"] (defScope s__law_is_charge_right) := ⟨rfl, rfl, rfl, by decide +kernel, rfl, by decide +kernel, by decide +kernel⟩
theorem w__law_is_charge_right (T : Txt mg) (C__law_take : CalG P w K mg base 1 "_law_take" sp__law_take) (C__law_of : CalG P w K mg base 2 "_law_of" sp__law_of) (C_least_charge : CalG P w K mg base 4 "least_charge" sp_least_charge) (C_held : CalG P w K mg base 4 "held" sp_held) (f : Addr) (cdv : Value) (A : Around) (outer : List Env) (s : Shared) (H : Hp) (hr : RoomG 4 (A.deeper (PyProof.Rows.envOfC "_law_is_charge_right" (defScope s__law_is_charge_right) s.heap.objs.size f cdv))) :
    DSs (cxOf CX0 P w K mg base N__law_is_charge_right "_law_is_charge_right" (defScope s__law_is_charge_right) f cdv A outer s H EN).nox (defBody s__law_is_charge_right) t__law_is_charge_right := by
  have nd := (sc__law_is_charge_right).nd
  exact (dss_cons (ds_par (i := 3) (j := 4) rfl nd rfl rfl (by decide) rfl rfl (da_cons (de_callTy cb_int (by rfl) T.b_int boot_int (da_cons (de_callIoC (i := 0) (ms := [false]) C__law_take hr (by decide) (by rfl) (da_cons (de_var (pv 0)) (da_cons de_int da_nil))) da_nil)) (da_cons (de_callTy cb_int (by rfl) T.b_int boot_int (da_cons (de_callIoC (i := 0) (ms := [false]) C__law_take hr (by decide) (by rfl) (da_cons (de_var (pv 0)) (da_cons de_int da_nil))) da_nil)) da_nil)) (by rfl)) (dss_cons (ds_set (i := 5) nd rfl (Or.inl rfl) (de_callTy cb_int (by rfl) T.b_int boot_int (da_cons (de_callIoC (i := 0) (ms := [false]) C__law_of hr (by decide) (by rfl) (da_cons (de_var (pv 0)) (da_cons (de_lst (da_cons de_int (da_cons de_int (da_cons de_int (da_cons de_int (da_cons de_int (da_cons (de_callTy cb_int (by rfl) T.b_int boot_int (da_cons (de_callIoC (i := 0) (ms := [false]) C__law_take hr (by decide) (by rfl) (da_cons (de_var (pv 0)) (da_cons de_int da_nil))) da_nil)) da_nil))))))) da_nil))) da_nil))) (dss_cons (ds_set (i := 6) nd rfl (Or.inl rfl) (de_callC (ms := [false, false, false, false]) C_least_charge hr (by decide) (by rfl) (da_cons (de_var (pv 1)) (da_cons (de_var (pv 3)) (da_cons (de_var (pv 4)) (da_cons (de_var (pv 5)) da_nil)))))) (dss_cons (ds_if (dt_cmp co_is (de_var (pv 2)) de_non (nomark _)) (dss_one (ds_ret (de_cmp co_is (de_var (pv 6)) de_non (nomark _)))) dss_nil) (dss_cons (ds_unp (de_var (pv 2)) (dg_tup rfl (dgs_cons (dg_name (i := 7) nd rfl (Or.inl rfl)) (dgs_cons (dg_name (i := 8) nd rfl (Or.inl rfl)) dgs_nil)))) (dss_cons (ds_par (i := 9) (j := 10) rfl nd rfl rfl (by decide) rfl rfl (da_cons (de_callB (cb_sum rfl) (by rfl) T.b_sum boot_sum (da_cons (de_var (pv 7)) da_nil)) (da_cons (de_ix io_ix (de_var (pv 7)) (de_var (pv 3)) (fun _ _ => rfl)) da_nil)) (by rfl)) (dss_cons (ds_if (dt_cmp (co_eq hr) (de_var (pv 3)) (de_var (pv 4)) (nomark _)) (dss_one (ds_set (i := 11) nd rfl (Or.inl rfl) (de_if (dt_cmp co_le (de_op bo_mul de_int (de_var (pv 10))) (de_op bo_mul (de_var (pv 5)) (de_var (pv 9))) (nomark _)) de_int de_non))) (dss_one (ds_if (dt_cmp co_le (de_op bo_mul de_int (de_var (pv 10))) (de_op bo_mul (de_var (pv 5)) (de_var (pv 9))) (nomark _)) (dss_one (ds_set (i := 11) nd rfl (Or.inl rfl) de_int)) (dss_one (ds_if (dt_cmp (co_eq hr) (de_var (pv 5)) de_int (nomark _)) (dss_one (ds_set (i := 11) nd rfl (Or.inl rfl) de_non)) (dss_one (ds_set (i := 11) nd rfl (Or.inl rfl) (de_un uo_neg (de_op bo_fdiv (de_op bo_sub (de_op bo_mul (de_var (pv 5)) (de_var (pv 9))) (de_op bo_mul de_int (de_var (pv 10)))) (de_op bo_mul (de_var (pv 5)) (de_var (pv 8)))))))))))) (dss_cons (ds_if (dt_cmp (co_ne hr) (de_callB (cb_repr hr) (by rfl) T.b_repr boot_repr (da_cons (de_var (pv 6)) da_nil)) (de_callB (cb_repr hr) (by rfl) T.b_repr boot_repr (da_cons (de_var (pv 11)) da_nil)) (nomark _)) (dss_one (ds_ret de_bl)) dss_nil) (dss_cons (ds_if (dt_pw (dw_or (dt_cmp co_is (de_var (pv 6)) de_non (nomark _)) (dw_or (dt_not (dt_cmp co_le (de_var (pv 6)) (de_op bo_pow de_int de_int) (nomark _))) (dw_or1 (dt_cmp co_gt (de_callB cb_len (by rfl) T.b_len boot_len (da_cons (de_var (pv 1)) da_nil)) de_int (nomark _)))))) (dss_one (ds_ret de_bl)) dss_nil) (dss_cons (ds_set (i := 12) nd rfl (Or.inl rfl) (de_callC (ms := [false]) C_held hr (by decide) (by rfl) (da_cons (de_op bo_add (de_var (pv 1)) (de_tup (da_cons (de_tup (da_cons de_str (da_cons (de_var (pv 4)) (da_cons (de_var (pv 6)) da_nil)))) da_nil))) da_nil))) (dss_cons (ds_if (dt_cmp co_gt (de_op bo_mul de_int (de_ix io_ix (de_ix io_ix (de_var (pv 12)) de_int (fun _ _ => rfl)) (de_var (pv 3)) (fun _ _ => rfl))) (de_op bo_mul (de_var (pv 5)) (de_callB (cb_sum rfl) (by rfl) T.b_sum boot_sum (da_cons (de_ix io_ix (de_var (pv 12)) de_int (fun _ _ => rfl)) da_nil))) (nomark _)) (dss_one (ds_ret de_bl)) dss_nil) (dss_cons (ds_if (dt_cmp co_gt (de_var (pv 6)) de_int (nomark _)) (dss_cons (ds_set (i := 13) nd rfl (Or.inl rfl) (de_callC (ms := [false]) C_held hr (by decide) (by rfl) (da_cons (de_op bo_add (de_var (pv 1)) (de_tup (da_cons (de_tup (da_cons de_str (da_cons (de_var (pv 4)) (da_cons (de_op bo_sub (de_var (pv 6)) de_int) da_nil)))) da_nil))) da_nil))) (dss_one (ds_ret (de_cmp co_gt (de_op bo_mul de_int (de_ix io_ix (de_ix io_ix (de_var (pv 13)) de_int (fun _ _ => rfl)) (de_var (pv 3)) (fun _ _ => rfl))) (de_op bo_mul (de_var (pv 5)) (de_callB (cb_sum rfl) (by rfl) T.b_sum boot_sum (da_cons (de_ix io_ix (de_var (pv 13)) de_int (fun _ _ => rfl)) da_nil))) (nomark _))))) dss_nil) (dss_one (ds_ret de_bl))))))))))))))
theorem sc__law_is_parted_right : FnScope N__law_is_parted_right ["pot", "deeds", "due"] (defScope s__law_is_parted_right) := ⟨rfl, rfl, rfl, by decide +kernel, rfl, by decide +kernel, by decide +kernel⟩
theorem w__law_is_parted_right (T : Txt mg) (C__law_take : CalG P w K mg base 1 "_law_take" sp__law_take) (C__law_held : CalG P w K mg base 2 "_law_held" sp__law_held) (C_held : CalG P w K mg base 4 "held" sp_held) (f : Addr) (cdv : Value) (A : Around) (outer : List Env) (s : Shared) (H : Hp) (hr : RoomG 4 (A.deeper (PyProof.Rows.envOfC "_law_is_parted_right" (defScope s__law_is_parted_right) s.heap.objs.size f cdv))) :
    DSs (cxOf CX0 P w K mg base N__law_is_parted_right "_law_is_parted_right" (defScope s__law_is_parted_right) f cdv A outer s H EN).nox (defBody s__law_is_parted_right) t__law_is_parted_right := by
  have nd := (sc__law_is_parted_right).nd
  exact (dss_cons (ds_set (i := 3) nd rfl (Or.inl rfl) (de_callTy cb_int (by rfl) T.b_int boot_int (da_cons (de_callIoC (i := 0) (ms := [false]) C__law_take hr (by decide) (by rfl) (da_cons (de_var (pv 0)) (da_cons (de_op bo_add (de_callB cb_len (by rfl) T.b_len boot_len (da_cons (de_var (pv 1)) da_nil)) de_int) da_nil))) da_nil))) (dss_cons (ds_set (i := 4) nd rfl (Or.inl rfl) (de_callC (ms := [false]) C__law_held hr (by decide) (by rfl) (da_cons (de_slice sl_any (de_var (pv 1)) dpo_none (dpo_some (de_var (pv 3)))) da_nil))) (dss_cons (ds_if (dt_cmp (co_ne hr) (de_callB (cb_repr hr) (by rfl) T.b_repr boot_repr (da_cons (de_callC (ms := [false]) C_held hr (by decide) (by rfl) (da_cons (de_slice sl_any (de_var (pv 1)) dpo_none (dpo_some (de_var (pv 3)))) da_nil)) da_nil)) (de_callB (cb_repr hr) (by rfl) T.b_repr boot_repr (da_cons (de_var (pv 4)) da_nil)) (nomark _)) (dss_one (ds_ret de_bl)) dss_nil) (dss_cons (ds_if (dt_cmp co_is (de_var (pv 4)) de_non (nomark _)) (dss_one (ds_ret (de_cmp co_is (de_var (pv 2)) de_non (nomark _)))) dss_nil) (dss_cons (ds_unp (de_var (pv 4)) (dg_tup rfl (dgs_cons (dg_name (i := 5) nd rfl (Or.inl rfl)) (dgs_cons (dg_name (i := 6) nd rfl (Or.inr rfl)) dgs_nil)))) (dss_cons (ds_set (i := 7) nd rfl (Or.inl rfl) (de_lst da_nil)) (dss_cons (ds_for PassesOwn.never rfl (di_seq (de_slice sl_any (de_var (pv 1)) (dpo_some (de_var (pv 3))) dpo_none)) (dg_name (i := 8) nd rfl (Or.inl rfl)) (dss_one (ds_expr (de_app (pv 7) (de_if (dt_cmp (co_ne hr) (de_ix io_ix (de_var (pv 8)) de_int (fun _ _ => rfl)) de_str (nomark _)) (de_op bo_add (de_slice sl_any (de_var (pv 8)) dpo_none (dpo_some (de_un uo_neg de_int))) (de_tup (da_cons (de_op bo_mul (de_ix io_ix (de_var (pv 8)) (de_un uo_neg de_int) (fun _ _ => rfl)) (de_var (pv 6))) da_nil))) (de_var (pv 8))) (fun {_ _} => pe_bm PySem.F.plainAttrs_list PySem.F.slot_list_append PySem.F.type_list_append mt_append))))) (dss_cons (ds_set (i := 9) nd rfl (Or.inl rfl) (de_callTy cb_tuple (by rfl) T.b_tuple boot_tuple (da_cons (de_op bo_add (de_lcV [("kind", 11), ("one", 12)] rfl nd (dc_enum (by rfl) T.b_enumerate (da_cons (de_var (pv 5)) da_nil)) (blkOk_by (own := [("kind", 11), ("one", 12)]) (N := N__law_is_parted_right) (sc := (defScope s__law_is_parted_right)) (by decide +kernel)) (fun _ _ _ _ _ => (dg_tup rfl (dgs_cons (dg_name (i := 11) nd rfl (Or.inl rfl)) (dgs_cons (dg_name (i := 12) nd rfl (Or.inl rfl)) dgs_nil)))) (fun _ _ _ _ _ => (dts_one (dt_cmp co_gt (de_var (pv 12)) de_int (nomark _)))) (fun _ _ _ _ _ => (de_tup (da_cons de_str (da_cons (de_var (pv 11)) (da_cons (de_var (pv 12)) da_nil)))))) (de_var (pv 7))) da_nil))) (dss_cons (ds_if (dt_pw (dw_or (dt_cmp co_gt (de_callB cb_len (by rfl) T.b_len boot_len (da_cons (de_var (pv 9)) da_nil)) de_int (nomark _)) (dw_or1 (dt_truth (de_callB (cb_any rfl) (by rfl) T.b_any boot_any (da_cons (de_lcV [("deed", 8)] rfl nd (dc_seq (de_var (pv 9))) (blkOk_by (own := [("deed", 8)]) (N := N__law_is_parted_right) (sc := (defScope s__law_is_parted_right)) (by decide +kernel)) (fun _ _ _ _ _ => (dg_name (i := 8) nd rfl (Or.inl rfl))) (fun _ _ _ _ _ => dts_nil) (fun _ _ _ _ _ => (de_and (de_cmp (co_ne hr) (de_ix io_ix (de_var (pv 8)) de_int (fun _ _ => rfl)) de_str (nomark _)) (de_one (de_cmp co_gt (de_ix io_ix (de_var (pv 8)) (de_un uo_neg de_int) (fun _ _ => rfl)) (de_op bo_pow de_int de_int) (nomark _)))))) da_nil)))))) (dss_one (ds_ret de_bl)) dss_nil) (dss_cons (ds_set (i := 10) nd rfl (Or.inr rfl) (de_callC (ms := [false]) C_held hr (by decide) (by rfl) (da_cons (de_var (pv 9)) da_nil))) (dss_cons (ds_if (dt_pw (dw_or (dt_cmp co_is (de_var (pv 2)) de_non (nomark _)) (dw_or1 (dt_cmp co_is (de_var (pv 10)) de_non (nomark _))))) (dss_one (ds_ret (de_and (de_cmp co_is (de_var (pv 2)) de_non (nomark _)) (de_one (de_cmp co_is (de_var (pv 10)) de_non (nomark _)))))) dss_nil) (dss_one (ds_ret (de_callB (cb_all rfl) (by rfl) T.b_all boot_all (da_cons (de_lcV [("one", 12), ("mine", 13)] rfl nd (dc_zip2 (by rfl) T.b_zip (da_cons (de_ix io_ix (de_var (pv 10)) de_int (fun _ _ => rfl)) (da_cons (de_ix io_ix (de_var (pv 2)) de_int (fun _ _ => rfl)) da_nil))) (blkOk_by (own := [("one", 12), ("mine", 13)]) (N := N__law_is_parted_right) (sc := (defScope s__law_is_parted_right)) (by decide +kernel)) (fun _ _ _ _ _ => (dg_tup rfl (dgs_cons (dg_name (i := 12) nd rfl (Or.inl rfl)) (dgs_cons (dg_name (i := 13) nd rfl (Or.inl rfl)) dgs_nil)))) (fun _ _ _ _ _ => dts_nil) (fun _ _ _ _ _ => (de_cmp (co_eq hr) (de_op bo_mul (de_var (pv 12)) (de_ix io_ix (de_var (pv 2)) de_int (fun _ _ => rfl))) (de_op bo_mul (de_op bo_mul (de_var (pv 13)) (de_ix io_ix (de_var (pv 10)) de_int (fun _ _ => rfl))) (de_var (pv 6))) (nomark _)))) da_nil)))))))))))))))
theorem sc__law_some : FnScope N__law_some ["pot", "pool", "many"] (defScope s__law_some) := ⟨rfl, rfl, rfl, by decide +kernel, rfl, by decide +kernel, by decide +kernel⟩
theorem w__law_some (T : Txt mg) (C__law_take : CalG P w K mg base 1 "_law_take" sp__law_take) (f : Addr) (cdv : Value) (A : Around) (outer : List Env) (s : Shared) (H : Hp) (hr : RoomG 1 (A.deeper (PyProof.Rows.envOfC "_law_some" (defScope s__law_some) s.heap.objs.size f cdv))) :
    DSs (cxOf CX0 P w K mg base N__law_some "_law_some" (defScope s__law_some) f cdv A outer s H EN).nox (defBody s__law_some) t__law_some := by
  have nd := (sc__law_some).nd
  exact (dss_cons (ds_par (i := 3) (j := 4) rfl nd rfl rfl (by decide) rfl rfl (da_cons (de_callTy cb_list (by rfl) T.b_list boot_list (da_cons (de_var (pv 1)) da_nil)) (da_cons (de_lst da_nil) da_nil)) (by rfl)) (dss_cons (ds_for PassesOwn.never rfl (di_rng1 (by rfl) T.b_range (da_cons (de_var (pv 2)) da_nil)) (dg_name (i := 5) nd rfl (Or.inl rfl)) (dss_one (ds_expr (de_app (pv 4) (de_popAt (pv 3) (de_callIoC (i := 0) (ms := [false]) C__law_take hr (by decide) (by rfl) (da_cons (de_var (pv 0)) (da_cons (de_callB cb_len (by rfl) T.b_len boot_len (da_cons (de_var (pv 3)) da_nil)) da_nil))) (fun {_ _} => pe_bm PySem.F.plainAttrs_list PySem.F.slot_list_pop PySem.F.type_list_pop mt_popAt)) (fun {_ _} => pe_bm PySem.F.plainAttrs_list PySem.F.slot_list_append PySem.F.type_list_append mt_append))))) (dss_one (ds_ret (de_var (pv 4))))))
theorem sc__law_are_others_right : FnScope N__law_are_others_right ["pot", "deeds", "due"] (defScope s__law_are_others_right) := ⟨rfl, rfl, rfl, by decide +kernel, rfl, by decide +kernel, by decide +kernel⟩
theorem w__law_are_others_right (T : Txt mg) (C__law_some : CalG P w K mg base 2 "_law_some" sp__law_some) (C_held : CalG P w K mg base 4 "held" sp_held) (f : Addr) (cdv : Value) (A : Around) (outer : List Env) (s : Shared) (H : Hp) (hr : RoomG 4 (A.deeper (PyProof.Rows.envOfC "_law_are_others_right" (defScope s__law_are_others_right) s.heap.objs.size f cdv))) :
    DSs (cxOf CX0 P w K mg base N__law_are_others_right "_law_are_others_right" (defScope s__law_are_others_right) f cdv A outer s H EN).nox (defBody s__law_are_others_right) t__law_are_others_right := by
  have nd := (sc__law_are_others_right).nd
  exact (dss_cons (ds_set (i := 3) nd rfl (Or.inr rfl) (de_lcV [("kind", 7)] rfl nd (dc_seq (de_callIoC (i := 0) (ms := [false, false]) C__law_some hr (by decide) (by rfl) (da_cons (de_var (pv 0)) (da_cons (de_lstRg rfl (by rfl) T.b_list (drg_1 (by rfl) T.b_range de_int)) (da_cons de_int da_nil))))) (blkOk_by (own := [("kind", 7)]) (N := N__law_are_others_right) (sc := (defScope s__law_are_others_right)) (by decide +kernel)) (fun _ _ _ _ _ => (dg_name (i := 7) nd rfl (Or.inl rfl))) (fun _ _ _ _ _ => dts_nil) (fun _ _ _ _ _ => (de_callTy cb_int (by rfl) T.b_int boot_int (da_cons (de_var (pv 7)) da_nil))))) (dss_cons (ds_set (i := 4) nd rfl (Or.inl rfl) (de_callTy cb_tuple (by rfl) T.b_tuple boot_tuple (da_cons (de_lcV [("deed", 8)] rfl nd (dc_seq (de_var (pv 1))) (blkOk_by (own := [("deed", 8)]) (N := N__law_are_others_right) (sc := (defScope s__law_are_others_right)) (by decide +kernel)) (fun _ _ _ _ _ => (dg_name (i := 8) nd rfl (Or.inl rfl))) (fun _ _ _ _ _ => dts_nil) (fun _ _ _ _ _ => (de_if (dt_cmp (co_eq hr) (de_ix io_ix (de_var (pv 8)) de_int (fun _ _ => rfl)) de_str (nomark _)) (de_tup (da_cons de_str (da_cons (de_ix io_ix (de_var (pv 3)) (de_ix io_ix (de_var (pv 8)) de_int (fun _ _ => rfl)) (fun _ _ => rfl)) (da_cons (de_ix io_ix (de_var (pv 8)) de_int (fun _ _ => rfl)) da_nil)))) (de_var (pv 8))))) da_nil))) (dss_cons (ds_set (i := 5) nd rfl (Or.inr rfl) (de_callC (ms := [false]) C_held hr (by decide) (by rfl) (da_cons (de_var (pv 4)) da_nil))) (dss_cons (ds_if (dt_cmp co_is (de_var (pv 2)) de_non (nomark _)) (dss_one (ds_ret (de_cmp co_is (de_var (pv 5)) de_non (nomark _)))) dss_nil) (dss_cons (ds_if (dt_pw (dw_or (dt_cmp co_is (de_var (pv 5)) de_non (nomark _)) (dw_or (dt_cmp (co_ne hr) (de_ix io_ix (de_var (pv 5)) de_int (fun _ _ => rfl)) (de_ix io_ix (de_var (pv 2)) de_int (fun _ _ => rfl)) (nomark _)) (dw_or1 (dt_truth (de_callB (cb_any rfl) (by rfl) T.b_any boot_any (da_cons (de_lcV [("kind", 7), ("one", 9)] rfl nd (dc_enum (by rfl) T.b_enumerate (da_cons (de_ix io_ix (de_var (pv 2)) de_int (fun _ _ => rfl)) da_nil)) (blkOk_by (own := [("kind", 7), ("one", 9)]) (N := N__law_are_others_right) (sc := (defScope s__law_are_others_right)) (by decide +kernel)) (fun _ _ _ _ _ => (dg_tup rfl (dgs_cons (dg_name (i := 7) nd rfl (Or.inl rfl)) (dgs_cons (dg_name (i := 9) nd rfl (Or.inl rfl)) dgs_nil)))) (fun _ _ _ _ _ => dts_nil) (fun _ _ _ _ _ => (de_cmp (co_ne hr) (de_ix io_ix (de_ix io_ix (de_var (pv 5)) de_int (fun _ _ => rfl)) (de_ix io_ix (de_var (pv 3)) (de_var (pv 7)) (fun _ _ => rfl)) (fun _ _ => rfl)) (de_var (pv 9)) (nomark _)))) da_nil))))))) (dss_one (ds_ret de_bl)) dss_nil) (dss_cons (ds_if (dt_cmp co_lt (de_callB cb_len (by rfl) T.b_len boot_len (da_cons (de_var (pv 1)) da_nil)) de_int (nomark _)) (dss_cons (ds_if (dt_cmp (co_ne hr) (de_callB (cb_repr hr) (by rfl) T.b_repr boot_repr (da_cons (de_callC (ms := [false]) C_held hr (by decide) (by rfl) (da_cons (de_op bo_add (de_var (pv 1)) (de_tup (da_cons (de_tup (da_cons de_str da_nil)) (da_cons (de_tup (da_cons de_str (da_cons de_int (da_cons de_int da_nil)))) da_nil)))) da_nil)) da_nil)) (de_callB (cb_repr hr) (by rfl) T.b_repr boot_repr (da_cons (de_tup (da_cons (de_tup (da_cons de_int (da_cons de_int (da_cons de_int (da_cons de_int (da_cons de_int (da_cons de_int (da_cons de_int (da_cons de_int da_nil))))))))) (da_cons de_int da_nil))) da_nil)) (nomark _)) (dss_one (ds_ret de_bl)) dss_nil) (dss_one (ds_if (dt_pw (dw_and (dt_cmp (co_eq hr) (de_op bo_mod (de_callB (cb_sum rfl) (by rfl) T.b_sum boot_sum (da_cons (de_ix io_ix (de_var (pv 2)) de_int (fun _ _ => rfl)) da_nil)) (de_ix io_ix (de_var (pv 2)) de_int (fun _ _ => rfl))) de_int (nomark _)) (dw_and1 (dt_cmp co_le (de_op bo_fdiv (de_callB (cb_sum rfl) (by rfl) T.b_sum boot_sum (da_cons (de_ix io_ix (de_var (pv 2)) de_int (fun _ _ => rfl)) da_nil)) (de_ix io_ix (de_var (pv 2)) de_int (fun _ _ => rfl))) (de_op bo_sub (de_op bo_pow de_int de_int) de_int) (nomark _))))) (dss_cons (ds_set (i := 6) nd rfl (Or.inl rfl) (de_op bo_fdiv (de_callB (cb_sum rfl) (by rfl) T.b_sum boot_sum (da_cons (de_ix io_ix (de_var (pv 2)) de_int (fun _ _ => rfl)) da_nil)) (de_ix io_ix (de_var (pv 2)) de_int (fun _ _ => rfl)))) (dss_cons (ds_if (dt_cmp (co_ne hr) (de_callB (cb_repr hr) (by rfl) T.b_repr boot_repr (da_cons (de_callC (ms := [false]) C_held hr (by decide) (by rfl) (da_cons (de_op bo_add (de_var (pv 1)) (de_tup (da_cons (de_tup (da_cons de_str (da_cons (de_var (pv 6)) da_nil))) da_nil))) da_nil)) da_nil)) (de_callB (cb_repr hr) (by rfl) T.b_repr boot_repr (da_cons (de_tup (da_cons (de_op bo_mul (de_tup (da_cons de_int da_nil)) de_int) (da_cons de_int da_nil))) da_nil)) (nomark _)) (dss_one (ds_ret de_bl)) dss_nil) (dss_one (ds_ret (de_cmp co_is (de_callC (ms := [false]) C_held hr (by decide) (by rfl) (da_cons (de_op bo_add (de_var (pv 1)) (de_tup (da_cons (de_tup (da_cons de_str (da_cons (de_op bo_add (de_var (pv 6)) de_int) da_nil))) da_nil))) da_nil)) de_non (nomark _)))))) dss_nil))) dss_nil) (dss_one (ds_ret de_bl))))))))
theorem sc__law_right : FnScope N__law_right ["pot"] (defScope s__law_right) := ⟨rfl, rfl, rfl, by decide +kernel, rfl, by decide +kernel, by decide +kernel⟩
theorem w__law_right (T : Txt mg) (C__law_deeds_drawn : CalG P w K mg base 3 "_law_deeds_drawn" sp__law_deeds_drawn) (C__law_of : CalG P w K mg base 2 "_law_of" sp__law_of) (C__law_held : CalG P w K mg base 2 "_law_held" sp__law_held) (C_held : CalG P w K mg base 4 "held" sp_held) (C__law_is_charge_right : CalG P w K mg base 5 "_law_is_charge_right" sp__law_is_charge_right) (C__law_is_parted_right : CalG P w K mg base 5 "_law_is_parted_right" sp__law_is_parted_right) (C__law_are_others_right : CalG P w K mg base 5 "_law_are_others_right" sp__law_are_others_right) (f : Addr) (cdv : Value) (A : Around) (outer : List Env) (s : Shared) (H : Hp) (hr : RoomG 5 (A.deeper (PyProof.Rows.envOfC "_law_right" (defScope s__law_right) s.heap.objs.size f cdv))) :
    DSs (cxOf CX0 P w K mg base N__law_right "_law_right" (defScope s__law_right) f cdv A outer s H EN).nox (defBody s__law_right) t__law_right := by
  have nd := (sc__law_right).nd
  exact (dss_cons (ds_set (i := 1) nd rfl (Or.inl rfl) (de_callIoC (i := 0) (ms := [false]) C__law_deeds_drawn hr (by decide) (by rfl) (da_cons (de_var (pv 0)) (da_cons (de_callTy cb_int (by rfl) T.b_int boot_int (da_cons (de_callIoC (i := 0) (ms := [false]) C__law_of hr (by decide) (by rfl) (da_cons (de_var (pv 0)) (da_cons (de_lst (da_cons de_int (da_cons de_int da_nil))) da_nil))) da_nil)) da_nil)))) (dss_cons (ds_set (i := 2) nd rfl (Or.inl rfl) (de_callC (ms := [false]) C__law_held hr (by decide) (by rfl) (da_cons (de_var (pv 1)) da_nil))) (dss_cons (ds_if (dt_pw (dw_or (dt_cmp (co_ne hr) (de_callB (cb_repr hr) (by rfl) T.b_repr boot_repr (da_cons (de_callC (ms := [false]) C_held hr (by decide) (by rfl) (da_cons (de_var (pv 1)) da_nil)) da_nil)) (de_callB (cb_repr hr) (by rfl) T.b_repr boot_repr (da_cons (de_var (pv 2)) da_nil)) (nomark _)) (dw_or1 (dt_not (dt_truth (de_callIoC (i := 0) (ms := [false, false]) C__law_is_charge_right hr (by decide) (by rfl) (da_cons (de_var (pv 0)) (da_cons (de_var (pv 1)) (da_cons (de_var (pv 2)) da_nil))))))))) (dss_one (ds_ret de_bl)) dss_nil) (dss_cons (ds_if (dt_pw (dw_or (dt_not (dt_truth (de_callIoC (i := 0) (ms := [false, false]) C__law_is_parted_right hr (by decide) (by rfl) (da_cons (de_var (pv 0)) (da_cons (de_var (pv 1)) (da_cons (de_var (pv 2)) da_nil)))))) (dw_or1 (dt_not (dt_truth (de_callIoC (i := 0) (ms := [false, false]) C__law_are_others_right hr (by decide) (by rfl) (da_cons (de_var (pv 0)) (da_cons (de_var (pv 1)) (da_cons (de_var (pv 2)) da_nil))))))))) (dss_one (ds_ret de_bl)) dss_nil) (dss_cons (ds_set (i := 3) nd rfl (Or.inl rfl) (de_op bo_add (de_slice sl_any (de_var (pv 1)) dpo_none (dpo_some de_int)) (de_tup (da_cons (de_tup (da_cons de_str (da_cons (de_op bo_pow de_int de_int) da_nil))) da_nil)))) (dss_one (ds_ret (de_cmp (co_eq hr) (de_callB (cb_repr hr) (by rfl) T.b_repr boot_repr (da_cons (de_callC (ms := [false]) C_held hr (by decide) (by rfl) (da_cons (de_var (pv 3)) da_nil)) da_nil)) (de_callB (cb_repr hr) (by rfl) T.b_repr boot_repr (da_cons (de_callC (ms := [false]) C__law_held hr (by decide) (by rfl) (da_cons (de_var (pv 3)) da_nil)) da_nil)) (nomark _)))))))))
theorem sc_law : FnScope N_law ["script"] (defScope s_law) := ⟨rfl, rfl, rfl, by decide +kernel, rfl, by decide +kernel, by decide +kernel⟩
theorem w_law (T : Txt mg) (C__law_places : CalG P w K mg base 1 "_law_places" sp__law_places) (C__law_pot : CalG P w K mg base 1 "_law_pot" sp__law_pot) (C__law_right : CalG P w K mg base 6 "_law_right" sp__law_right) (f : Addr) (cdv : Value) (A : Around) (outer : List Env) (s : Shared) (H : Hp) (hr : RoomG 6 (A.deeper (PyProof.Rows.envOfC "law" (defScope s_law) s.heap.objs.size f cdv))) :
    DSs (cxOf CX0 P w K mg base N_law "law" (defScope s_law) f cdv A outer s H EN).nox (defBody s_law) t_law := by
  have nd := (sc_law).nd
  exact (dss_cons (ds_for PassesOwn.never rfl (di_seq (de_callC (ms := [false, false]) C__law_places hr (by decide) (by rfl) (da_cons (de_var (pv 0)) (da_cons de_int da_nil)))) (dg_name (i := 1) nd rfl (Or.inl rfl)) (dss_cons (ds_set (i := 2) nd rfl (Or.inr rfl) (de_callC (ms := [false, false]) C__law_pot hr (by decide) (by rfl) (da_cons (de_var (pv 0)) (da_cons (de_var (pv 1)) da_nil)))) (dss_one (ds_if (dt_not (dt_truth (de_callB (cb_all rfl) (by rfl) T.b_all boot_all (da_cons (de_lcV [("lap", 3)] rfl nd (dc_of (di_rng1 (by rfl) T.b_range (da_cons de_int da_nil))) (blkOk_by (own := [("lap", 3)]) (N := N_law) (sc := (defScope s_law)) (by decide +kernel)) (fun _ _ _ _ _ => (dg_name (i := 3) nd rfl (Or.inl rfl))) (fun _ _ _ _ _ => dts_nil) (fun _ _ _ _ _ => (de_callIoC (i := 2) (ms := []) C__law_right hr (by decide) (by rfl) (da_cons (de_var (pv 2)) da_nil)))) da_nil)))) (dss_one (ds_ret de_bl)) dss_nil)))) (dss_one (ds_ret de_bl)))
end
end K24
set_option Elab.async false
set_option linter.all false
set_option maxRecDepth 100000
set_option maxHeartbeats 400000
namespace K24
open PySem L2 DL
open PyProof.Rows (boot_repr boot_sum boot_all boot_any boot_max boot_min boot_abs boot_int boot_list boot_tuple)
section
variable {P : Program} {w : World} {K : PySem.W.Frag} {mg : Str → Option Value} {base : Heap}
theorem g__law_places (T : Txt mg) {f : Addr} {fd : FuncData} (Fn : Fun K "_law_places" "_law_places" s__law_places f fd) : FnG P w K mg base 1 f fd ["script", "most"] (toSp K sp__law_places) :=
  fn_d Fn sc__law_places sp__law_places len__law_places t__law_places (fun cdv A outer s H hr => w__law_places T  f cdv A outer s H hr) ok__law_places
theorem g__law_pot (T : Txt mg) {f : Addr} {fd : FuncData} (Fn : Fun K "_law_pot" "_law_pot" s__law_pot f fd) : FnG P w K mg base 1 f fd ["script", "place"] (toSp K sp__law_pot) :=
  fn_d Fn sc__law_pot sp__law_pot len__law_pot t__law_pot (fun cdv A outer s H hr => w__law_pot T  f cdv A outer s H hr) ok__law_pot
theorem g__law_take (T : Txt mg) {f : Addr} {fd : FuncData} (Fn : Fun K "_law_take" "_law_take" s__law_take f fd) : FnG P w K mg base 1 f fd ["pot", "upto"] (toSp K sp__law_take) :=
  fn_d Fn sc__law_take sp__law_take len__law_take t__law_take (fun cdv A outer s H hr => w__law_take T  f cdv A outer s H hr) ok__law_take
theorem g__law_of (T : Txt mg) (C__law_take : CalG P w K mg base 1 "_law_take" sp__law_take) {f : Addr} {fd : FuncData} (Fn : Fun K "_law_of" "_law_of" s__law_of f fd) : FnG P w K mg base 2 f fd ["pot", "some"] (toSp K sp__law_of) :=
  fn_d Fn sc__law_of sp__law_of len__law_of t__law_of (fun cdv A outer s H hr => w__law_of T C__law_take f cdv A outer s H hr) ok__law_of
theorem g__law_deeds_drawn (T : Txt mg) (C__law_of : CalG P w K mg base 2 "_law_of" sp__law_of) (C__law_take : CalG P w K mg base 1 "_law_take" sp__law_take) {f : Addr} {fd : FuncData} (Fn : Fun K "_law_deeds_drawn" "_law_deeds_drawn" s__law_deeds_drawn f fd) : FnG P w K mg base 3 f fd ["pot", "most"] (toSp K sp__law_deeds_drawn) :=
  fn_d Fn sc__law_deeds_drawn sp__law_deeds_drawn len__law_deeds_drawn t__law_deeds_drawn (fun cdv A outer s H hr => w__law_deeds_drawn T C__law_of C__law_take f cdv A outer s H hr) ok__law_deeds_drawn
theorem g__law_gcd (T : Txt mg) {f : Addr} {fd : FuncData} (Fn : Fun K "_law_gcd" "_law_gcd" s__law_gcd f fd) : FnG P w K mg base 1 f fd ["one", "other"] (toSp K sp__law_gcd) :=
  fn_d Fn sc__law_gcd sp__law_gcd len__law_gcd t__law_gcd (fun cdv A outer s H hr => w__law_gcd T  f cdv A outer s H hr) ok__law_gcd
theorem g__law_held (T : Txt mg) (C__law_gcd : CalG P w K mg base 1 "_law_gcd" sp__law_gcd) {f : Addr} {fd : FuncData} (Fn : Fun K "_law_held" "_law_held" s__law_held f fd) : FnG P w K mg base 2 f fd ["deeds"] (toSp K sp__law_held) :=
  fn_d Fn sc__law_held sp__law_held len__law_held t__law_held (fun cdv A outer s H hr => w__law_held T C__law_gcd f cdv A outer s H hr) ok__law_held
theorem g_is_tuple (T : Txt mg) {f : Addr} {fd : FuncData} (Fn : Fun K "is_tuple" "is_tuple" s_is_tuple f fd) : FnG P w K mg base 1 f fd ["value", "least", "most"] (toSp K sp_is_tuple) :=
  fn_d Fn sc_is_tuple sp_is_tuple len_is_tuple t_is_tuple (fun cdv A outer s H hr => w_is_tuple T  f cdv A outer s H hr) ok_is_tuple
theorem g_is_whole (T : Txt mg) {f : Addr} {fd : FuncData} (Fn : Fun K "is_whole" "is_whole" s_is_whole f fd) : FnG P w K mg base 1 f fd ["value"] (toSp K sp_is_whole) :=
  fn_d Fn sc_is_whole sp_is_whole len_is_whole t_is_whole (fun cdv A outer s H hr => w_is_whole T  f cdv A outer s H hr) ok_is_whole
theorem g_is_integer (T : Txt mg) (C_is_whole : CalG P w K mg base 1 "is_whole" sp_is_whole) {f : Addr} {fd : FuncData} (Fn : Fun K "is_integer" "is_integer" s_is_integer f fd) : FnG P w K mg base 2 f fd ["value", "low", "high"] (toSp K sp_is_integer) :=
  fn_d Fn sc_is_integer sp_is_integer len_is_integer t_is_integer (fun cdv A outer s H hr => w_is_integer T C_is_whole f cdv A outer s H hr) ok_is_integer
theorem g_is_deeds (T : Txt mg) (C_is_tuple : CalG P w K mg base 1 "is_tuple" sp_is_tuple) (C_is_integer : CalG P w K mg base 2 "is_integer" sp_is_integer) {f : Addr} {fd : FuncData} (Fn : Fun K "is_deeds" "is_deeds" s_is_deeds f fd) : FnG P w K mg base 3 f fd ["value"] (toSp K sp_is_deeds) :=
  fn_d Fn sc_is_deeds sp_is_deeds len_is_deeds t_is_deeds (fun cdv A outer s H hr => w_is_deeds T C_is_tuple C_is_integer f cdv A outer s H hr) ok_is_deeds
theorem g_divisor (T : Txt mg) {f : Addr} {fd : FuncData} (Fn : Fun K "divisor" "divisor" s_divisor f fd) : FnG P w K mg base 1 f fd ["one", "other"] (toSp K sp_divisor) :=
  fn_d Fn sc_divisor sp_divisor len_divisor t_divisor (fun cdv A outer s H hr => w_divisor T  f cdv A outer s H hr) ok_divisor
theorem g_held_of (T : Txt mg) (C_divisor : CalG P w K mg base 1 "divisor" sp_divisor) {f : Addr} {fd : FuncData} (Fn : Fun K "held_of" "held_of" s_held_of f fd) : FnG P w K mg base 2 f fd ["deeds"] (toSp K sp_held_of) :=
  fn_d Fn sc_held_of sp_held_of len_held_of t_held_of (fun cdv A outer s H hr => w_held_of T C_divisor f cdv A outer s H hr) ok_held_of
theorem g_held (T : Txt mg) (C_is_deeds : CalG P w K mg base 3 "is_deeds" sp_is_deeds) (C_held_of : CalG P w K mg base 2 "held_of" sp_held_of) {f : Addr} {fd : FuncData} (Fn : Fun K "held" "held" s_held f fd) : FnG P w K mg base 4 f fd ["deeds"] (toSp K sp_held) :=
  fn_d Fn sc_held sp_held len_held t_held (fun cdv A outer s H hr => w_held T C_is_deeds C_held_of f cdv A outer s H hr) ok_held
theorem g_least_charge (T : Txt mg) (C_is_deeds : CalG P w K mg base 3 "is_deeds" sp_is_deeds) (C_is_integer : CalG P w K mg base 2 "is_integer" sp_is_integer) (C_held_of : CalG P w K mg base 2 "held_of" sp_held_of) {f : Addr} {fd : FuncData} (Fn : Fun K "least_charge" "least_charge" s_least_charge f fd) : FnG P w K mg base 4 f fd ["deeds", "kind", "other", "parts"] (toSp K sp_least_charge) :=
  fn_d Fn sc_least_charge sp_least_charge len_least_charge t_least_charge (fun cdv A outer s H hr => w_least_charge T C_is_deeds C_is_integer C_held_of f cdv A outer s H hr) ok_least_charge
theorem g__law_is_charge_right (T : Txt mg) (C__law_take : CalG P w K mg base 1 "_law_take" sp__law_take) (C__law_of : CalG P w K mg base 2 "_law_of" sp__law_of) (C_least_charge : CalG P w K mg base 4 "least_charge" sp_least_charge) (C_held : CalG P w K mg base 4 "held" sp_held) {f : Addr} {fd : FuncData} (Fn : Fun K "_law_is_charge_right" "_law_is_charge_right" s__law_is_charge_right f fd) : FnG P w K mg base 5 f fd ["pot", "deeds", "due"] (toSp K sp__law_is_charge_right) :=
  fn_d Fn sc__law_is_charge_right sp__law_is_charge_right len__law_is_charge_right t__law_is_charge_right (fun cdv A outer s H hr => w__law_is_charge_right T C__law_take C__law_of C_least_charge C_held f cdv A outer s H hr) ok__law_is_charge_right
theorem g__law_is_parted_right (T : Txt mg) (C__law_take : CalG P w K mg base 1 "_law_take" sp__law_take) (C__law_held : CalG P w K mg base 2 "_law_held" sp__law_held) (C_held : CalG P w K mg base 4 "held" sp_held) {f : Addr} {fd : FuncData} (Fn : Fun K "_law_is_parted_right" "_law_is_parted_right" s__law_is_parted_right f fd) : FnG P w K mg base 5 f fd ["pot", "deeds", "due"] (toSp K sp__law_is_parted_right) :=
  fn_d Fn sc__law_is_parted_right sp__law_is_parted_right len__law_is_parted_right t__law_is_parted_right (fun cdv A outer s H hr => w__law_is_parted_right T C__law_take C__law_held C_held f cdv A outer s H hr) ok__law_is_parted_right
theorem g__law_some (T : Txt mg) (C__law_take : CalG P w K mg base 1 "_law_take" sp__law_take) {f : Addr} {fd : FuncData} (Fn : Fun K "_law_some" "_law_some" s__law_some f fd) : FnG P w K mg base 2 f fd ["pot", "pool", "many"] (toSp K sp__law_some) :=
  fn_d Fn sc__law_some sp__law_some len__law_some t__law_some (fun cdv A outer s H hr => w__law_some T C__law_take f cdv A outer s H hr) ok__law_some
theorem g__law_are_others_right (T : Txt mg) (C__law_some : CalG P w K mg base 2 "_law_some" sp__law_some) (C_held : CalG P w K mg base 4 "held" sp_held) {f : Addr} {fd : FuncData} (Fn : Fun K "_law_are_others_right" "_law_are_others_right" s__law_are_others_right f fd) : FnG P w K mg base 5 f fd ["pot", "deeds", "due"] (toSp K sp__law_are_others_right) :=
  fn_d Fn sc__law_are_others_right sp__law_are_others_right len__law_are_others_right t__law_are_others_right (fun cdv A outer s H hr => w__law_are_others_right T C__law_some C_held f cdv A outer s H hr) ok__law_are_others_right
theorem g__law_right (T : Txt mg) (C__law_deeds_drawn : CalG P w K mg base 3 "_law_deeds_drawn" sp__law_deeds_drawn) (C__law_of : CalG P w K mg base 2 "_law_of" sp__law_of) (C__law_held : CalG P w K mg base 2 "_law_held" sp__law_held) (C_held : CalG P w K mg base 4 "held" sp_held) (C__law_is_charge_right : CalG P w K mg base 5 "_law_is_charge_right" sp__law_is_charge_right) (C__law_is_parted_right : CalG P w K mg base 5 "_law_is_parted_right" sp__law_is_parted_right) (C__law_are_others_right : CalG P w K mg base 5 "_law_are_others_right" sp__law_are_others_right) {f : Addr} {fd : FuncData} (Fn : Fun K "_law_right" "_law_right" s__law_right f fd) : FnG P w K mg base 6 f fd ["pot"] (toSp K sp__law_right) :=
  fn_d Fn sc__law_right sp__law_right len__law_right t__law_right (fun cdv A outer s H hr => w__law_right T C__law_deeds_drawn C__law_of C__law_held C_held C__law_is_charge_right C__law_is_parted_right C__law_are_others_right f cdv A outer s H hr) ok__law_right
theorem g_law (T : Txt mg) (C__law_places : CalG P w K mg base 1 "_law_places" sp__law_places) (C__law_pot : CalG P w K mg base 1 "_law_pot" sp__law_pot) (C__law_right : CalG P w K mg base 6 "_law_right" sp__law_right) {f : Addr} {fd : FuncData} (Fn : Fun K "law" "law" s_law f fd) : FnG P w K mg base 7 f fd ["script"] (toSp K lawSp) :=
  fn_d Fn sc_law lawSp len_law t_law (fun cdv A outer s H hr => w_law T C__law_places C__law_pot C__law_right f cdv A outer s H hr) ok_law
end
theorem all_mk {l : PySem.W.OpenLaw} {w : World} {K : Params → PySem.W.Frag} {h : Heap} {mg : Str → Option Value} {fa f1 f2 f3 f4 f5 f6 f7 f8 f9 f10 f11 f12 f13 f14 f15 f16 f17 f18 f19 f20 f21 : Addr} (X : (K w.params).In h) (G : h.Ns mainGlobals mg) (hfa : mg "law" = some (.ref fa))
    {od1 an1 : Option Addr} {sl1 : Array (Option Value)} {oc1 kV1 dc1 pm1 cd1 ct1 : Value}
    (a1 : PySem.W.nsIn (K w.params) mainGlobals "_law_places" = some (some (.ref f1))) (l1 : (K w.params).lookup f1 = some ⟨oc1, od1, .func (PySem.W.fnOf "_law_places" "_law_places" (defArgs s__law_places) (defBody s__law_places) (defScope s__law_places) .none kV1 dc1 pm1 an1 cd1 ct1), sl1⟩) (c1 : PySem.W.codeIn (K w.params) cd1 "_law_places" = true) (k1 : PySem.W.keepIn (K w.params) (.ref f1) = true)
    {od2 an2 : Option Addr} {sl2 : Array (Option Value)} {oc2 kV2 dc2 pm2 cd2 ct2 : Value}
    (a2 : PySem.W.nsIn (K w.params) mainGlobals "_law_pot" = some (some (.ref f2))) (l2 : (K w.params).lookup f2 = some ⟨oc2, od2, .func (PySem.W.fnOf "_law_pot" "_law_pot" (defArgs s__law_pot) (defBody s__law_pot) (defScope s__law_pot) .none kV2 dc2 pm2 an2 cd2 ct2), sl2⟩) (c2 : PySem.W.codeIn (K w.params) cd2 "_law_pot" = true) (k2 : PySem.W.keepIn (K w.params) (.ref f2) = true)
    {od3 an3 : Option Addr} {sl3 : Array (Option Value)} {oc3 kV3 dc3 pm3 cd3 ct3 : Value}
    (a3 : PySem.W.nsIn (K w.params) mainGlobals "_law_take" = some (some (.ref f3))) (l3 : (K w.params).lookup f3 = some ⟨oc3, od3, .func (PySem.W.fnOf "_law_take" "_law_take" (defArgs s__law_take) (defBody s__law_take) (defScope s__law_take) .none kV3 dc3 pm3 an3 cd3 ct3), sl3⟩) (c3 : PySem.W.codeIn (K w.params) cd3 "_law_take" = true) (k3 : PySem.W.keepIn (K w.params) (.ref f3) = true)
    {od4 an4 : Option Addr} {sl4 : Array (Option Value)} {oc4 kV4 dc4 pm4 cd4 ct4 : Value}
    (a4 : PySem.W.nsIn (K w.params) mainGlobals "_law_of" = some (some (.ref f4))) (l4 : (K w.params).lookup f4 = some ⟨oc4, od4, .func (PySem.W.fnOf "_law_of" "_law_of" (defArgs s__law_of) (defBody s__law_of) (defScope s__law_of) .none kV4 dc4 pm4 an4 cd4 ct4), sl4⟩) (c4 : PySem.W.codeIn (K w.params) cd4 "_law_of" = true) (k4 : PySem.W.keepIn (K w.params) (.ref f4) = true)
    {od5 an5 : Option Addr} {sl5 : Array (Option Value)} {oc5 kV5 dc5 pm5 cd5 ct5 : Value}
    (a5 : PySem.W.nsIn (K w.params) mainGlobals "_law_deeds_drawn" = some (some (.ref f5))) (l5 : (K w.params).lookup f5 = some ⟨oc5, od5, .func (PySem.W.fnOf "_law_deeds_drawn" "_law_deeds_drawn" (defArgs s__law_deeds_drawn) (defBody s__law_deeds_drawn) (defScope s__law_deeds_drawn) .none kV5 dc5 pm5 an5 cd5 ct5), sl5⟩) (c5 : PySem.W.codeIn (K w.params) cd5 "_law_deeds_drawn" = true) (k5 : PySem.W.keepIn (K w.params) (.ref f5) = true)
    {od6 an6 : Option Addr} {sl6 : Array (Option Value)} {oc6 kV6 dc6 pm6 cd6 ct6 : Value}
    (a6 : PySem.W.nsIn (K w.params) mainGlobals "_law_gcd" = some (some (.ref f6))) (l6 : (K w.params).lookup f6 = some ⟨oc6, od6, .func (PySem.W.fnOf "_law_gcd" "_law_gcd" (defArgs s__law_gcd) (defBody s__law_gcd) (defScope s__law_gcd) .none kV6 dc6 pm6 an6 cd6 ct6), sl6⟩) (c6 : PySem.W.codeIn (K w.params) cd6 "_law_gcd" = true) (k6 : PySem.W.keepIn (K w.params) (.ref f6) = true)
    {od7 an7 : Option Addr} {sl7 : Array (Option Value)} {oc7 kV7 dc7 pm7 cd7 ct7 : Value}
    (a7 : PySem.W.nsIn (K w.params) mainGlobals "_law_held" = some (some (.ref f7))) (l7 : (K w.params).lookup f7 = some ⟨oc7, od7, .func (PySem.W.fnOf "_law_held" "_law_held" (defArgs s__law_held) (defBody s__law_held) (defScope s__law_held) .none kV7 dc7 pm7 an7 cd7 ct7), sl7⟩) (c7 : PySem.W.codeIn (K w.params) cd7 "_law_held" = true) (k7 : PySem.W.keepIn (K w.params) (.ref f7) = true)
    {od8 an8 : Option Addr} {sl8 : Array (Option Value)} {oc8 kV8 dc8 pm8 cd8 ct8 : Value}
    (a8 : PySem.W.nsIn (K w.params) mainGlobals "is_tuple" = some (some (.ref f8))) (l8 : (K w.params).lookup f8 = some ⟨oc8, od8, .func (PySem.W.fnOf "is_tuple" "is_tuple" (defArgs s_is_tuple) (defBody s_is_tuple) (defScope s_is_tuple) .none kV8 dc8 pm8 an8 cd8 ct8), sl8⟩) (c8 : PySem.W.codeIn (K w.params) cd8 "is_tuple" = true) (k8 : PySem.W.keepIn (K w.params) (.ref f8) = true)
    {od9 an9 : Option Addr} {sl9 : Array (Option Value)} {oc9 kV9 dc9 pm9 cd9 ct9 : Value}
    (a9 : PySem.W.nsIn (K w.params) mainGlobals "is_whole" = some (some (.ref f9))) (l9 : (K w.params).lookup f9 = some ⟨oc9, od9, .func (PySem.W.fnOf "is_whole" "is_whole" (defArgs s_is_whole) (defBody s_is_whole) (defScope s_is_whole) .none kV9 dc9 pm9 an9 cd9 ct9), sl9⟩) (c9 : PySem.W.codeIn (K w.params) cd9 "is_whole" = true) (k9 : PySem.W.keepIn (K w.params) (.ref f9) = true)
    {od10 an10 : Option Addr} {sl10 : Array (Option Value)} {oc10 kV10 dc10 pm10 cd10 ct10 : Value}
    (a10 : PySem.W.nsIn (K w.params) mainGlobals "is_integer" = some (some (.ref f10))) (l10 : (K w.params).lookup f10 = some ⟨oc10, od10, .func (PySem.W.fnOf "is_integer" "is_integer" (defArgs s_is_integer) (defBody s_is_integer) (defScope s_is_integer) .none kV10 dc10 pm10 an10 cd10 ct10), sl10⟩) (c10 : PySem.W.codeIn (K w.params) cd10 "is_integer" = true) (k10 : PySem.W.keepIn (K w.params) (.ref f10) = true)
    {od11 an11 : Option Addr} {sl11 : Array (Option Value)} {oc11 kV11 dc11 pm11 cd11 ct11 : Value}
    (a11 : PySem.W.nsIn (K w.params) mainGlobals "is_deeds" = some (some (.ref f11))) (l11 : (K w.params).lookup f11 = some ⟨oc11, od11, .func (PySem.W.fnOf "is_deeds" "is_deeds" (defArgs s_is_deeds) (defBody s_is_deeds) (defScope s_is_deeds) .none kV11 dc11 pm11 an11 cd11 ct11), sl11⟩) (c11 : PySem.W.codeIn (K w.params) cd11 "is_deeds" = true) (k11 : PySem.W.keepIn (K w.params) (.ref f11) = true)
    {od12 an12 : Option Addr} {sl12 : Array (Option Value)} {oc12 kV12 dc12 pm12 cd12 ct12 : Value}
    (a12 : PySem.W.nsIn (K w.params) mainGlobals "divisor" = some (some (.ref f12))) (l12 : (K w.params).lookup f12 = some ⟨oc12, od12, .func (PySem.W.fnOf "divisor" "divisor" (defArgs s_divisor) (defBody s_divisor) (defScope s_divisor) .none kV12 dc12 pm12 an12 cd12 ct12), sl12⟩) (c12 : PySem.W.codeIn (K w.params) cd12 "divisor" = true) (k12 : PySem.W.keepIn (K w.params) (.ref f12) = true)
    {od13 an13 : Option Addr} {sl13 : Array (Option Value)} {oc13 kV13 dc13 pm13 cd13 ct13 : Value}
    (a13 : PySem.W.nsIn (K w.params) mainGlobals "held_of" = some (some (.ref f13))) (l13 : (K w.params).lookup f13 = some ⟨oc13, od13, .func (PySem.W.fnOf "held_of" "held_of" (defArgs s_held_of) (defBody s_held_of) (defScope s_held_of) .none kV13 dc13 pm13 an13 cd13 ct13), sl13⟩) (c13 : PySem.W.codeIn (K w.params) cd13 "held_of" = true) (k13 : PySem.W.keepIn (K w.params) (.ref f13) = true)
    {od14 an14 : Option Addr} {sl14 : Array (Option Value)} {oc14 kV14 dc14 pm14 cd14 ct14 : Value}
    (a14 : PySem.W.nsIn (K w.params) mainGlobals "held" = some (some (.ref f14))) (l14 : (K w.params).lookup f14 = some ⟨oc14, od14, .func (PySem.W.fnOf "held" "held" (defArgs s_held) (defBody s_held) (defScope s_held) .none kV14 dc14 pm14 an14 cd14 ct14), sl14⟩) (c14 : PySem.W.codeIn (K w.params) cd14 "held" = true) (k14 : PySem.W.keepIn (K w.params) (.ref f14) = true)
    {od15 an15 : Option Addr} {sl15 : Array (Option Value)} {oc15 kV15 dc15 pm15 cd15 ct15 : Value}
    (a15 : PySem.W.nsIn (K w.params) mainGlobals "least_charge" = some (some (.ref f15))) (l15 : (K w.params).lookup f15 = some ⟨oc15, od15, .func (PySem.W.fnOf "least_charge" "least_charge" (defArgs s_least_charge) (defBody s_least_charge) (defScope s_least_charge) .none kV15 dc15 pm15 an15 cd15 ct15), sl15⟩) (c15 : PySem.W.codeIn (K w.params) cd15 "least_charge" = true) (k15 : PySem.W.keepIn (K w.params) (.ref f15) = true)
    {od16 an16 : Option Addr} {sl16 : Array (Option Value)} {oc16 kV16 dc16 pm16 cd16 ct16 : Value}
    (a16 : PySem.W.nsIn (K w.params) mainGlobals "_law_is_charge_right" = some (some (.ref f16))) (l16 : (K w.params).lookup f16 = some ⟨oc16, od16, .func (PySem.W.fnOf "_law_is_charge_right" "_law_is_charge_right" (defArgs s__law_is_charge_right) (defBody s__law_is_charge_right) (defScope s__law_is_charge_right) .none kV16 dc16 pm16 an16 cd16 ct16), sl16⟩) (c16 : PySem.W.codeIn (K w.params) cd16 "_law_is_charge_right" = true) (k16 : PySem.W.keepIn (K w.params) (.ref f16) = true)
    {od17 an17 : Option Addr} {sl17 : Array (Option Value)} {oc17 kV17 dc17 pm17 cd17 ct17 : Value}
    (a17 : PySem.W.nsIn (K w.params) mainGlobals "_law_is_parted_right" = some (some (.ref f17))) (l17 : (K w.params).lookup f17 = some ⟨oc17, od17, .func (PySem.W.fnOf "_law_is_parted_right" "_law_is_parted_right" (defArgs s__law_is_parted_right) (defBody s__law_is_parted_right) (defScope s__law_is_parted_right) .none kV17 dc17 pm17 an17 cd17 ct17), sl17⟩) (c17 : PySem.W.codeIn (K w.params) cd17 "_law_is_parted_right" = true) (k17 : PySem.W.keepIn (K w.params) (.ref f17) = true)
    {od18 an18 : Option Addr} {sl18 : Array (Option Value)} {oc18 kV18 dc18 pm18 cd18 ct18 : Value}
    (a18 : PySem.W.nsIn (K w.params) mainGlobals "_law_some" = some (some (.ref f18))) (l18 : (K w.params).lookup f18 = some ⟨oc18, od18, .func (PySem.W.fnOf "_law_some" "_law_some" (defArgs s__law_some) (defBody s__law_some) (defScope s__law_some) .none kV18 dc18 pm18 an18 cd18 ct18), sl18⟩) (c18 : PySem.W.codeIn (K w.params) cd18 "_law_some" = true) (k18 : PySem.W.keepIn (K w.params) (.ref f18) = true)
    {od19 an19 : Option Addr} {sl19 : Array (Option Value)} {oc19 kV19 dc19 pm19 cd19 ct19 : Value}
    (a19 : PySem.W.nsIn (K w.params) mainGlobals "_law_are_others_right" = some (some (.ref f19))) (l19 : (K w.params).lookup f19 = some ⟨oc19, od19, .func (PySem.W.fnOf "_law_are_others_right" "_law_are_others_right" (defArgs s__law_are_others_right) (defBody s__law_are_others_right) (defScope s__law_are_others_right) .none kV19 dc19 pm19 an19 cd19 ct19), sl19⟩) (c19 : PySem.W.codeIn (K w.params) cd19 "_law_are_others_right" = true) (k19 : PySem.W.keepIn (K w.params) (.ref f19) = true)
    {od20 an20 : Option Addr} {sl20 : Array (Option Value)} {oc20 kV20 dc20 pm20 cd20 ct20 : Value}
    (a20 : PySem.W.nsIn (K w.params) mainGlobals "_law_right" = some (some (.ref f20))) (l20 : (K w.params).lookup f20 = some ⟨oc20, od20, .func (PySem.W.fnOf "_law_right" "_law_right" (defArgs s__law_right) (defBody s__law_right) (defScope s__law_right) .none kV20 dc20 pm20 an20 cd20 ct20), sl20⟩) (c20 : PySem.W.codeIn (K w.params) cd20 "_law_right" = true) (k20 : PySem.W.keepIn (K w.params) (.ref f20) = true)
    {od21 an21 : Option Addr} {sl21 : Array (Option Value)} {oc21 kV21 dc21 pm21 cd21 ct21 : Value}
    (a21 : PySem.W.nsIn (K w.params) mainGlobals "law" = some (some (.ref f21))) (l21 : (K w.params).lookup f21 = some ⟨oc21, od21, .func (PySem.W.fnOf "law" "law" (defArgs s_law) (defBody s_law) (defScope s_law) .none kV21 dc21 pm21 an21 cd21 ct21), sl21⟩) (c21 : PySem.W.codeIn (K w.params) cd21 "law" = true) (k21 : PySem.W.keepIn (K w.params) (.ref f21) = true)
    (b_list : PySem.W.nsIn (K w.params) mainGlobals "list" = some none)
    (b_range : PySem.W.nsIn (K w.params) mainGlobals "range" = some none)
    (b_max : PySem.W.nsIn (K w.params) mainGlobals "max" = some none)
    (b_min : PySem.W.nsIn (K w.params) mainGlobals "min" = some none)
    (b_len : PySem.W.nsIn (K w.params) mainGlobals "len" = some none)
    (b_sum : PySem.W.nsIn (K w.params) mainGlobals "sum" = some none)
    (b_int : PySem.W.nsIn (K w.params) mainGlobals "int" = some none)
    (b_abs : PySem.W.nsIn (K w.params) mainGlobals "abs" = some none)
    (b_tuple : PySem.W.nsIn (K w.params) mainGlobals "tuple" = some none)
    (b_isinstance : PySem.W.nsIn (K w.params) mainGlobals "isinstance" = some none)
    (b_bool : PySem.W.nsIn (K w.params) mainGlobals "bool" = some none)
    (b_all : PySem.W.nsIn (K w.params) mainGlobals "all" = some none)
    (b_str : PySem.W.nsIn (K w.params) mainGlobals "str" = some none)
    (b_repr : PySem.W.nsIn (K w.params) mainGlobals "repr" = some none)
    (b_enumerate : PySem.W.nsIn (K w.params) mainGlobals "enumerate" = some none)
    (b_any : PySem.W.nsIn (K w.params) mainGlobals "any" = some none)
    (b_zip : PySem.W.nsIn (K w.params) mainGlobals "zip" = some none)
    {tk_MOST_STEPS : Tok} (c_MOST_STEPS : PySem.W.nsIn (K w.params) mainGlobals "MOST_STEPS" = some (some (.int 30 tk_MOST_STEPS)))
    {tk_TRIPLE : Tok} (c_TRIPLE : PySem.W.nsIn (K w.params) mainGlobals "TRIPLE" = some (some (.int 3 tk_TRIPLE)))
    {tk_CHARGE : Tok} (c_CHARGE : PySem.W.nsIn (K w.params) mainGlobals "CHARGE" = some (some (.str "charge" tk_CHARGE)))
    {tk_MOST_KINDS : Tok} (c_MOST_KINDS : PySem.W.nsIn (K w.params) mainGlobals "MOST_KINDS" = some (some (.int 8 tk_MOST_KINDS)))
    {tk_PAIR : Tok} (c_PAIR : PySem.W.nsIn (K w.params) mainGlobals "PAIR" = some (some (.int 2 tk_PAIR)))
    {tk_MOST_ROOM : Tok} (c_MOST_ROOM : PySem.W.nsIn (K w.params) mainGlobals "MOST_ROOM" = some (some (.int 1000000 tk_MOST_ROOM)))
    {tk_GATHER : Tok} (c_GATHER : PySem.W.nsIn (K w.params) mainGlobals "GATHER" = some (some (.str "gather" tk_GATHER)))
    {tk_EMPTY : Tok} (c_EMPTY : PySem.W.nsIn (K w.params) mainGlobals "EMPTY" = some (some (.str "empty" tk_EMPTY)))
    {tk_MOST_AMOUNT : Tok} (c_MOST_AMOUNT : PySem.W.nsIn (K w.params) mainGlobals "MOST_AMOUNT" = some (some (.int 1000 tk_MOST_AMOUNT))) :
    ∃ fd : FuncData, (∀ (s : Shared) (v : Value), BindsTo s fd ⟨[v], []⟩ [("script", v)]) ∧ ∀ base : Heap, (K w.params).In base → base.Ns mainGlobals mg → FnG l.prog w (K w.params) mg base 7 fa fd ["script"] (toSp (K w.params) lawSp) := by
  have e := hfa.symm.trans (PySem.W.mg_of X G a21)
  cases e
  have T : Txt mg := ⟨PySem.W.mg_none_of X G b_list, PySem.W.mg_none_of X G b_range, PySem.W.mg_none_of X G b_max, PySem.W.mg_none_of X G b_min, PySem.W.mg_none_of X G b_len, PySem.W.mg_none_of X G b_sum, PySem.W.mg_none_of X G b_int, PySem.W.mg_none_of X G b_abs, PySem.W.mg_none_of X G b_tuple, PySem.W.mg_none_of X G b_isinstance, PySem.W.mg_none_of X G b_bool, PySem.W.mg_none_of X G b_all, PySem.W.mg_none_of X G b_str, PySem.W.mg_none_of X G b_repr, PySem.W.mg_none_of X G b_enumerate, PySem.W.mg_none_of X G b_any, PySem.W.mg_none_of X G b_zip, ⟨_, PySem.W.mg_of X G c_MOST_STEPS⟩, ⟨_, PySem.W.mg_of X G c_TRIPLE⟩, ⟨_, PySem.W.mg_of X G c_CHARGE⟩, ⟨_, PySem.W.mg_of X G c_MOST_KINDS⟩, ⟨_, PySem.W.mg_of X G c_PAIR⟩, ⟨_, PySem.W.mg_of X G c_MOST_ROOM⟩, ⟨_, PySem.W.mg_of X G c_GATHER⟩, ⟨_, PySem.W.mg_of X G c_EMPTY⟩, ⟨_, PySem.W.mg_of X G c_MOST_AMOUNT⟩⟩
  have F1 := fun_mk (st := s__law_places) l1 c1 k1
  have B1 := F1.binds (ps := ["script", "most"]) fun _ _ _ _ _ _ us hl => match us, hl with | [_, _], _ => rfl
  have F2 := fun_mk (st := s__law_pot) l2 c2 k2
  have B2 := F2.binds (ps := ["script", "place"]) fun _ _ _ _ _ _ us hl => match us, hl with | [_, _], _ => rfl
  have F3 := fun_mk (st := s__law_take) l3 c3 k3
  have B3 := F3.binds (ps := ["pot", "upto"]) fun _ _ _ _ _ _ us hl => match us, hl with | [_, _], _ => rfl
  have F4 := fun_mk (st := s__law_of) l4 c4 k4
  have B4 := F4.binds (ps := ["pot", "some"]) fun _ _ _ _ _ _ us hl => match us, hl with | [_, _], _ => rfl
  have F5 := fun_mk (st := s__law_deeds_drawn) l5 c5 k5
  have B5 := F5.binds (ps := ["pot", "most"]) fun _ _ _ _ _ _ us hl => match us, hl with | [_, _], _ => rfl
  have F6 := fun_mk (st := s__law_gcd) l6 c6 k6
  have B6 := F6.binds (ps := ["one", "other"]) fun _ _ _ _ _ _ us hl => match us, hl with | [_, _], _ => rfl
  have F7 := fun_mk (st := s__law_held) l7 c7 k7
  have B7 := F7.binds (ps := ["deeds"]) fun _ _ _ _ _ _ us hl => match us, hl with | [_], _ => rfl
  have F8 := fun_mk (st := s_is_tuple) l8 c8 k8
  have B8 := F8.binds (ps := ["value", "least", "most"]) fun _ _ _ _ _ _ us hl => match us, hl with | [_, _, _], _ => rfl
  have F9 := fun_mk (st := s_is_whole) l9 c9 k9
  have B9 := F9.binds (ps := ["value"]) fun _ _ _ _ _ _ us hl => match us, hl with | [_], _ => rfl
  have F10 := fun_mk (st := s_is_integer) l10 c10 k10
  have B10 := F10.binds (ps := ["value", "low", "high"]) fun _ _ _ _ _ _ us hl => match us, hl with | [_, _, _], _ => rfl
  have F11 := fun_mk (st := s_is_deeds) l11 c11 k11
  have B11 := F11.binds (ps := ["value"]) fun _ _ _ _ _ _ us hl => match us, hl with | [_], _ => rfl
  have F12 := fun_mk (st := s_divisor) l12 c12 k12
  have B12 := F12.binds (ps := ["one", "other"]) fun _ _ _ _ _ _ us hl => match us, hl with | [_, _], _ => rfl
  have F13 := fun_mk (st := s_held_of) l13 c13 k13
  have B13 := F13.binds (ps := ["deeds"]) fun _ _ _ _ _ _ us hl => match us, hl with | [_], _ => rfl
  have F14 := fun_mk (st := s_held) l14 c14 k14
  have B14 := F14.binds (ps := ["deeds"]) fun _ _ _ _ _ _ us hl => match us, hl with | [_], _ => rfl
  have F15 := fun_mk (st := s_least_charge) l15 c15 k15
  have B15 := F15.binds (ps := ["deeds", "kind", "other", "parts"]) fun _ _ _ _ _ _ us hl => match us, hl with | [_, _, _, _], _ => rfl
  have F16 := fun_mk (st := s__law_is_charge_right) l16 c16 k16
  have B16 := F16.binds (ps := ["pot", "deeds", "due"]) fun _ _ _ _ _ _ us hl => match us, hl with | [_, _, _], _ => rfl
  have F17 := fun_mk (st := s__law_is_parted_right) l17 c17 k17
  have B17 := F17.binds (ps := ["pot", "deeds", "due"]) fun _ _ _ _ _ _ us hl => match us, hl with | [_, _, _], _ => rfl
  have F18 := fun_mk (st := s__law_some) l18 c18 k18
  have B18 := F18.binds (ps := ["pot", "pool", "many"]) fun _ _ _ _ _ _ us hl => match us, hl with | [_, _, _], _ => rfl
  have F19 := fun_mk (st := s__law_are_others_right) l19 c19 k19
  have B19 := F19.binds (ps := ["pot", "deeds", "due"]) fun _ _ _ _ _ _ us hl => match us, hl with | [_, _, _], _ => rfl
  have F20 := fun_mk (st := s__law_right) l20 c20 k20
  have B20 := F20.binds (ps := ["pot"]) fun _ _ _ _ _ _ us hl => match us, hl with | [_], _ => rfl
  have F21 := fun_mk (st := s_law) l21 c21 k21
  refine ⟨PySem.W.fnOf "law" "law" (defArgs s_law) (defBody s_law) (defScope s_law) .none kV21 dc21 pm21 an21 cd21 ct21, fun s v => .of_eq rfl, fun base KX0 GX0 => ?_⟩
  have C__law_places : CalG l.prog w (K w.params) mg base 1 "_law_places" sp__law_places := cal_mk F1 (PySem.W.mg_of X G a1) (g__law_places T  F1) B1
  have C__law_pot : CalG l.prog w (K w.params) mg base 1 "_law_pot" sp__law_pot := cal_mk F2 (PySem.W.mg_of X G a2) (g__law_pot T  F2) B2
  have C__law_take : CalG l.prog w (K w.params) mg base 1 "_law_take" sp__law_take := cal_mk F3 (PySem.W.mg_of X G a3) (g__law_take T  F3) B3
  have C__law_of : CalG l.prog w (K w.params) mg base 2 "_law_of" sp__law_of := cal_mk F4 (PySem.W.mg_of X G a4) (g__law_of T C__law_take F4) B4
  have C__law_deeds_drawn : CalG l.prog w (K w.params) mg base 3 "_law_deeds_drawn" sp__law_deeds_drawn := cal_mk F5 (PySem.W.mg_of X G a5) (g__law_deeds_drawn T C__law_of C__law_take F5) B5
  have C__law_gcd : CalG l.prog w (K w.params) mg base 1 "_law_gcd" sp__law_gcd := cal_mk F6 (PySem.W.mg_of X G a6) (g__law_gcd T  F6) B6
  have C__law_held : CalG l.prog w (K w.params) mg base 2 "_law_held" sp__law_held := cal_mk F7 (PySem.W.mg_of X G a7) (g__law_held T C__law_gcd F7) B7
  have C_is_tuple : CalG l.prog w (K w.params) mg base 1 "is_tuple" sp_is_tuple := cal_mk F8 (PySem.W.mg_of X G a8) (g_is_tuple T  F8) B8
  have C_is_whole : CalG l.prog w (K w.params) mg base 1 "is_whole" sp_is_whole := cal_mk F9 (PySem.W.mg_of X G a9) (g_is_whole T  F9) B9
  have C_is_integer : CalG l.prog w (K w.params) mg base 2 "is_integer" sp_is_integer := cal_mk F10 (PySem.W.mg_of X G a10) (g_is_integer T C_is_whole F10) B10
  have C_is_deeds : CalG l.prog w (K w.params) mg base 3 "is_deeds" sp_is_deeds := cal_mk F11 (PySem.W.mg_of X G a11) (g_is_deeds T C_is_tuple C_is_integer F11) B11
  have C_divisor : CalG l.prog w (K w.params) mg base 1 "divisor" sp_divisor := cal_mk F12 (PySem.W.mg_of X G a12) (g_divisor T  F12) B12
  have C_held_of : CalG l.prog w (K w.params) mg base 2 "held_of" sp_held_of := cal_mk F13 (PySem.W.mg_of X G a13) (g_held_of T C_divisor F13) B13
  have C_held : CalG l.prog w (K w.params) mg base 4 "held" sp_held := cal_mk F14 (PySem.W.mg_of X G a14) (g_held T C_is_deeds C_held_of F14) B14
  have C_least_charge : CalG l.prog w (K w.params) mg base 4 "least_charge" sp_least_charge := cal_mk F15 (PySem.W.mg_of X G a15) (g_least_charge T C_is_deeds C_is_integer C_held_of F15) B15
  have C__law_is_charge_right : CalG l.prog w (K w.params) mg base 5 "_law_is_charge_right" sp__law_is_charge_right := cal_mk F16 (PySem.W.mg_of X G a16) (g__law_is_charge_right T C__law_take C__law_of C_least_charge C_held F16) B16
  have C__law_is_parted_right : CalG l.prog w (K w.params) mg base 5 "_law_is_parted_right" sp__law_is_parted_right := cal_mk F17 (PySem.W.mg_of X G a17) (g__law_is_parted_right T C__law_take C__law_held C_held F17) B17
  have C__law_some : CalG l.prog w (K w.params) mg base 2 "_law_some" sp__law_some := cal_mk F18 (PySem.W.mg_of X G a18) (g__law_some T C__law_take F18) B18
  have C__law_are_others_right : CalG l.prog w (K w.params) mg base 5 "_law_are_others_right" sp__law_are_others_right := cal_mk F19 (PySem.W.mg_of X G a19) (g__law_are_others_right T C__law_some C_held F19) B19
  have C__law_right : CalG l.prog w (K w.params) mg base 6 "_law_right" sp__law_right := cal_mk F20 (PySem.W.mg_of X G a20) (g__law_right T C__law_deeds_drawn C__law_of C__law_held C_held C__law_is_charge_right C__law_is_parted_right C__law_are_others_right F20) B20
  exact g_law T C__law_places C__law_pot C__law_right F21
end K24
open PySem PySem.W PyProof.Rows in
set_option maxRecDepth 100000 in
set_option maxHeartbeats 0 in
theorem PySem.Challenge.cw_everypiecesound_k24_whole_pots_mixed_dee_holds : PySem.Challenge.rw_everypiecesound_k24_whole_pots_mixed_dee.Holds := by
  w_on; o_law; k_head; (case hw => w_witness2)
  k_fill
  refine DL.law_walk (l := PySem.Challenge.rw_everypiecesound_k24_whole_pots_mixed_dee) (k := 7) (x := "script") rfl rfl ⟨rfl, by decide, by decide⟩ (fun w h Y => PySem.W.kIn_of Y) ?F
  case F =>
    intro w mg fa h KX G hmg
    refine' K24.all_mk (l := PySem.Challenge.rw_everypiecesound_k24_whole_pots_mixed_dee) KX G hmg ?a1 ?l1 ?c1 ?k1 ?a2 ?l2 ?c2 ?k2 ?a3 ?l3 ?c3 ?k3 ?a4 ?l4 ?c4 ?k4 ?a5 ?l5 ?c5 ?k5 ?a6 ?l6 ?c6 ?k6 ?a7 ?l7 ?c7 ?k7 ?a8 ?l8 ?c8 ?k8 ?a9 ?l9 ?c9 ?k9 ?a10 ?l10 ?c10 ?k10 ?a11 ?l11 ?c11 ?k11 ?a12 ?l12 ?c12 ?k12 ?a13 ?l13 ?c13 ?k13 ?a14 ?l14 ?c14 ?k14 ?a15 ?l15 ?c15 ?k15 ?a16 ?l16 ?c16 ?k16 ?a17 ?l17 ?c17 ?k17 ?a18 ?l18 ?c18 ?k18 ?a19 ?l19 ?c19 ?k19 ?a20 ?l20 ?c20 ?k20 ?a21 ?l21 ?c21 ?k21 ?b_list ?b_range ?b_max ?b_min ?b_len ?b_sum ?b_int ?b_abs ?b_tuple ?b_isinstance ?b_bool ?b_all ?b_str ?b_repr ?b_enumerate ?b_any ?b_zip ?c_MOST_STEPS ?c_TRIPLE ?c_CHARGE ?c_MOST_KINDS ?c_PAIR ?c_MOST_ROOM ?c_GATHER ?c_EMPTY ?c_MOST_AMOUNT
    (case a1 => k_is)
    (case l1 => k_is)
    (case c1 => k_is)
    (case k1 => k_is)
    (case a2 => k_is)
    (case l2 => k_is)
    (case c2 => k_is)
    (case k2 => k_is)
    (case a3 => k_is)
    (case l3 => k_is)
    (case c3 => k_is)
    (case k3 => k_is)
    (case a4 => k_is)
    (case l4 => k_is)
    (case c4 => k_is)
    (case k4 => k_is)
    (case a5 => k_is)
    (case l5 => k_is)
    (case c5 => k_is)
    (case k5 => k_is)
    (case a6 => k_is)
    (case l6 => k_is)
    (case c6 => k_is)
    (case k6 => k_is)
    (case a7 => k_is)
    (case l7 => k_is)
    (case c7 => k_is)
    (case k7 => k_is)
    (case a8 => k_is)
    (case l8 => k_is)
    (case c8 => k_is)
    (case k8 => k_is)
    (case a9 => k_is)
    (case l9 => k_is)
    (case c9 => k_is)
    (case k9 => k_is)
    (case a10 => k_is)
    (case l10 => k_is)
    (case c10 => k_is)
    (case k10 => k_is)
    (case a11 => k_is)
    (case l11 => k_is)
    (case c11 => k_is)
    (case k11 => k_is)
    (case a12 => k_is)
    (case l12 => k_is)
    (case c12 => k_is)
    (case k12 => k_is)
    (case a13 => k_is)
    (case l13 => k_is)
    (case c13 => k_is)
    (case k13 => k_is)
    (case a14 => k_is)
    (case l14 => k_is)
    (case c14 => k_is)
    (case k14 => k_is)
    (case a15 => k_is)
    (case l15 => k_is)
    (case c15 => k_is)
    (case k15 => k_is)
    (case a16 => k_is)
    (case l16 => k_is)
    (case c16 => k_is)
    (case k16 => k_is)
    (case a17 => k_is)
    (case l17 => k_is)
    (case c17 => k_is)
    (case k17 => k_is)
    (case a18 => k_is)
    (case l18 => k_is)
    (case c18 => k_is)
    (case k18 => k_is)
    (case a19 => k_is)
    (case l19 => k_is)
    (case c19 => k_is)
    (case k19 => k_is)
    (case a20 => k_is)
    (case l20 => k_is)
    (case c20 => k_is)
    (case k20 => k_is)
    (case a21 => k_is)
    (case l21 => k_is)
    (case c21 => k_is)
    (case k21 => k_is)
    (case b_list => k_is)
    (case b_range => k_is)
    (case b_max => k_is)
    (case b_min => k_is)
    (case b_len => k_is)
    (case b_sum => k_is)
    (case b_int => k_is)
    (case b_abs => k_is)
    (case b_tuple => k_is)
    (case b_isinstance => k_is)
    (case b_bool => k_is)
    (case b_all => k_is)
    (case b_str => k_is)
    (case b_repr => k_is)
    (case b_enumerate => k_is)
    (case b_any => k_is)
    (case b_zip => k_is)
    (case c_MOST_STEPS => k_is)
    (case c_TRIPLE => k_is)
    (case c_CHARGE => k_is)
    (case c_MOST_KINDS => k_is)
    (case c_PAIR => k_is)
    (case c_MOST_ROOM => k_is)
    (case c_GATHER => k_is)
    (case c_EMPTY => k_is)
    (case c_MOST_AMOUNT => k_is)
#print axioms PySem.Challenge.cw_everypiecesound_k24_whole_pots_mixed_dee_holds
