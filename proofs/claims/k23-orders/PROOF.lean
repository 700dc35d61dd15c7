import PyProof.Rows.All
import Wide.All
import OpenK.AllK
import Wide.FinOn
import HandS.ForMost
import HandS.Walk
import HandS.Wide
import HandS.Lambda
import HandS.TupAny
import HandS.TupMul
import HandS.IsInst
import HandS.Conv
import HandS.RaiseMore
import KE.KTupSum
import HandS.Style
import KE.GoesZip
import KE.GoesMore
import KE.GoesEnum
import PyProof.ReprBulk
import PyProof.Rows.RegStrFacts
import KE.SortData
import KE.DataMinMax
import KE.DataEq
import KE.DataAny
import KE.DataCmp
import KE.SortKeyHeap
import KE.KSortKey
import HandS.SetFor
import HandS.Strs
import HandS.Star
import PySem.Challenge.RW_everypiecesound_k23_whole_orders_weighed
namespace DL
open PySem
/-- the defs that make a lambda, and the lambda's qualified name -/
def lamDefs : List (Str × Str) := [("_law_most_in_time", "_law_most_in_time.<locals>.<lambda>")]
end DL
set_option Elab.async false
set_option linter.all false
set_option maxRecDepth 100000
set_option maxHeartbeats 4000000
/-! DL: a level of data over the judgements of the hand layer -/
namespace DL
open PySem L2

abbrev D := PyData
/-- what a slot of a def holds: nothing; data that never changes; a list of one's own; the caller's list, changed in place; a list that is only read -/
inductive DV where
  | emp
  | dat (d : D)
  | own (xs : List D)
  | io (xs : List D)
  | bor (xs : List D)
abbrev DSt := List DV
/-- an expression's value: data, a new list, or the list that a slot holds -/
inductive EV where
  | dat (d : D)
  | tmp (xs : List D)
  | slot (i : Nat)
/-- fixed through a def's run: the heap at the entry, what is frozen there, what may be written -/
structure Fz where
  H0 : Hp
  F0 : Hp
  Wr : Addr → Prop

/-! ### tables of code objects, for lambdas -/
/-- the code object and the table of the def that stands at x, by what is known of the top -/
def codOf (K : PySem.W.Frag) (x : Str) : Option (Addr × Addr) := match PySem.W.nsIn K mainGlobals x with
  | some (some (.ref a)) => (match K.lookup a with
    | some ⟨_, _, .func fd, _⟩ => (match fd.code with
      | .ref c => (match K.lookup c with
        | some ⟨_, _, .fields vs, _⟩ => (match (vs[(11 : Nat)]? : Option Value) with
          | some (.ref P) => some (c, P)
          | _ => none)
        | _ => none)
      | _ => none)
    | _ => none)
  | _ => none
def lamC (K : PySem.W.Frag) : List (Addr × Addr) := lamDefs.filterMap fun p => codOf K p.1
def lamT (K : PySem.W.Frag) : List (Addr × Str) := lamDefs.filterMap fun p => (codOf K p.1).map fun c => (c.2, p.2)
theorem lamT_C {K : PySem.W.Frag} {p : Addr × Str} (h : p ∈ lamT K) : ∃ q ∈ lamC K, q.2 = p.1 := by
  obtain ⟨d, hd, e⟩ := List.mem_filterMap.mp h
  cases z : codOf K d.1 with
  | none => rw [z] at e; cases e
  | some c =>
    rw [z] at e
    cases e
    exact ⟨c, List.mem_filterMap.mpr ⟨d, hd, z⟩, rfl⟩
/-- no table -/
def NT (o : HO) : Prop := ∀ ps, o ≠ .tbl ps
theorem nt_lst {xs : List V} : NT (.lst xs) := fun _ z => by cases z
/-- what is frozen anew: new objects, no tables -/
def Nw (F F' H : Hp) : Prop := ∀ a, F a = none → F' a ≠ none → H a = none ∧ ∀ o, F' a = some o → NT o
theorem nt_tup {xs : List V} : NT (.tup xs) := fun _ z => by cases z
theorem tabs_upd {T : List (Addr × Str)} {H : Hp} {a : Addr} {o : HO} (t : LamX.Tabs T H) (h : ∀ u, H a = some u → ∃ xs, u = .lst xs) : LamX.Tabs T (upd H a o) := fun p hp => by
  obtain ⟨ps, h1, h2, h3⟩ := t p hp
  refine ⟨ps, by rw [upd_ne (fun z => by rw [z] at h1; obtain ⟨xs, e⟩ := h _ h1; cases e)]; exact h1, h2, fun pos cv hc => ?_⟩
  obtain ⟨c, e1, e2⟩ := h3 pos cv hc
  refine ⟨c, e1, ?_⟩
  rw [upd_ne (fun z => by rw [z] at e2; obtain ⟨xs, e⟩ := h _ e2; unfold LamX.CodeO at e; cases e)]
  exact e2
theorem tabs_new {T : List (Addr × Str)} {H : Hp} {a : Addr} {o : HO} (t : LamX.Tabs T H) (h : H a = none) : LamX.Tabs T (upd H a o) := tabs_upd t fun u z => by rw [h] at z; cases z

def Lst (o : Option DV) : Prop := ∃ xs, o = some (.own xs) ∨ o = some (.io xs)
def Own (τ : DSt) (σ : St) (a : Addr) : Prop := ∃ i : Nat, σ[i]? = some (some (.ref a)) ∧ Lst τ[i]?
def Live (τ : DSt) (i : Nat) : Prop := ∃ d, τ[i]? = some d ∧ d ≠ .emp

/-! ### data over heaps that grow -/
theorem Same.sqT {K : PySem.W.Frag} {H H' : Hp} {a : Addr} {xs : List V} (e : Same H H') (h : SqT K H a xs) : SqT K H' a xs := by
  rcases h with (h | ⟨o, h⟩) | h
  · exact .inl (.inl (e _ _ h))
  · exact .inl (.inr ⟨o, e _ _ h⟩)
  · exact .inr h
theorem Same.rd {H H' : Hp} {a : Addr} {u : HO} (e : Same H H') (h : Rd H a u) : Rd H' a u := by
  rcases h with h | ⟨o, h⟩
  · exact .inl (e _ _ h)
  · exact .inr ⟨o, e _ _ h⟩
mutual
/-- data, by the heap: its lists are tracked -/
inductive Dq (K : PySem.W.Frag) (H : Hp) : V → PyData → Prop
  | non : Dq K H .non .none
  | bl (b : Bool) : Dq K H (.bl b) (.bool b)
  | int (i : Int) : Dq K H (.int i) (.int i)
  | str (x : Str) : Dq K H (.str x) (.str x)
  | lst {a : Addr} {xs : List V} {ds : List PyData} : SqL K H a xs → DqAll K H xs ds → Dq K H (.ref a) (.list ds)
  | tup {a : Addr} {xs : List V} {ds : List PyData} : SqT K H a xs → DqAll K H xs ds → Dq K H (.ref a) (.tuple ds)
inductive DqAll (K : PySem.W.Frag) (H : Hp) : List V → List PyData → Prop
  | nil : DqAll K H [] []
  | cons {v : V} {vs : List V} {d : PyData} {ds : List PyData} : Dq K H v d → DqAll K H vs ds → DqAll K H (v :: vs) (d :: ds)
end
mutual
theorem Dq.dp {K : PySem.W.Frag} {H : Hp} : ∀ (d : D) (v : V), Dq K H v d → Dp K H v d
  | .none, _, h => by cases h; exact .non
  | .bool b, _, h => by cases h; exact .bl b
  | .int i, _, h => by cases h; exact .int i
  | .str x, _, h => by cases h; exact .str x
  | .list ds, _, h => by
    cases h with
    | lst hs ha => exact .lst hs (DqAll.dp ds _ ha)
  | .tuple ds, _, h => by
    cases h with
    | tup hs ha => exact .tup hs (DqAll.dp ds _ ha)
  | .dict _, _, h => by cases h
theorem DqAll.dp {K : PySem.W.Frag} {H : Hp} : ∀ (ds : List D) (vs : List V), DqAll K H vs ds → DpAll K H vs ds
  | [], _, h => by cases h; exact .nil
  | d :: ds, _, h => by
    cases h with
    | cons h1 h2 => exact .cons (Dq.dp d _ h1) (DqAll.dp ds _ h2)
end
mutual
theorem dp_mono {K : PySem.W.Frag} {H H' : Hp} (s : Same H H') : ∀ (d : D) (v : V), Dq K H v d → Dq K H' v d
  | .none, _, h => by cases h; exact .non
  | .bool b, _, h => by cases h; exact .bl b
  | .int i, _, h => by cases h; exact .int i
  | .str x, _, h => by cases h; exact .str x
  | .list ds, _, h => by
    cases h with
    | lst hs ha => exact .lst (s.seq hs) (dpAll_mono s ds _ ha)
  | .tuple ds, _, h => by
    cases h with
    | tup hs ha => exact .tup (Same.sqT s hs) (dpAll_mono s ds _ ha)
  | .dict _, _, h => by cases h
theorem dpAll_mono {K : PySem.W.Frag} {H H' : Hp} (s : Same H H') : ∀ (ds : List D) (vs : List V), DqAll K H vs ds → DqAll K H' vs ds
  | [], _, h => by cases h; exact .nil
  | d :: ds, _, h => by
    cases h with
    | cons h1 h2 => exact .cons (dp_mono s d _ h1) (dpAll_mono s ds _ h2)
end
theorem DqAll.len {K : PySem.W.Frag} {H : Hp} : ∀ {vs : List V} {ds : List D}, DqAll K H vs ds → vs.length = ds.length
  | _, _, .nil => rfl
  | _, _, .cons _ t => by rw [List.length_cons, List.length_cons, DqAll.len t]
theorem DqAll.get {K : PySem.W.Frag} {H : Hp} : ∀ {vs : List V} {ds : List D}, DqAll K H vs ds → ∀ {i : Nat} {d : D}, ds[i]? = some d → ∃ v, vs[i]? = some v ∧ Dq K H v d
  | _, _, .nil, i, d, e => by simp at e
  | _, _, .cons (v := v) h _, 0, d, e => by
    simp at e
    subst e
    exact ⟨v, rfl, h⟩
  | _, _, .cons _ t, i + 1, d, e => by
    obtain ⟨v, h1, h2⟩ := DqAll.get t (i := i) (d := d) (by simpa using e)
    exact ⟨v, by simpa using h1, h2⟩
theorem DqAll.getV {K : PySem.W.Frag} {H : Hp} : ∀ {vs : List V} {ds : List D}, DqAll K H vs ds → ∀ {i : Nat} {v : V}, vs[i]? = some v → ∃ d, ds[i]? = some d ∧ Dq K H v d
  | _, _, .nil, i, d, e => by simp at e
  | _, _, .cons (d := d) h _, 0, v, e => by
    simp at e
    subst e
    exact ⟨d, rfl, h⟩
  | _, _, .cons _ t, i + 1, v, e => by
    obtain ⟨d, h1, h2⟩ := DqAll.getV t (i := i) (v := v) (by simpa using e)
    exact ⟨d, by simpa using h1, h2⟩
theorem DqAll.app {K : PySem.W.Frag} {H : Hp} : ∀ {vs ws : List V} {ds es : List D}, DqAll K H vs ds → DqAll K H ws es → DqAll K H (vs ++ ws) (ds ++ es)
  | _, _, _, _, .nil, h => h
  | _, _, _, _, .cons h t, q => .cons h (DqAll.app t q)
theorem DqAll.set {K : PySem.W.Frag} {H : Hp} {v : V} {d : D} (h : Dq K H v d) : ∀ {vs : List V} {ds : List D} (i : Nat), DqAll K H vs ds → DqAll K H (vs.set i v) (ds.set i d)
  | _, _, _, .nil => .nil
  | _, _, 0, .cons _ t => .cons h t
  | _, _, i + 1, .cons q t => .cons q (DqAll.set h i t)
theorem DqAll.take {K : PySem.W.Frag} {H : Hp} : ∀ {vs : List V} {ds : List D} (n : Nat), DqAll K H vs ds → DqAll K H (vs.take n) (ds.take n)
  | _, _, 0, _ => .nil
  | _, _, _ + 1, .nil => .nil
  | _, _, n + 1, .cons h t => .cons h (DqAll.take n t)
theorem DqAll.drop {K : PySem.W.Frag} {H : Hp} : ∀ {vs : List V} {ds : List D} (n : Nat), DqAll K H vs ds → DqAll K H (vs.drop n) (ds.drop n)
  | _, _, 0, h => h
  | _, _, _ + 1, .nil => .nil
  | _, _, n + 1, .cons _ t => DqAll.drop n t
theorem DqAll.erase {K : PySem.W.Frag} {H : Hp} : ∀ {vs : List V} {ds : List D} (i : Nat), DqAll K H vs ds → DqAll K H (vs.eraseIdx i) (ds.eraseIdx i)
  | _, _, _, .nil => .nil
  | _, _, 0, .cons _ t => t
  | _, _, i + 1, .cons h t => .cons h (DqAll.erase i t)
theorem DqAll.rev {K : PySem.W.Frag} {H : Hp} : ∀ {vs : List V} {ds : List D}, DqAll K H vs ds → DqAll K H vs.reverse ds.reverse
  | _, _, .nil => .nil
  | _, _, .cons h t => by
    rw [List.reverse_cons, List.reverse_cons]
    exact DqAll.app (DqAll.rev t) (.cons h .nil)
theorem DqAll.rep {K : PySem.W.Frag} {H : Hp} {vs : List V} {ds : List D} (h : DqAll K H vs ds) : ∀ k : Nat, DqAll K H (List.replicate k vs).flatten (List.replicate k ds).flatten
  | 0 => .nil
  | k + 1 => by
    rw [List.replicate_succ, List.flatten_cons, List.replicate_succ, List.flatten_cons]
    exact DqAll.app h (DqAll.rep h k)

/-- a value that may be read: data that is frozen, or a list that stands in H now, its items frozen -/
def ValR (K : PySem.W.Frag) (F H : Hp) (v : V) (d : D) : Prop := Dq K F v d ∨ ∃ a vs xs, v = .ref a ∧ d = .list xs ∧ SqL K H a vs ∧ DqAll K F vs xs
theorem ValR.dq {K : PySem.W.Frag} {F H : Hp} {v : V} {d : D} (s : Same F H) (h : ValR K F H v d) : Dq K H v d := by
  rcases h with h | ⟨a, vs, xs, rfl, rfl, h1, h2⟩
  · exact dp_mono s d v h
  · exact .lst h1 (dpAll_mono s _ _ h2)
theorem ValR.dp {K : PySem.W.Frag} {F H : Hp} {v : V} {d : D} (s : Same F H) (h : ValR K F H v d) : Dp K H v d := Dq.dp d v (h.dq s)
theorem ValR.list {K : PySem.W.Frag} {F H : Hp} {v : V} {xs : List D} (s : Same F H) (h : ValR K F H v (.list xs)) : ∃ a vs, v = .ref a ∧ SqL K H a vs ∧ DqAll K F vs xs := by
  rcases h with h | ⟨a, vs, ys, rfl, e, h1, h2⟩
  · cases h with
    | lst h1 h2 => exact ⟨_, _, rfl, s.seq h1, h2⟩
  · cases e
    exact ⟨a, vs, rfl, h1, h2⟩
theorem ValR.tuple {K : PySem.W.Frag} {F H : Hp} {v : V} {xs : List D} (s : Same F H) (h : ValR K F H v (.tuple xs)) : ∃ a vs, v = .ref a ∧ SqT K H a vs ∧ DqAll K F vs xs := by
  rcases h with h | ⟨a, vs, ys, rfl, e, h1, h2⟩
  · cases h with
    | tup h1 h2 => exact ⟨_, _, rfl, Same.sqT s h1, h2⟩
  · cases e
theorem ValR.frz {K : PySem.W.Frag} {F H : Hp} {v : V} {xs : List D} (h : ValR K F H v (.tuple xs)) : Dq K F v (.tuple xs) := by
  rcases h with h | ⟨a, vs, ys, rfl, e, h1, h2⟩
  · exact h
  · cases e
theorem ValR.int {K : PySem.W.Frag} {F H : Hp} {v : V} {i : Int} (h : ValR K F H v (.int i)) : v = .int i := by
  rcases h with h | ⟨a, vs, ys, rfl, e, h1, h2⟩
  · cases h; rfl
  · cases e
theorem ValR.bool {K : PySem.W.Frag} {F H : Hp} {v : V} {i : Bool} (h : ValR K F H v (.bool i)) : v = .bl i := by
  rcases h with h | ⟨a, vs, ys, rfl, e, h1, h2⟩
  · cases h; rfl
  · cases e
theorem ValR.str {K : PySem.W.Frag} {F H : Hp} {v : V} {i : Str} (h : ValR K F H v (.str i)) : v = .str i := by
  rcases h with h | ⟨a, vs, ys, rfl, e, h1, h2⟩
  · cases h; rfl
  · cases e
theorem ValR.non {K : PySem.W.Frag} {F H : Hp} {v : V} (h : ValR K F H v .none) : v = .non := by
  rcases h with h | ⟨a, vs, ys, rfl, e, h1, h2⟩
  · cases h; rfl
  · cases e

/-! ### the state -/
def SlotOk (K : PySem.W.Frag) (Z : Fz) (F H : Hp) (v : Option (Option V)) : DV → Prop
  | .emp => True
  | .dat d => ∃ x, v = some (some x) ∧ Dq K F x d
  | .own xs => ∃ a vs, v = some (some (.ref a)) ∧ H a = some (.lst vs) ∧ F a = none ∧ Z.H0 a = none ∧ DqAll K F vs xs
  | .io xs => ∃ a vs, v = some (some (.ref a)) ∧ H a = some (.lst vs) ∧ F a = none ∧ Z.Wr a ∧ DqAll K F vs xs
  | .bor xs => ∃ a vs, v = some (some (.ref a)) ∧ DqAll K F vs xs ∧ (SqL K F a vs ∨ (Z.H0 a = some (.lst vs) ∧ ¬ Z.Wr a))

structure R (K : PySem.W.Frag) (Z : Fz) (F : Hp) (τ : DSt) (σ : St) (H : Hp) : Prop where
  sub : Same F H
  f0 : Same Z.F0 F
  len : τ.length = σ.length
  slot : ∀ (i : Nat) d, τ[i]? = some d → SlotOk K Z F H σ[i]? d
  apart : ∀ (i j : Nat) a, σ[i]? = some (some (.ref a)) → σ[j]? = some (some (.ref a)) → Lst τ[i]? → Lst τ[j]? → i = j
  frame : ∀ a o, Z.H0 a = some o → NT o → ¬ Z.Wr a → H a = some o
  dom : ∀ a, Z.H0 a ≠ none → H a ≠ none
  froz : ∀ a, F a ≠ none → Z.F0 a ≠ none ∨ Z.H0 a = none
  wr : ∀ a, Z.Wr a → Z.F0 a = none ∧ Z.H0 a ≠ none
  tabs : LamX.Tabs (lamT K) H
  fnt : ∀ a o, F a = some o → NT o

def dvD : Option DV → D
  | some (.dat d) => d
  | some (.own xs) => .list xs
  | some (.io xs) => .list xs
  | some (.bor xs) => .list xs
  | _ => .none
def val (τ : DSt) : EV → D
  | .dat d => d
  | .tmp xs => .list xs
  | .slot i => dvD τ[i]?

/-- an expression's value, seen from the heap Hb ahead of it -/
def EVR (K : PySem.W.Frag) (Z : Fz) (Hb F H : Hp) (τ : DSt) (σ : St) : EV → V → Prop
  | .dat d, v => Dq K F v d
  | .tmp xs, v => ∃ a vs, v = .ref a ∧ H a = some (.lst vs) ∧ F a = none ∧ Z.H0 a = none ∧ Hb a = none ∧ ¬ Own τ σ a ∧ DqAll K F vs xs
  | .slot i, v => σ[i]? = some (some v) ∧ Live τ i

/-- what an expression leaves -/
structure Gr (F H : Hp) (τ : DSt) (σ : St) (F' H' : Hp) (τ' : DSt) : Prop where
  f : Same F F'
  keep : ∀ a o, H a = some o → NT o → ¬ Own τ σ a → H' a = some o
  dom : ∀ a, H a ≠ none → H' a ≠ none
  new : ∀ a, F a = none → H a ≠ none → ¬ Own τ σ a → F' a = none
  lst : ∀ i : Nat, Lst τ'[i]? → Lst τ[i]?
  live : ∀ i, Live τ i → Live τ' i

theorem Gr.own {F H F' H' : Hp} {τ τ' : DSt} {σ : St} (g : Gr F H τ σ F' H' τ') (a : Addr) (h : Own τ' σ a) : Own τ σ a :=
  let ⟨i, h1, h2⟩ := h; ⟨i, h1, g.lst i h2⟩
theorem Gr.refl {F H : Hp} {τ : DSt} {σ : St} : Gr F H τ σ F H τ := ⟨Same.refl _, fun _ _ h _ _ => h, fun _ h => h, fun _ h _ _ => h, fun _ h => h, fun _ h => h⟩
theorem Gr.trans {F H F1 H1 F2 H2 : Hp} {τ τ1 τ2 : DSt} {σ : St} (a : Gr F H τ σ F1 H1 τ1) (b : Gr F1 H1 τ1 σ F2 H2 τ2) : Gr F H τ σ F2 H2 τ2 where
  f := a.f.trans b.f
  keep := fun c o h t n => b.keep c o (a.keep c o h t n) t fun z => n (a.own c z)
  dom := fun c h => b.dom c (a.dom c h)
  new := fun c h h2 n => b.new c (a.new c h h2 n) (a.dom c h2) fun z => n (a.own c z)
  lst := fun c h => a.lst c (b.lst c h)
  live := fun i h => b.live i (a.live i h)

section
variable {K : PySem.W.Frag} {Z : Fz} {Hb F H F' H' : Hp} {τ τ' : DSt} {σ : St} {ev : EV} {v : V}
theorem EVR.grow (h : EVR K Z Hb F H τ σ ev v) (g : Gr F H τ σ F' H' τ') : EVR K Z Hb F' H' τ' σ ev v := by
  cases ev with
  | dat d => exact dp_mono g.f d v h
  | tmp xs =>
    obtain ⟨a, vs, e, h1, h2, h3, h4, h5, h6⟩ := h
    exact ⟨a, vs, e, g.keep a _ h1 nt_lst h5, g.new a h2 (by rw [h1]; exact fun z => by cases z) h5, h3, h4, fun z => h5 (g.own a z), dpAll_mono g.f _ _ h6⟩
  | slot i => exact ⟨h.1, g.live i h.2⟩
theorem EVR.base {Hc : Hp} (h : EVR K Z Hb F H τ σ ev v) (hb : ∀ a, Hc a ≠ none → Hb a ≠ none) : EVR K Z Hc F H τ σ ev v := by
  cases ev with
  | dat d => exact h
  | tmp xs =>
    obtain ⟨a, vs, e, h1, h2, h3, h4, h5, h6⟩ := h
    refine ⟨a, vs, e, h1, h2, h3, ?_, h5, h6⟩
    cases q : Hc a with
    | none => rfl
    | some o => exact absurd h4 (hb a (by rw [q]; exact fun z => by cases z))
  | slot i => exact h
theorem R.val (r : R K Z F τ σ H) (h : EVR K Z Hb F H τ σ ev v) : ValR K F H v (val τ ev) := by
  cases ev with
  | dat d => exact .inl h
  | tmp xs =>
    obtain ⟨a, vs, e, h1, h2, h3, h4, h5, h6⟩ := h
    exact .inr ⟨a, vs, xs, e, rfl, SqL.of h1, h6⟩
  | slot i =>
    obtain ⟨h1, d, h2, h3⟩ := h
    have s := r.slot i d h2
    show ValR K F H v (dvD τ[i]?)
    rw [h2]
    cases d with
    | emp => exact absurd rfl h3
    | dat d =>
      obtain ⟨x, e, q⟩ := s
      rw [h1] at e
      cases e
      exact .inl q
    | own xs =>
      obtain ⟨a, vs, e, q1, q2, q3, q4⟩ := s
      rw [h1] at e
      cases e
      exact .inr ⟨a, vs, xs, rfl, rfl, SqL.of q1, q4⟩
    | io xs =>
      obtain ⟨a, vs, e, q1, q2, q3, q4⟩ := s
      rw [h1] at e
      cases e
      exact .inr ⟨a, vs, xs, rfl, rfl, SqL.of q1, q4⟩
    | bor xs =>
      obtain ⟨a, vs, e, q1, q2⟩ := s
      rw [h1] at e
      cases e
      refine .inr ⟨a, vs, xs, rfl, rfl, ?_, q1⟩
      rcases q2 with q2 | ⟨q2, q3⟩
      · exact r.sub.seq q2
      · exact SqL.of (r.frame _ _ q2 nt_lst q3)
/-- a grown heap under the same slots -/
theorem R.moreN (r : R K Z F τ σ H) (s1 : Same F F') (s2 : Same F' H') (s3 : ∀ a o, H a = some o → NT o → H' a = some o) (dm : ∀ a, H a ≠ none → H' a ≠ none) (tb : LamX.Tabs (lamT K) H') (n : Nw F F' H) : R K Z F' τ σ H' where
  sub := s2
  f0 := r.f0.trans s1
  len := r.len
  slot := fun i d e => by
    have s := r.slot i d e
    have nn : ∀ {a vs}, H a = some (HO.lst vs) → F a = none → F' a = none := fun {a vs} h h' => by
      cases q : F' a with
      | none => rfl
      | some o =>
        have := (n a h' (by rw [q]; exact fun z => by cases z)).1
        rw [this] at h; cases h
    cases d with
    | emp => trivial
    | dat d => obtain ⟨x, e, q⟩ := s; exact ⟨x, e, dp_mono s1 _ _ q⟩
    | own xs => obtain ⟨a, vs, e, q1, q2, q3, q4⟩ := s; exact ⟨a, vs, e, s3 _ _ q1 nt_lst, nn q1 q2, q3, dpAll_mono s1 _ _ q4⟩
    | io xs => obtain ⟨a, vs, e, q1, q2, q3, q4⟩ := s; exact ⟨a, vs, e, s3 _ _ q1 nt_lst, nn q1 q2, q3, dpAll_mono s1 _ _ q4⟩
    | bor xs =>
      obtain ⟨a, vs, e, q1, q2⟩ := s
      exact ⟨a, vs, e, dpAll_mono s1 _ _ q1, q2.imp (fun z => s1.seq z) id⟩
  apart := r.apart
  frame := fun a o h t hw => s3 _ _ (r.frame a o h t hw) t
  dom := fun a h => dm a (r.dom a h)
  froz := fun a h => by
    cases q : F a with
    | some o => exact r.froz a (by rw [q]; exact fun z => by cases z)
    | none =>
      refine .inr ?_
      cases q2 : Z.H0 a with
      | none => rfl
      | some o => exact absurd (n a q h).1 (r.dom a (by rw [q2]; exact fun z => by cases z))
  wr := r.wr
  tabs := tb
  fnt := fun a o h => by
    cases q : F a with
    | some u => have := s1 _ _ q; rw [h] at this; cases this; exact r.fnt _ _ q
    | none => exact (n a q (by rw [h]; exact fun z => by cases z)).2 o h
theorem same_dom {H H' : Hp} (s3 : Same H H') : ∀ a, H a ≠ none → H' a ≠ none := fun a h => by
  cases q : H a with
  | none => exact absurd q h
  | some o => rw [s3 _ _ q]; exact fun z => by cases z
theorem R.more (r : R K Z F τ σ H) (s1 : Same F F') (s2 : Same F' H') (s3 : Same H H') (n : Nw F F' H) : R K Z F' τ σ H' :=
  r.moreN s1 s2 (fun a o h _ => s3 a o h) (same_dom s3) (r.tabs.ext s3) n
theorem Gr.moreN (s1 : Same F F') (s3 : ∀ a o, H a = some o → NT o → H' a = some o) (dm : ∀ a, H a ≠ none → H' a ≠ none) (n : Nw F F' H) : Gr F H τ σ F' H' τ where
  f := s1
  keep := fun a o h t _ => s3 a o h t
  dom := dm
  new := fun a h h2 _ => by
    cases q : F' a with
    | none => rfl
    | some o => exact absurd (n a h (by rw [q]; exact fun z => by cases z)).1 h2
  lst := fun _ h => h
  live := fun _ h => h
theorem Gr.more (s1 : Same F F') (s3 : Same H H') (n : Nw F F' H) : Gr F H τ σ F' H' τ where
  f := s1
  keep := fun a o h _ _ => s3 a o h
  dom := fun a h => by
    cases q : H a with
    | none => exact absurd q h
    | some o => rw [s3 _ _ q]; exact fun z => by cases z
  new := fun a h h2 _ => by
    cases q : F' a with
    | none => rfl
    | some o => exact absurd (n a h (by rw [q]; exact fun z => by cases z)).1 h2
  lst := fun _ h => h
  live := fun _ h => h
end
theorem some_ne {α : Type} {o : Option α} {x : α} (h : o = some x) : o ≠ none := by rw [h]; exact fun z => by cases z
theorem ne_some {α : Type} {o : Option α} (h : o ≠ none) : ∃ x, o = some x := by
  cases o with
  | none => exact absurd rfl h
  | some x => exact ⟨x, rfl⟩
end DL
set_option Elab.async false
set_option linter.all false
set_option maxRecDepth 100000
set_option maxHeartbeats 4000000
namespace DL
open PySem L2

abbrev DQ := EV → DSt → Prop
abbrev DTE := DSt → DQ → Prop
abbrev DTT := DSt → (Bool → DSt → Prop) → Prop
abbrev DTA := DSt → (List EV → DSt → Prop) → Prop

def liftE (K : PySem.W.Frag) (t : DTE) : TE := fun σ H Q => ∃ (Z : Fz) (F : Hp) (τ : DSt) (q : _), R K Z F τ σ H ∧ t τ q ∧
  ∀ F' τ' H' ev v, R K Z F' τ' σ H' → Gr F H τ σ F' H' τ' → EVR K Z H F' H' τ' σ ev v → q ev τ' → Q v H'
def liftT (K : PySem.W.Frag) (t : DTT) : TT := fun σ H Q => ∃ (Z : Fz) (F : Hp) (τ : DSt) (q : _), R K Z F τ σ H ∧ t τ q ∧
  ∀ F' τ' H' b, R K Z F' τ' σ H' → Gr F H τ σ F' H' τ' → q b τ' → Q b H'
/-- values of an argument list: each as it should be, new lists apart -/
def TmpNe (p q : EV × V) : Prop := ∀ xs ys a, p.1 = .tmp xs → q.1 = .tmp ys → p.2 = .ref a → q.2 ≠ .ref a
def EVs (K : PySem.W.Frag) (Z : Fz) (Hb F H : Hp) (τ : DSt) (σ : St) (ws : List (EV × V)) : Prop := (∀ p ∈ ws, EVR K Z Hb F H τ σ p.1 p.2) ∧ ws.Pairwise TmpNe
def liftA (K : PySem.W.Frag) (t : DTA) : TA := fun σ H Q => ∃ (Z : Fz) (F : Hp) (τ : DSt) (q : _), R K Z F τ σ H ∧ t τ q ∧
  ∀ F' τ' H' (ws : List (EV × V)), R K Z F' τ' σ H' → Gr F H τ σ F' H' τ' → EVs K Z H F' H' τ' σ ws → q (ws.map (·.1)) τ' → Q (ws.map (·.2)) H'

abbrev DE (X : Cx) (e : Expr) (t : DTE) : Prop := PE X e (liftE X.K t)
abbrev DT (X : Cx) (e : Expr) (t : DTT) : Prop := PT X e (liftT X.K t)
abbrev DA (X : Cx) (es : List Expr) (t : DTA) : Prop := PA X es (liftA X.K t)

theorem pe_imp {X : Cx} {e : Expr} {t t' : TE} (h : PE X e t) (i : ∀ σ H Q, t' σ H Q → t σ H Q) : PE X e t' := ⟨fun pins s σ H Q I hw => h.run pins s σ H Q I (i σ H Q hw)⟩
theorem pt_imp {X : Cx} {e : Expr} {t t' : TT} (h : PT X e t) (i : ∀ σ H Q, t' σ H Q → t σ H Q) : PT X e t' := ⟨fun pins s σ H Q I hw => h.run pins s σ H Q I (i σ H Q hw)⟩
theorem pw_imp {X : Cx} {e : Expr} {t t' : TT} (h : PW X e t) (i : ∀ σ H Q, t' σ H Q → t σ H Q) : PW X e t' := ⟨fun w pins s σ H Q I hw => h.run w pins s σ H Q I (i σ H Q hw)⟩
theorem pa_imp {X : Cx} {es : List Expr} {t t' : TA} (h : PA X es t) (i : ∀ σ H Q, t' σ H Q → t σ H Q) : PA X es t' := ⟨fun pos pins s σ H Q I hw => h.run pos pins s σ H Q I (i σ H Q hw)⟩
theorem ps_imp {X : Cx} {st : Stmt} {t t' : TS} (h : PS X st t) (i : ∀ D σ H, t' D σ H → t D σ H) : PS X st t' := ⟨fun pins s σ H D I hw => h.run pins s σ H D I (i D σ H hw)⟩
theorem pss_imp {X : Cx} {st : List Stmt} {t t' : TS} (h : PSs X st t) (i : ∀ D σ H, t' D σ H → t D σ H) : PSs X st t' := ⟨fun pins s σ H D I hw => h.run pins s σ H D I (i D σ H hw)⟩

/-! ### freezing -/
def frz (τ : DSt) (ev : EV) (q : D → DSt → Prop) : Prop := match ev with
  | .dat d => q d τ
  | .tmp xs => q (.list xs) τ
  | .slot i => match τ[i]? with
    | some (.own xs) => q (.list xs) (τ.set i (.dat (.list xs)))
    | some (.dat d) => q d τ
    | _ => False
def frzs : List EV → DSt → (List D → DSt → Prop) → Prop
  | [], τ, q => q [] τ
  | e :: es, τ, q => frz τ e fun d τ1 => frzs es τ1 fun ds τ2 => q (d :: ds) τ2

section
variable {K : PySem.W.Frag} {Z : Fz} {F H Fb Hb : Hp} {τ τb : DSt} {σ : St}
/-- a tracked list is frozen: own slots that hold it become data -/
theorem lst_set {i : Nat} {d : D} {j : Nat} (h : Lst (τ.set i (.dat d))[j]?) : Lst τ[j]? ∧ j ≠ i := by
  obtain ⟨ys, h⟩ := h
  by_cases hj : i = j
  · subst hj
    by_cases hl : i < τ.length
    · rw [List.getElem?_set_self hl] at h
      rcases h with h | h <;> cases h
    · rw [List.getElem?_eq_none (by simpa using hl)] at h
      rcases h with h | h <;> cases h
  · rw [List.getElem?_set_ne hj] at h
    exact ⟨⟨ys, h⟩, fun e => hj e.symm⟩
theorem own_of_lst {τ' : DSt} {a : Addr} (ls : ∀ i : Nat, Lst τ'[i]? → Lst τ[i]?) (h : Own τ' σ a) : Own τ σ a := let ⟨i, h1, h2⟩ := h; ⟨i, h1, ls i h2⟩
theorem frz_ok {ev : EV} {v : V} {q : D → DSt → Prop} (r : R K Z F τ σ H) (g : Gr Fb Hb τb σ F H τ) (e : EVR K Z Hb F H τ σ ev v) (h : frz τ ev q) :
    ∃ F' τ' d, R K Z F' τ' σ H ∧ Gr Fb Hb τb σ F' H τ' ∧ Same F F' ∧ Dq K F' v d ∧ q d τ' ∧ (∀ i, Live τ i → Live τ' i) ∧ (∀ i : Nat, Lst τ'[i]? → Lst τ[i]?) ∧
      (∀ a, F a = none → F' a ≠ none → v = .ref a ∧ (Own τ σ a ∨ ∃ xs, ev = .tmp xs)) := by
  cases ev with
  | dat d => exact ⟨F, τ, d, r, g, Same.refl _, e, h, fun _ h => h, fun _ h => h, fun a h1 h2 => absurd h1 h2⟩
  | tmp xs =>
    obtain ⟨a, vs, e0, h1, h2, h3, h4, h5, h6⟩ := e
    subst e0
    have sF : Same F (upd F a (.lst vs)) := fun b o hb => by rw [upd_ne (ne_of_none hb h2)]; exact hb
    have nw : ∀ b, F b = none → upd F a (.lst vs) b ≠ none → b = a := fun b hb hn => by
      by_cases z : b = a
      · exact z
      · rw [upd_ne z] at hn; exact absurd hb hn
    refine ⟨upd F a (.lst vs), τ, .list xs, ?_, ?_, sF, .lst (.inl (.inl upd_same)) (dpAll_mono sF _ _ h6), h, fun _ h => h, fun _ h => h, fun b hb hn => ?_⟩
    · refine ⟨fun b o hb => ?_, r.f0.trans sF, r.len, fun i d hd => ?_, r.apart, r.frame, r.dom, fun b hb => ?_, r.wr, r.tabs, fun b o hb => by
        by_cases z : b = a
        · subst z; rw [upd_same] at hb; cases hb; exact nt_lst
        · rw [upd_ne z] at hb; exact r.fnt b o hb⟩
      · by_cases z : b = a
        · subst z; rw [upd_same] at hb; cases hb; exact h1
        · rw [upd_ne z] at hb; exact r.sub _ _ hb
      · have s := r.slot i d hd
        have nn : ∀ {b : Addr}, σ[i]? = some (some (.ref b)) → Lst τ[i]? → F b = none → upd F a (.lst vs) b = none := fun {b} hs hl hb => by
          rw [upd_ne (fun z => h5 ⟨i, by rw [← z]; exact hs, hl⟩)]; exact hb
        cases d with
        | emp => trivial
        | dat d => obtain ⟨x, e, q⟩ := s; exact ⟨x, e, dp_mono sF _ _ q⟩
        | own ys => obtain ⟨b, ws, e, q1, q2, q3, q4⟩ := s; exact ⟨b, ws, e, q1, nn e ⟨ys, by rw [hd]; exact .inl rfl⟩ q2, q3, dpAll_mono sF _ _ q4⟩
        | io ys => obtain ⟨b, ws, e, q1, q2, q3, q4⟩ := s; exact ⟨b, ws, e, q1, nn e ⟨ys, by rw [hd]; exact .inr rfl⟩ q2, q3, dpAll_mono sF _ _ q4⟩
        | bor ys =>
          obtain ⟨b, ws, e, q1, q2⟩ := s
          exact ⟨b, ws, e, dpAll_mono sF _ _ q1, q2.imp (fun z => sF.seq z) id⟩
      · by_cases z : b = a
        · subst z; exact .inr h3
        · rw [upd_ne z] at hb; exact r.froz b hb
    · refine ⟨g.f.trans sF, g.keep, g.dom, fun b x1 x2 x3 => ?_, g.lst, g.live⟩
      rw [upd_ne (fun z => by subst z; exact x2 h4)]
      exact g.new b x1 x2 x3
    · have z := nw b hb hn
      subst z
      exact ⟨rfl, .inr ⟨xs, rfl⟩⟩
  | slot i =>
    obtain ⟨hs, d, hd, hne⟩ := e
    have h : (match τ[i]? with | some (.own xs) => q (.list xs) (τ.set i (.dat (.list xs))) | some (.dat d) => q d τ | _ => False) := h
    have s := r.slot i d hd
    rw [hd] at h
    cases d with
    | emp => exact h.elim
    | io xs => exact h.elim
    | bor xs => exact h.elim
    | dat d =>
      obtain ⟨x, e, p⟩ := s
      rw [hs] at e
      cases e
      exact ⟨F, τ, d, r, g, Same.refl _, p, h, fun _ h => h, fun _ h => h, fun a h1 h2 => absurd h1 h2⟩
    | own xs =>
      obtain ⟨a, vs, e, q1, q2, q3, q4⟩ := s
      rw [hs] at e
      cases e
      have hi : i < τ.length := (List.getElem?_eq_some_iff.mp hd).1
      have sF : Same F (upd F a (.lst vs)) := fun b o hb => by rw [upd_ne (ne_of_none hb q2)]; exact hb
      have oA : Own τ σ a := ⟨i, hs, xs, by rw [hd]; exact .inl rfl⟩
      have lv : ∀ j, Live τ j → Live (τ.set i (.dat (.list xs))) j := fun j ⟨d, e1, e2⟩ => by
        by_cases z : i = j
        · subst z; exact ⟨_, List.getElem?_set_self hi, fun z => by cases z⟩
        · exact ⟨d, by rw [List.getElem?_set_ne z]; exact e1, e2⟩
      have ow : ∀ j : Nat, Lst (τ.set i (.dat (.list xs)))[j]? → Lst τ[j]? := fun j hj => (lst_set hj).1
      refine ⟨upd F a (.lst vs), τ.set i (.dat (.list xs)), .list xs, ?_, ?_, sF, .lst (.inl (.inl upd_same)) (dpAll_mono sF _ _ q4), h, lv, ow, fun b hb hn => ?_⟩
      · refine ⟨fun b o hb => ?_, r.f0.trans sF, by rw [List.length_set]; exact r.len, fun j d' hd' => ?_, fun j k b e1 e2 e3 e4 => ?_, r.frame, r.dom, fun b hb => ?_, r.wr, r.tabs, fun b o hb => by
        by_cases z : b = a
        · subst z; rw [upd_same] at hb; cases hb; exact nt_lst
        · rw [upd_ne z] at hb; exact r.fnt b o hb⟩
        · by_cases z : b = a
          · subst z; rw [upd_same] at hb; cases hb; exact q1
          · rw [upd_ne z] at hb; exact r.sub _ _ hb
        · by_cases z : i = j
          · subst z
            rw [List.getElem?_set_self hi] at hd'
            cases hd'
            exact ⟨_, hs, .lst (.inl (.inl upd_same)) (dpAll_mono sF _ _ q4)⟩
          · rw [List.getElem?_set_ne z] at hd'
            have s := r.slot j d' hd'
            have nn : ∀ {b : Addr}, σ[j]? = some (some (.ref b)) → Lst τ[j]? → F b = none → upd F a (.lst vs) b = none := fun {b} hs' hl hb => by
              rw [upd_ne (fun y => by
                subst y
                exact z (r.apart i j b hs hs' ⟨xs, by rw [hd]; exact .inl rfl⟩ hl))]
              exact hb
            cases d' with
            | emp => trivial
            | dat d => obtain ⟨x, e, q⟩ := s; exact ⟨x, e, dp_mono sF _ _ q⟩
            | own ys => obtain ⟨b, ws, e, p1, p2, p3, p4⟩ := s; exact ⟨b, ws, e, p1, nn e ⟨ys, by rw [hd']; exact .inl rfl⟩ p2, p3, dpAll_mono sF _ _ p4⟩
            | io ys => obtain ⟨b, ws, e, p1, p2, p3, p4⟩ := s; exact ⟨b, ws, e, p1, nn e ⟨ys, by rw [hd']; exact .inr rfl⟩ p2, p3, dpAll_mono sF _ _ p4⟩
            | bor ys =>
              obtain ⟨b, ws, e, p1, p2⟩ := s
              exact ⟨b, ws, e, dpAll_mono sF _ _ p1, p2.imp (fun z => sF.seq z) id⟩
        · exact r.apart j k b e1 e2 (lst_set e3).1 (lst_set e4).1
        · by_cases z : b = a
          · subst z; exact .inr q3
          · rw [upd_ne z] at hb; exact r.froz b hb
      · refine ⟨g.f.trans sF, g.keep, g.dom, fun b x1 x2 x3 => ?_, fun j hj => g.lst j (lst_set hj).1, fun j hj => lv j (g.live j hj)⟩
        rw [upd_ne (fun z => by subst z; exact x3 (g.own _ oA))]
        exact g.new b x1 x2 x3
      · by_cases z : b = a
        · subst z; exact ⟨rfl, .inl oA⟩
        · rw [upd_ne z] at hn; exact absurd hb hn
/-- behind one freezing the other values are as they should be -/
theorem evr_frz {ev e2 : EV} {v v2 : V} {F' : Hp} {τ' : DSt} (h : EVR K Z Hb F H τ σ e2 v2) (s : Same F F') (lv : ∀ i, Live τ i → Live τ' i) (ow : ∀ i : Nat, Lst τ'[i]? → Lst τ[i]?)
    (nw : ∀ a, F a = none → F' a ≠ none → v = .ref a ∧ (Own τ σ a ∨ ∃ xs, ev = .tmp xs)) (ne : TmpNe (ev, v) (e2, v2)) : EVR K Z Hb F' H τ' σ e2 v2 := by
  cases e2 with
  | dat d => exact dp_mono s d v2 h
  | slot i => exact ⟨h.1, lv i h.2⟩
  | tmp xs =>
    obtain ⟨a, vs, e, h1, h2, h3, h4, h5, h6⟩ := h
    refine ⟨a, vs, e, h1, ?_, h3, h4, fun z => h5 (own_of_lst ow z), dpAll_mono s _ _ h6⟩
    cases q : F' a with
    | none => rfl
    | some o =>
      obtain ⟨e1, e2⟩ := nw a h2 (some_ne q)
      rcases e2 with e2 | ⟨ys, e2⟩
      · exact absurd e2 h5
      · exact absurd e (ne ys xs a e2 rfl e1)
theorem frzs_ok : ∀ {ws : List (EV × V)} {F : Hp} {τ : DSt} {q : List D → DSt → Prop}, R K Z F τ σ H → Gr Fb Hb τb σ F H τ → EVs K Z Hb F H τ σ ws → frzs (ws.map (·.1)) τ q →
    ∃ F' τ' ds, R K Z F' τ' σ H ∧ Gr Fb Hb τb σ F' H τ' ∧ DqAll K F' (ws.map (·.2)) ds ∧ q ds τ' ∧ Same F F' ∧ (∀ i, Live τ i → Live τ' i) ∧ (∀ i : Nat, Lst τ'[i]? → Lst τ[i]?) ∧
      (∀ a, F a = none → F' a ≠ none → Own τ σ a ∨ ∃ p ∈ ws, p.2 = .ref a ∧ ∃ xs, p.1 = .tmp xs)
  | [], F, τ, q, r, g, _, h => ⟨F, τ, [], r, g, .nil, h, Same.refl _, fun _ h => h, fun _ h => h, fun a h1 h2 => absurd h1 h2⟩
  | (e, v) :: ws, F, τ, q, r, g, ev, h => by
    have h : frz τ e fun d τ1 => frzs (ws.map (·.1)) τ1 fun ds τ2 => q (d :: ds) τ2 := h
    obtain ⟨F1, τ1, d, r1, g1, s1, p1, h1, lv1, ow1, nw1⟩ := frz_ok r g (ev.1 _ List.mem_cons_self) h
    have pw := List.pairwise_cons.mp ev.2
    have ev1 : EVs K Z Hb F1 H τ1 σ ws := ⟨fun p hp => evr_frz (ev.1 p (List.mem_cons_of_mem _ hp)) s1 lv1 ow1 nw1 (pw.1 p hp), pw.2⟩
    obtain ⟨F2, τ2, ds, r2, g2, p2, h2, s2, lv2, ow2, nw2⟩ := frzs_ok r1 g1 ev1 h1
    refine ⟨F2, τ2, d :: ds, r2, g2, .cons (dp_mono s2 _ _ p1) p2, h2, s1.trans s2, fun i x => lv2 i (lv1 i x), fun a x => ow1 a (ow2 a x), fun a x1 x2 => ?_⟩
    cases z : F1 a with
    | none =>
      rcases nw2 a z x2 with y | ⟨p, hp, y⟩
      · exact .inl (own_of_lst ow1 y)
      · exact .inr ⟨p, List.mem_cons_of_mem _ hp, y⟩
    | some o =>
      obtain ⟨y1, y2⟩ := nw1 a x1 (some_ne z)
      rcases y2 with y2 | y2
      · exact .inl y2
      · exact .inr ⟨_, List.mem_cons_self, y1, y2⟩
end

/-! ### names, constants, arguments -/
section
variable {Z : Fz} {X : Cx} {pos : Pos}
def dVar (i : Nat) : DTE := fun τ q => match τ[i]? with
  | some (.dat d) => q (.dat d) τ
  | some (.own _) => q (.slot i) τ
  | some (.io _) => q (.slot i) τ
  | some (.bor _) => q (.slot i) τ
  | _ => False
theorem de_var {i : Nat} {x : Str} (h : PE X (.Name x pos) (tVar i)) : DE X (.Name x pos) (dVar i) := by
  refine pe_imp h fun σ H Q ⟨Z, F, τ, q, r, ht, k⟩ => ?_
  have ht : (match τ[i]? with | some (.dat d) => q (.dat d) τ | some (.own _) => q (.slot i) τ | some (.io _) => q (.slot i) τ | some (.bor _) => q (.slot i) τ | _ => False) := ht
  cases hd : τ[i]? with
  | none => rw [hd] at ht; exact ht.elim
  | some d =>
    rw [hd] at ht
    have s := r.slot i d hd
    cases d with
    | emp => exact ht.elim
    | dat d => obtain ⟨x, e, p⟩ := s; exact ⟨x, e, k F τ H (.dat d) x r Gr.refl p ht⟩
    | own xs => obtain ⟨a, vs, e, _⟩ := s; exact ⟨_, e, k F τ H (.slot i) _ r Gr.refl ⟨e, _, hd, fun z => by cases z⟩ ht⟩
    | io xs => obtain ⟨a, vs, e, _⟩ := s; exact ⟨_, e, k F τ H (.slot i) _ r Gr.refl ⟨e, _, hd, fun z => by cases z⟩ ht⟩
    | bor xs => obtain ⟨a, vs, e, _⟩ := s; exact ⟨_, e, k F τ H (.slot i) _ r Gr.refl ⟨e, _, hd, fun z => by cases z⟩ ht⟩
def dC (d : D) : DTE := fun τ q => q (.dat d) τ
theorem de_con {e : Expr} {d : D} {v : V} (h : PE X e (tC v)) (hv : ∀ F, Dq X.K F v d) : DE X e (dC d) :=
  pe_imp h fun σ H Q ⟨Z, F, τ, q, r, ht, k⟩ => k F τ H (.dat d) v r Gr.refl (hv F) ht
theorem de_int {i : Int} {j} : DE X (.Constant (.int i) j pos) (dC (.int i)) := de_con pe_int fun _ => .int i
theorem de_bl {i : Bool} {j} : DE X (.Constant (.bool i) j pos) (dC (.bool i)) := de_con pe_bl fun _ => .bl i
theorem de_non {j} : DE X (.Constant .none j pos) (dC .none) := de_con pe_non fun _ => .non
theorem de_str {i : Str} {j} : DE X (.Constant (.str i) j pos) (dC (.str i)) := de_con pe_str fun _ => .str i
/-- a module's constant -/
theorem de_globI {x : Str} {i : Int} {t : Tok} (hg : Gl X x) (hm : X.mg x = some (.int i t)) (hd : (x == ("__debug__" : Str)) = false := by decide) : DE X (.Name x pos) (dC (.int i)) := de_con (v := .int i) (pe_glob hg hm (show RelV (.int i) (.int i t) from ⟨t, rfl⟩) hd) fun _ => .int i
theorem de_globS {x : Str} {i : Str} {t : Tok} (hg : Gl X x) (hm : X.mg x = some (.str i t)) (hd : (x == ("__debug__" : Str)) = false := by decide) : DE X (.Name x pos) (dC (.str i)) := de_con (v := .str i) (pe_glob hg hm (show RelV (.str i) (.str i t) from ⟨t, rfl⟩) hd) fun _ => .str i

def dNil : DTA := fun τ q => q [] τ
def dCons (t : DTE) (u : DTA) : DTA := fun τ q => t τ fun e τ1 => u τ1 fun es τ2 => q (e :: es) τ2
theorem da_nil : DA X [] dNil := pa_imp pa_nil fun σ H Q ⟨Z, F, τ, q, r, ht, k⟩ => k F τ H [] r Gr.refl ⟨fun _ z => (nomatch z), List.Pairwise.nil⟩ ht
theorem EVR.ext {K : PySem.W.Frag} {Hb F H F1 H1 : Hp} {τ τ1 : DSt} {σ : St} {ev : EV} {v : V} (h : EVR K Z Hb F H τ σ ev v) (g : Gr F H τ σ F1 H1 τ1) : EVR K Z Hb F1 H1 τ1 σ ev v := h.grow g
theorem da_cons {e : Expr} {es : List Expr} {t : DTE} {u : DTA} (ha : DE X e t) (hr : DA X es u) (hs : starEach (e :: es) X.env = (false, eval e X.env) :: starEach es X.env := by rfl) : DA X (e :: es) (dCons t u) := by
  refine pa_imp (pa_cons ha hr hs) fun σ H Q ⟨Z, F, τ, q, r, ht, k⟩ => ?_
  refine ⟨Z, F, τ, _, r, ht, fun F1 τ1 H1 ev v r1 g1 e1 h1 => ?_⟩
  refine ⟨Z, F1, τ1, _, r1, h1, fun F2 τ2 H2 ws r2 g2 e2 h2 => ?_⟩
  refine k F2 τ2 H2 ((ev, v) :: ws) r2 (g1.trans g2) ⟨fun p hp => ?_, List.pairwise_cons.mpr ⟨fun p hp => ?_, e2.2⟩⟩ h2
  · rcases List.mem_cons.mp hp with rfl | hp
    · exact e1.grow g2
    · exact (e2.1 p hp).base fun a z => g1.dom a z
  · intro xs ys a z1 z2 z3 z4
    have z1 : ev = .tmp xs := z1
    have z3 : v = .ref a := z3
    subst z1 z3
    obtain ⟨b, vs, e, p1, _⟩ := e1
    cases e
    have e3 := e2.1 p hp
    rw [z2, z4] at e3
    obtain ⟨b, vs', e, _, _, _, p4, _⟩ := e3
    cases e
    rw [p1] at p4
    cases p4
end
end DL
set_option Elab.async false
set_option linter.all false
set_option maxRecDepth 100000
set_option maxHeartbeats 4000000
namespace DL
open PySem L2

/-! ### operations on values that leave all that stood -/
def NewR (K : PySem.W.Frag) (F' H H' : Hp) : EV → V → Prop
  | .dat d, v => Dq K F' v d
  | .tmp xs, v => ∃ a vs, v = .ref a ∧ H' a = some (.lst vs) ∧ F' a = none ∧ H a = none ∧ DqAll K F' vs xs
  | .slot _, _ => False
def Post (K : PySem.W.Frag) (F H : Hp) (q : EV → Prop) (Q : VK) : Prop := ∀ F' H' ev v, Same F F' → Same F' H' → Same H H' → Nw F F' H → NewR K F' H H' ev v → q ev → Q v H'
section
variable {K : PySem.W.Frag} {Z : Fz} {F H Fb Hb F' H' : Hp} {τ τb : DSt} {σ : St} {q : EV → Prop} {Q : VK}
theorem Post.dat {v : V} {d : D} (p : Post K F H q Q) (s : Same F H) (h : Dq K F v d) (hq : q (.dat d)) : Q v H :=
  p F H (.dat d) v (Same.refl _) s (Same.refl _) (fun a h1 h2 => absurd h1 h2) h hq
theorem upd_same_of {G : Hp} {p : Addr} {o : HO} (h : G p = none) : Same G (upd G p o) := fun b u hb => by rw [upd_ne (ne_of_none hb h)]; exact hb
theorem same_none {G G' : Hp} (s : Same G G') {p : Addr} (h : G' p = none) : G p = none := s.free h
theorem Post.tup {p : Addr} {vs : List V} {xs : List D} (P : Post K F H q Q) (s : Same F H) (hp : H p = none) (h : DqAll K F vs xs) (hq : q (.dat (.tuple xs))) : Q (.ref p) (upd H p (.tup vs)) := by
  have hF := same_none s hp
  refine P (upd F p (.tup vs)) (upd H p (.tup vs)) (.dat (.tuple xs)) (.ref p) (upd_same_of hF) (fun b u hb => ?_) (upd_same_of hp) (fun a h1 h2 => ?_) (.tup (SqT.of upd_same) (dpAll_mono (upd_same_of hF) _ _ h)) hq
  · by_cases z : b = p
    · subst z; rw [upd_same] at hb ⊢; exact hb
    · rw [upd_ne z] at hb ⊢; exact s _ _ hb
  · by_cases z : a = p
    · subst z; exact ⟨hp, fun o e => by rw [upd_same] at e; cases e; exact nt_tup⟩
    · rw [upd_ne z] at h2; exact absurd h1 h2
theorem Post.lst {p : Addr} {vs : List V} {xs : List D} (P : Post K F H q Q) (s : Same F H) (hp : H p = none) (h : DqAll K F vs xs) (hq : q (.tmp xs)) : Q (.ref p) (upd H p (.lst vs)) :=
  P F (upd H p (.lst vs)) (.tmp xs) (.ref p) (Same.refl _) (s.trans (upd_same_of hp)) (upd_same_of hp) (fun a h1 h2 => absurd h1 h2) ⟨p, vs, rfl, upd_same, same_none s hp, hp, h⟩ hq
theorem own_some (r : R K Z F τ σ H) {a : Addr} (h : Own τ σ a) : ∃ vs, H a = some (.lst vs) ∧ F a = none := by
  obtain ⟨i, h1, xs, h2⟩ := h
  rcases h2 with h2 | h2
  · obtain ⟨b, vs, e, q1, q2, _⟩ := r.slot i _ h2
    rw [h1] at e; cases e
    exact ⟨vs, q1, q2⟩
  · obtain ⟨b, vs, e, q1, q2, _⟩ := r.slot i _ h2
    rw [h1] at e; cases e
    exact ⟨vs, q1, q2⟩
theorem none_of {o : Option HO} (h : o ≠ none → False) : o = none := by
  cases o with
  | none => rfl
  | some x => exact (h (fun z => by cases z)).elim
theorem bridge {ev : EV} {v : V} (r : R K Z F τ σ H) (g : Gr Fb Hb τb σ F H τ) (s1 : Same F F') (s2 : Same F' H') (s3 : Same H H') (n : Nw F F' H) (h : NewR K F' H H' ev v) :
    R K Z F' τ σ H' ∧ Gr Fb Hb τb σ F' H' τ ∧ EVR K Z Hb F' H' τ σ ev v := by
  refine ⟨r.more s1 s2 s3 n, g.trans (Gr.more s1 s3 n), ?_⟩
  cases ev with
  | dat d => exact h
  | slot i => exact h.elim
  | tmp xs =>
    obtain ⟨a, vs, e, h1, h2, h3, h4⟩ := h
    refine ⟨a, vs, e, h1, h2, none_of fun z => r.dom a z h3, none_of fun z => g.dom a z h3, fun z => ?_, h4⟩
    obtain ⟨ws, z, _⟩ := own_some r z
    rw [h3] at z; cases z
theorem bridgeN {ev : EV} {v : V} (r : R K Z F τ σ H) (g : Gr Fb Hb τb σ F H τ) (s1 : Same F F') (s2 : Same F' H') (s3 : ∀ a o, H a = some o → NT o → H' a = some o) (dm : ∀ a, H a ≠ none → H' a ≠ none) (tb : LamX.Tabs (lamT K) H') (n : Nw F F' H) (h : NewR K F' H H' ev v) :
    R K Z F' τ σ H' ∧ Gr Fb Hb τb σ F' H' τ ∧ EVR K Z Hb F' H' τ σ ev v := by
  refine ⟨r.moreN s1 s2 s3 dm tb n, g.trans (Gr.moreN s1 s3 dm n), ?_⟩
  cases ev with
  | dat d => exact h
  | slot i => exact h.elim
  | tmp xs =>
    obtain ⟨a, vs, e, h1, h2, h3, h4⟩ := h
    refine ⟨a, vs, e, h1, h2, none_of fun z => r.dom a z h3, none_of fun z => g.dom a z h3, fun z => ?_, h4⟩
    obtain ⟨ws, z, _⟩ := own_some r z
    rw [h3] at z; cases z
end

abbrev B1 := D → (EV → Prop) → Prop
abbrev B2 := D → D → (EV → Prop) → Prop
abbrev BN := List D → (EV → Prop) → Prop
def liftO1 (K : PySem.W.Frag) (B : B1) : V → Hp → VK → Prop := fun x H Q => ∃ F d q, Same F H ∧ ValR K F H x d ∧ B d q ∧ Post K F H q Q
def liftO2 (K : PySem.W.Frag) (B : B2) : R2 := fun x y H Q => ∃ F d1 d2 q, Same F H ∧ ValR K F H x d1 ∧ ValR K F H y d2 ∧ B d1 d2 q ∧ Post K F H q Q
def liftON (K : PySem.W.Frag) (B : BN) : List V → Hp → VK → Prop := fun xs H Q => ∃ F ds q, Same F H ∧ Paired (ValR K F H) xs ds ∧ B ds q ∧ Post K F H q Q
def liftM (K : PySem.W.Frag) (B : D → List D → (EV → Prop) → Prop) : V → List V → Hp → VK → Prop := fun x xs H Q => ∃ F d ds q, Same F H ∧ ValR K F H x d ∧ Paired (ValR K F H) xs ds ∧ B d ds q ∧ Post K F H q Q

def dOp1 (B : B1) (ta : DTE) : DTE := fun τ q => ta τ fun ea τ1 => B (val τ1 ea) fun ev => q ev τ1
def dOp2 (B : B2) (ta tb : DTE) : DTE := fun τ q => ta τ fun ea τ1 => tb τ1 fun eb τ2 => B (val τ2 ea) (val τ2 eb) fun ev => q ev τ2
def dOpN (B : BN) (ta : DTA) : DTE := fun τ q => ta τ fun es τ1 => B (es.map (val τ1)) fun ev => q ev τ1

section
variable {Z : Fz} {X : Cx} {a b c : Expr} {ta tb tc : DTE} {pos : Pos}
theorem lift1 {r : V → Hp → VK → Prop} {B : B1} {σ : St} {H : Hp} {Q : VK} (i : ∀ x H Q, liftO1 X.K B x H Q → r x H Q) (h : liftE X.K (dOp1 B ta) σ H Q) : liftE X.K ta σ H fun x H1 => r x H1 Q := by
  obtain ⟨Z, F, τ, q, r0, ht, k⟩ := h
  refine ⟨Z, F, τ, _, r0, ht, fun F1 τ1 H1 ea v r1 g1 e1 h1 => ?_⟩
  refine i _ _ _ ⟨F1, _, _, r1.sub, r1.val e1, h1, fun F' H' ev w s1 s2 s3 n nr hq => ?_⟩
  obtain ⟨r2, g2, e2⟩ := bridge r1 g1 s1 s2 s3 n nr
  exact k F' τ1 H' ev w r2 g2 e2 hq
theorem lift2 {r : R2} {B : B2} {σ : St} {H : Hp} {Q : VK} (i : ∀ x y H Q, liftO2 X.K B x y H Q → r x y H Q) (h : liftE X.K (dOp2 B ta tb) σ H Q) : liftE X.K ta σ H fun x H1 => liftE X.K tb σ H1 fun y H2 => r x y H2 Q := by
  obtain ⟨Z, F, τ, q, r0, ht, k⟩ := h
  refine ⟨Z, F, τ, _, r0, ht, fun F1 τ1 H1 ea v r1 g1 e1 h1 => ?_⟩
  refine ⟨Z, F1, τ1, _, r1, h1, fun F2 τ2 H2 eb u r2 g2 e2 h2 => ?_⟩
  refine i _ _ _ _ ⟨F2, _, _, _, r2.sub, r2.val (e1.grow g2), r2.val e2, h2, fun F' H' ev w s1 s2 s3 n nr hq => ?_⟩
  obtain ⟨r3, g3, e3⟩ := bridge r2 (g1.trans g2) s1 s2 s3 n nr
  exact k F' τ2 H' ev w r3 g3 e3 hq
theorem vals_of {K : PySem.W.Frag} {Hb F H : Hp} {τ : DSt} {σ : St} (r : R K Z F τ σ H) : ∀ {ws : List (EV × V)}, (∀ p ∈ ws, EVR K Z Hb F H τ σ p.1 p.2) → Paired (ValR K F H) (ws.map (·.2)) ((ws.map (·.1)).map (val τ))
  | [], _ => .nil
  | (e, v) :: ws, h => .cons (r.val (h _ List.mem_cons_self)) (vals_of r fun p hp => h p (List.mem_cons_of_mem _ hp))
theorem liftN {r : List V → Hp → VK → Prop} {B : BN} {ta : DTA} {σ : St} {H : Hp} {Q : VK} (i : ∀ x H Q, liftON X.K B x H Q → r x H Q) (h : liftE X.K (dOpN B ta) σ H Q) : liftA X.K ta σ H fun x H1 => r x H1 Q := by
  obtain ⟨Z, F, τ, q, r0, ht, k⟩ := h
  refine ⟨Z, F, τ, _, r0, ht, fun F1 τ1 H1 ws r1 g1 e1 h1 => ?_⟩
  refine i _ _ _ ⟨F1, _, _, r1.sub, vals_of r1 e1.1, h1, fun F' H' ev w s1 s2 s3 n nr hq => ?_⟩
  obtain ⟨r2, g2, e2⟩ := bridge r1 g1 s1 s2 s3 n nr
  exact k F' τ1 H' ev w r2 g2 e2 hq

theorem de_op {op : Operator} {B : B2} (ho : OpR X (binaryOp op) (liftO2 X.K B)) (ha : DE X a ta) (hb : DE X b tb) : DE X (.BinOp a op b pos) (dOp2 B ta tb) :=
  pe_imp (pe_op ho ha hb) fun _ _ _ h => lift2 (fun _ _ _ _ z => z) h
theorem de_un {op : UnaryOp} {B : B1} (ho : UnR X (unaryOp op) (liftO1 X.K B)) (ha : DE X a ta) : DE X (.UnaryOp op a pos) (dOp1 B ta) :=
  pe_imp (pe_un ho ha) fun _ _ _ h => lift1 (fun _ _ _ z => z) h
theorem de_cmp {op : CmpOp} {B : B2} (ho : OpR X (compareOp op) (liftO2 X.K B)) (ha : DE X a ta) (hb : DE X b tb) (hm : behindInMarks op b = false) : DE X (.Compare a [op] [b] pos) (dOp2 B ta tb) :=
  pe_imp (pe_cmpR ho ha hb hm) fun _ _ _ h => lift2 (fun _ _ _ _ z => z) h
theorem de_ix {B : B2} (hr : IxR X (liftO2 X.K B)) (ha : DE X a ta) (hb : DE X b tb) (hs : PlainIx b) : DE X (.Subscript a b pos) (dOp2 B ta tb) :=
  pe_imp (pe_ix hr ha hb hs) fun _ _ _ h => lift2 (fun _ _ _ _ z => z) h
theorem de_callB {x : Str} {p : Pos} {e : Expr} {es : List Expr} {id : String} {B : BN} {t : DTA} (hc : CallR X (.builtin id) (liftON X.K B)) (hg : Gl X x) (hm : X.mg x = none) (hv : bootBuiltins x = some (.builtin id)) (ha : DA X (e :: es) t)
    (hn : x ≠ "__name__" := by decide) (hdb : (x == ("__debug__" : Str)) = false := by decide)
    (he : starEach (e :: es) X.env = (false, eval e X.env) :: starEach es X.env := by rfl) (hpl : (backTo pos (starEach es X.env)).any (·.1) = false := by rfl) : DE X (.Call (.Name x p) (e :: es) [] pos) (dOpN B t) :=
  pe_imp (pe_callB hc hg hm hv ha hn hdb he hpl) fun _ _ _ h => liftN (fun _ _ _ z => z) h
theorem de_callTy {x : Str} {p : Pos} {e : Expr} {es : List Expr} {T : String} {B : BN} {t : DTA} (hc : CallR X (.type T) (liftON X.K B)) (hg : Gl X x) (hm : X.mg x = none) (hv : bootBuiltins x = some (.type T)) (ha : DA X (e :: es) t)
    (hn : x ≠ "__name__" := by decide) (hdb : (x == ("__debug__" : Str)) = false := by decide)
    (he : starEach (e :: es) X.env = (false, eval e X.env) :: starEach es X.env := by rfl) (hpl : (backTo pos (starEach es X.env)).any (·.1) = false := by rfl) : DE X (.Call (.Name x p) (e :: es) [] pos) (dOpN B t) :=
  pe_imp (pe_callTy hc hg hm hv ha hn hdb he hpl) fun _ _ _ h => liftN (fun _ _ _ z => z) h

/-! ### displays -/
def dTup (t : DTA) : DTE := fun τ q => t τ fun es τ1 => es.length ≤ sizeLine ∧ frzs es τ1 fun ds τ2 => q (.dat (.tuple ds)) τ2
def dLst (t : DTA) : DTE := fun τ q => t τ fun es τ1 => es.length ≤ sizeLine ∧ frzs es τ1 fun ds τ2 => q (.tmp ds) τ2
theorem de_tup {es : List Expr} {t : DTA} {x1} (h : DA X es t) : DE X (.Tuple es x1 pos) (dTup t) := by
  refine pe_imp (pe_tup h) fun σ H Q ⟨Z, F, τ, q, r0, ht, k⟩ => ?_
  refine ⟨Z, F, τ, _, r0, ht, fun F1 τ1 H1 ws r1 g1 e1 h1 => ?_⟩
  obtain ⟨hl, h1⟩ := h1
  refine ⟨by simpa using hl, fun p hp => ?_⟩
  obtain ⟨F2, τ2, ds, r2, g2, p2, h2, s2, lv, ow, nw⟩ := frzs_ok r1 g1 e1 h1
  have P : Post X.K F2 H1 (fun ev => q ev τ2) Q := fun F' H' ev v s1 s2 s3 n nr hq => by
    obtain ⟨r3, g3, e3⟩ := bridge r2 g2 s1 s2 s3 n nr
    exact k F' τ2 H' ev v r3 g3 e3 hq
  exact P.tup r2.sub hp p2 h2
theorem de_lst {es : List Expr} {t : DTA} (h : DA X es t) : DE X (.List es pos) (dLst t) := by
  refine pe_imp (pe_lst h) fun σ H Q ⟨Z, F, τ, q, r0, ht, k⟩ => ?_
  refine ⟨Z, F, τ, _, r0, ht, fun F1 τ1 H1 ws r1 g1 e1 h1 => ?_⟩
  obtain ⟨hl, h1⟩ := h1
  refine ⟨by simpa using hl, fun p hp => ?_⟩
  obtain ⟨F2, τ2, ds, r2, g2, p2, h2, s2, lv, ow, nw⟩ := frzs_ok r1 g1 e1 h1
  have P : Post X.K F2 H1 (fun ev => q ev τ2) Q := fun F' H' ev v s1 s2 s3 n nr hq => by
    obtain ⟨r3, g3, e3⟩ := bridge r2 g2 s1 s2 s3 n nr
    exact k F' τ2 H' ev v r3 g3 e3 hq
  exact P.lst r2.sub hp p2 h2

/-! ### slices -/
def dPartN : DSt → (Option Int → DSt → Prop) → Prop := fun τ q => q none τ
def dPart (t : DTE) : DSt → (Option Int → DSt → Prop) → Prop := fun τ q => t τ fun ev τ1 => match val τ1 ev with | .int i => q (some i) τ1 | _ => False
def liftPO (K : PySem.W.Frag) (t : DSt → (Option Int → DSt → Prop) → Prop) : TO := fun σ H Q => ∃ (Z : Fz) (F : Hp) (τ : DSt) (q : _), R K Z F τ σ H ∧ t τ q ∧ ∀ F' τ' H' b, R K Z F' τ' σ H' → Gr F H τ σ F' H' τ' → q b τ' → Q b H'
theorem po_imp {e : Option Expr} {t t' : TO} (h : PO X e t) (i : ∀ σ H Q, t' σ H Q → t σ H Q) : PO X e t' := ⟨fun pins s σ H Q I hw => h.run pins s σ H Q I (i σ H Q hw)⟩
theorem dpo_none : PO X none (liftPO X.K dPartN) := po_imp po_none fun σ H Q ⟨Z, F, τ, q, r, ht, k⟩ => k F τ H none r Gr.refl ht
theorem dpo_some (h : DE X a ta) : PO X (some a) (liftPO X.K (dPart ta)) := po_imp (po_some h) fun σ H Q ⟨Z, F, τ, q, r, ht, k⟩ => by
  refine ⟨Z, F, τ, _, r, ht, fun F1 τ1 H1 ev v r1 g1 e1 h1 => ?_⟩
  have V := r1.val e1
  revert h1 V
  cases val τ1 ev with
  | int i => exact fun h1 V => ⟨i, V.int, k F1 τ1 H1 (some i) r1 g1 h1⟩
  | _ => exact fun h1 => h1.elim
def liftSl (K : PySem.W.Frag) (B : D → Option Int → Option Int → (EV → Prop) → Prop) : V → Option Int → Option Int → Hp → VK → Prop := fun x l u H Q => ∃ F d q, Same F H ∧ ValR K F H x d ∧ B d l u q ∧ Post K F H q Q
def dSl (B : D → Option Int → Option Int → (EV → Prop) → Prop) (te : DTE) (tl th : DSt → (Option Int → DSt → Prop) → Prop) : DTE := fun τ q => te τ fun ev τ1 => tl τ1 fun l τ2 => th τ2 fun u τ3 => B (val τ3 ev) l u fun ev => q ev τ3
theorem de_slice {lo hi : Option Expr} {p2 : Pos} {B : D → Option Int → Option Int → (EV → Prop) → Prop} {tl th : DSt → (Option Int → DSt → Prop) → Prop} (hr : SlR X (liftSl X.K B)) (he : DE X a ta) (hl : PO X lo (liftPO X.K tl)) (hu : PO X hi (liftPO X.K th)) :
    DE X (.Subscript a (.Slice lo hi none p2) pos) (dSl B ta tl th) := by
  refine pe_imp (pe_slice hr he hl hu) fun σ H Q ⟨Z, F, τ, q, r, ht, k⟩ => ?_
  refine ⟨Z, F, τ, _, r, ht, fun F1 τ1 H1 ev v r1 g1 e1 h1 => ?_⟩
  refine ⟨Z, F1, τ1, _, r1, h1, fun F2 τ2 H2 l r2 g2 h2 => ?_⟩
  refine ⟨Z, F2, τ2, _, r2, h2, fun F3 τ3 H3 u r3 g3 h3 => ?_⟩
  refine ⟨F3, _, _, r3.sub, r3.val ((e1.grow g2).grow g3), h3, fun F' H' ev w s1 s2 s3 n nr hq => ?_⟩
  obtain ⟨r4, g4, e4⟩ := bridge r3 ((g1.trans g2).trans g3) s1 s2 s3 n nr
  exact k F' τ3 H' ev w r4 g4 e4 hq

/-! ### tests -/
def truthW : D → (Bool → Prop) → Prop
  | .none, q => q false
  | .bool b, q => q b
  | .int i, q => q (i != 0)
  | .str s, q => s.length ≤ sizeLine ∧ q ((s.length : Int) != 0)
  | .list xs, q => q (!xs.isEmpty)
  | .tuple xs, q => q (!xs.isEmpty)
  | _, _ => False
def dTruth (t : DTE) : DTT := fun τ q => t τ fun ev τ1 => truthW (val τ1 ev) fun b => q b τ1
def boolW : EV → (Bool → Prop) → Prop
  | .dat (.bool b), q => q b
  | _, _ => False
def dTest (t : DTE) : DTT := fun τ q => t τ fun ev τ1 => boolW ev fun b => q b τ1
theorem isEmpty_dq {K : PySem.W.Frag} {F : Hp} {vs : List V} {ds : List D} (h : DqAll K F vs ds) : vs.isEmpty = ds.isEmpty := by cases h <;> rfl
theorem truth_ok {K : PySem.W.Frag} {F H : Hp} {v : V} {d : D} {q : Bool → Prop} (s : Same F H) (h : ValR K F H v d) (hq : truthW d q) : ∃ k, TruV K v H k ∧ q k := by
  cases d with
  | none => rw [h.non]; exact ⟨false, rfl, hq⟩
  | bool b => rw [h.bool]; exact ⟨b, rfl, hq⟩
  | int b => rw [h.int]; exact ⟨_, rfl, hq⟩
  | str b => rw [h.str]; exact ⟨_, ⟨hq.1, rfl⟩, hq.2⟩
  | list xs =>
    obtain ⟨a, vs, rfl, h1, h2⟩ := h.list s
    exact ⟨_, .inl ⟨vs, h1, rfl⟩, by rw [isEmpty_dq h2]; exact hq⟩
  | tuple xs =>
    obtain ⟨a, vs, rfl, h1, h2⟩ := h.tuple s
    exact ⟨_, .inr (.inl ⟨vs, h1, rfl⟩), by rw [isEmpty_dq h2]; exact hq⟩
  | dict kvs => exact hq.elim
theorem dt_truth (ha : DE X a ta) (he : ∀ whole, isTrue a X.env whole = (do let v ← whole; standAt a.pos; holding [v] (truthy v)) := by intro _; rfl) : DT X a (dTruth ta) := by
  refine pt_imp (pt_truth ha he) fun σ H Q ⟨Z, F, τ, q, r, ht, k⟩ => ?_
  refine ⟨Z, F, τ, _, r, ht, fun F1 τ1 H1 ev v r1 g1 e1 h1 => ?_⟩
  obtain ⟨b, h2, h3⟩ := truth_ok r1.sub (r1.val e1) h1
  exact ⟨b, h2, k F1 τ1 H1 b r1 g1 h3⟩
theorem boolW_ok {K : PySem.W.Frag} {Hb F H : Hp} {τ : DSt} {σ : St} {ev : EV} {v : V} {q : Bool → Prop} (e : EVR K Z Hb F H τ σ ev v) (h : boolW ev q) : ∃ b, v = .bl b ∧ q b := by
  cases ev with
  | dat d => cases d with
    | bool b =>
      have e : Dq K F v (.bool b) := e
      cases e
      exact ⟨b, rfl, h⟩
    | _ => exact (show False from h).elim
  | _ => exact (show False from h).elim
theorem dt_cmp {op : CmpOp} {B : B2} (ho : OpR X (compareOp op) (liftO2 X.K B)) (ha : DE X a ta) (hb : DE X b tb) (hm : behindInMarks op b = false) : DT X (.Compare a [op] [b] pos) (dTest (dOp2 B ta tb)) := by
  refine pt_imp (pt_cmpR ho ha hb hm) fun σ H Q ⟨Z, F, τ, q, r, ht, k⟩ => ?_
  refine lift2 (ta := ta) (tb := tb) (B := B) (fun _ _ _ _ z => z) ⟨Z, F, τ, _, r, ht, fun F1 τ1 H1 ev v r1 g1 e1 h1 => ?_⟩
  obtain ⟨b, e2, h2⟩ := boolW_ok e1 h1
  exact ⟨b, e2, k F1 τ1 H1 b r1 g1 h2⟩
def br (b : Bool) (A B : Prop) : Prop := match b with
  | true => A
  | false => B
/-- a op b op' c -/
def dChain (B B' : B2) (ta tb tc : DTE) : DTE := fun τ q => ta τ fun ea τ1 => tb τ1 fun eb τ2 => B (val τ2 ea) (val τ2 eb) fun e => boolW e fun k => br k (tc τ2 fun ec τ3 => B' (val τ3 eb) (val τ3 ec) fun ev => q ev τ3) (q (.dat (.bool false)) τ2)
theorem de_chain {op op' : CmpOp} {B B' : B2} (ho : OpR X (compareOp op) (liftO2 X.K B)) (ho' : OpR X (compareOp op') (liftO2 X.K B')) (ha : DE X a ta) (hb : DE X b tb) (hc : DE X c tc)
    (hm : lastMarks [op, op'] [b, c] = false := by with_unfolding_all rfl) : DE X (.Compare a [op, op'] [b, c] pos) (dChain B B' ta tb tc) := by
  refine pe_imp (pe_chain ho ho' ha hb hc hm) fun σ H Q ⟨Z, F, τ, q, r, ht, k⟩ => ?_
  refine ⟨Z, F, τ, _, r, ht, fun F1 τ1 H1 ea v r1 g1 e1 h1 => ?_⟩
  refine ⟨Z, F1, τ1, _, r1, h1, fun F2 τ2 H2 eb u r2 g2 e2 h2 => ?_⟩
  refine ⟨F2, _, _, _, r2.sub, r2.val (e1.grow g2), r2.val e2, h2, fun F' H' ev w s1 s2 s3 n nr hq => ?_⟩
  obtain ⟨r3, g3, e3⟩ := bridge r2 (g1.trans g2) s1 s2 s3 n nr
  obtain ⟨kk, e4, hq⟩ := boolW_ok e3 hq
  refine ⟨kk, e4, ?_⟩
  cases kk with
  | false => exact k F' τ2 H' (.dat (.bool false)) (.bl false) r3 g3 (Dq.bl false) hq
  | true =>
    rw [if_pos rfl]
    refine ⟨Z, F', τ2, _, r3, hq, fun F4 τ4 H4 ec w4 r4 g4 e4 h4 => ?_⟩
    refine ⟨F4, _, _, _, r4.sub, r4.val (((e2.grow (Gr.more s1 s3 n))).grow g4), r4.val e4, h4, fun F5 H5 ev5 w5 s1 s2 s3 n nr hq => ?_⟩
    obtain ⟨r5, g5, e5⟩ := bridge r4 (g3.trans g4) s1 s2 s3 n nr
    exact k F5 τ4 H5 ev5 w5 r5 g5 e5 hq
end
end DL
set_option Elab.async false
set_option linter.all false
set_option maxRecDepth 100000
set_option maxHeartbeats 4000000
namespace DL
open PySem L2

theorem br_t {b : Bool} {A B : Prop} (h : b = true) (k : A) : br b A B := by subst h; exact k
theorem br_f {b : Bool} {A B : Prop} (h : b = false) (k : B) : br b A B := by subst h; exact k
theorem br_dt {p : Prop} [Decidable p] {A B : Prop} (h : p) (k : A) : br (decide p) A B := br_t (decide_eq_true h) k
theorem br_df {p : Prop} [Decidable p] {A B : Prop} (h : ¬ p) (k : B) : br (decide p) A B := br_f (decide_eq_false h) k
theorem br_nt {p : Prop} [Decidable p] {A B : Prop} (h : ¬ p) (k : A) : br (!decide p) A B := br_t (by rw [decide_eq_false h]; rfl) k
theorem br_nf {p : Prop} [Decidable p] {A B : Prop} (h : p) (k : B) : br (!decide p) A B := br_f (by rw [decide_eq_true h]; rfl) k
theorem br_d {p : Prop} [Decidable p] {A B : Prop} (h1 : p → A) (h2 : ¬ p → B) : br (decide p) A B := by
  by_cases h : p
  · exact br_dt h (h1 h)
  · exact br_df h (h2 h)
theorem br_n {p : Prop} [Decidable p] {A B : Prop} (h1 : ¬ p → A) (h2 : p → B) : br (!decide p) A B := by
  by_cases h : p
  · exact br_nf h (h2 h)
  · exact br_nt h (h1 h)
theorem br_of {b : Bool} {A B : Prop} (h1 : b = true → A) (h2 : b = false → B) : br b A B := by
  cases b with
  | true => exact h1 rfl
  | false => exact h2 rfl
theorem br_if {b : Bool} {A B : Prop} (h : br b A B) : if b = true then A else B := by
  cases b with
  | true => exact h
  | false => rw [if_neg Bool.false_ne_true]; exact h

/-! ### and, or, not -/
abbrev DW (X : Cx) (e : Expr) (t : DTT) : Prop := PW X e (liftT X.K t)
section
variable {Z : Fz} {X : Cx} {a b c : Expr} {ta tb tc : DTE} {ua ub : DTT} {pos : Pos} {rest : List Expr}
def dAnd (t u : DTT) : DTT := fun τ q => t τ fun c τ1 => br c (u τ1 q) (q false τ1)
def dOr (t u : DTT) : DTT := fun τ q => t τ fun c τ1 => br c (q true τ1) (u τ1 q)
def dNot (t : DTT) : DTT := fun τ q => t τ fun c τ1 => q (!c) τ1
theorem dt_pw (h : DW X a ua) : DT X a ua := h.pt
theorem dw_and1 (h : DT X a ua) : DW X (.BoolOp .And [a] pos) ua := pw_and1 h
theorem dw_or1 (h : DT X a ua) : DW X (.BoolOp .Or [a] pos) ua := pw_or1 h
theorem lift_br {K : PySem.W.Frag} {F H : Hp} {τ : DSt} {σ : St} {q : Bool → DSt → Prop} {Q : Bool → Hp → Prop} {F1 H1 : Hp} {τ1 : DSt} (u : DTT) (r1 : R K Z F1 τ1 σ H1) (g1 : Gr F H τ σ F1 H1 τ1)
    (k : ∀ F' τ' H' b, R K Z F' τ' σ H' → Gr F H τ σ F' H' τ' → q b τ' → Q b H') (h : u τ1 q) : liftT K u σ H1 Q :=
  ⟨Z, F1, τ1, q, r1, h, fun F' τ' H' b r' g' h' => k F' τ' H' b r' (g1.trans g') h'⟩
theorem dw_and (ha : DT X a ua) (hb : DW X (.BoolOp .And (b :: rest) pos) ub) : DW X (.BoolOp .And (a :: b :: rest) pos) (dAnd ua ub) := by
  refine pw_imp (pw_and ha hb) fun σ H Q ⟨Z, F, τ, q, r, ht, k⟩ => ?_
  refine ⟨Z, F, τ, _, r, ht, fun F1 τ1 H1 c r1 g1 h1 => br_if ?_⟩
  cases c with
  | true => exact lift_br ub r1 g1 k h1
  | false => exact k F1 τ1 H1 false r1 g1 h1
theorem dw_or (ha : DT X a ua) (hb : DW X (.BoolOp .Or (b :: rest) pos) ub) : DW X (.BoolOp .Or (a :: b :: rest) pos) (dOr ua ub) := by
  refine pw_imp (pw_or ha hb) fun σ H Q ⟨Z, F, τ, q, r, ht, k⟩ => ?_
  refine ⟨Z, F, τ, _, r, ht, fun F1 τ1 H1 c r1 g1 h1 => br_if ?_⟩
  cases c with
  | true => exact k F1 τ1 H1 true r1 g1 h1
  | false => exact lift_br ub r1 g1 k h1
theorem dt_not (ha : DT X a ua) : DT X (.UnaryOp .Not a pos) (dNot ua) := by
  refine pt_imp (pt_not ha) fun σ H Q ⟨Z, F, τ, q, r, ht, k⟩ => ?_
  exact ⟨Z, F, τ, _, r, ht, fun F1 τ1 H1 c r1 g1 h1 => k F1 τ1 H1 (!c) r1 g1 h1⟩
/-- as values: all of them bools -/
def dAndV (t u : DTE) : DTE := fun τ q => t τ fun e τ1 => boolW e fun c => br c (u τ1 q) (q (.dat (.bool false)) τ1)
def dOrV (t u : DTE) : DTE := fun τ q => t τ fun e τ1 => boolW e fun c => br c (q (.dat (.bool true)) τ1) (u τ1 q)
def dNotV (t : DTE) : DTE := fun τ q => t τ fun e τ1 => boolW e fun c => q (.dat (.bool (!c))) τ1
theorem de_one {op} (h : DE X a ta) : DE X (.BoolOp op [a] pos) ta := pe_one h
theorem de_and (ha : DE X a ta) (hb : DE X (.BoolOp .And (b :: rest) pos) tb) : DE X (.BoolOp .And (a :: b :: rest) pos) (dAndV ta tb) := by
  refine pe_imp (pe_and ha hb) fun σ H Q ⟨Z, F, τ, q, r, ht, k⟩ => ?_
  refine ⟨Z, F, τ, _, r, ht, fun F1 τ1 H1 e v r1 g1 e1 h1 => ?_⟩
  obtain ⟨c, z, h1⟩ := boolW_ok e1 h1
  refine ⟨c, z, br_if ?_⟩
  cases c with
  | true => exact ⟨Z, F1, τ1, q, r1, h1, fun F' τ' H' ev v r' g' e' h' => k F' τ' H' ev v r' (g1.trans g') (e'.base g1.dom) h'⟩
  | false => exact k F1 τ1 H1 (.dat (.bool false)) (.bl false) r1 g1 (Dq.bl false) h1
theorem de_or (ha : DE X a ta) (hb : DE X (.BoolOp .Or (b :: rest) pos) tb) : DE X (.BoolOp .Or (a :: b :: rest) pos) (dOrV ta tb) := by
  refine pe_imp (pe_or ha hb) fun σ H Q ⟨Z, F, τ, q, r, ht, k⟩ => ?_
  refine ⟨Z, F, τ, _, r, ht, fun F1 τ1 H1 e v r1 g1 e1 h1 => ?_⟩
  obtain ⟨c, z, h1⟩ := boolW_ok e1 h1
  refine ⟨c, z, br_if ?_⟩
  cases c with
  | true => exact k F1 τ1 H1 (.dat (.bool true)) (.bl true) r1 g1 (Dq.bl true) h1
  | false => exact ⟨Z, F1, τ1, q, r1, h1, fun F' τ' H' ev v r' g' e' h' => k F' τ' H' ev v r' (g1.trans g') (e'.base g1.dom) h'⟩
theorem de_not (ha : DE X a ta) : DE X (.UnaryOp .Not a pos) (dNotV ta) := by
  refine pe_imp (pe_not ha) fun σ H Q ⟨Z, F, τ, q, r, ht, k⟩ => ?_
  refine ⟨Z, F, τ, _, r, ht, fun F1 τ1 H1 e v r1 g1 e1 h1 => ?_⟩
  obtain ⟨c, z, h1⟩ := boolW_ok e1 h1
  exact ⟨c, z, k F1 τ1 H1 (.dat (.bool (!c))) (.bl (!c)) r1 g1 (Dq.bl _) h1⟩
def dIfE (t : DTT) (ta tb : DTE) : DTE := fun τ q => t τ fun c τ1 => br c (ta τ1 q) (tb τ1 q)
theorem de_if (hc : DT X c ua) (ha : DE X a ta) (hb : DE X b tb) : DE X (.IfExp c a b pos) (dIfE ua ta tb) := by
  refine pe_imp (pe_ifExp hc ha hb) fun σ H Q ⟨Z, F, τ, q, r, ht, k⟩ => ?_
  refine ⟨Z, F, τ, _, r, ht, fun F1 τ1 H1 c r1 g1 h1 => br_if ?_⟩
  cases c with
  | true => exact ⟨Z, F1, τ1, q, r1, h1, fun F' τ' H' ev v r' g' e' h' => k F' τ' H' ev v r' (g1.trans g') (e'.base g1.dom) h'⟩
  | false => exact ⟨Z, F1, τ1, q, r1, h1, fun F' τ' H' ev v r' g' e' h' => k F' τ' H' ev v r' (g1.trans g') (e'.base g1.dom) h'⟩
end

/-! ### statements -/
structure DEnds where
  nx : DSt → Prop
  rt : EV → DSt → Prop
  bk : DSt → Prop := fun _ => False
  ct : DSt → Prop := fun _ => False
abbrev DTS := DEnds → DSt → Prop
structure EndsOk (K : PySem.W.Frag) (Z : Fz) (E : DEnds) (D : Ends) : Prop where
  nx : ∀ F τ σ H, R K Z F τ σ H → E.nx τ → D.nx σ H
  rt : ∀ F τ σ H ev v, R K Z F τ σ H → EVR K Z Z.H0 F H τ σ ev v → E.rt ev τ → D.rt v H
  bk : ∀ F τ σ H, R K Z F τ σ H → E.bk τ → D.bk σ H
  ct : ∀ F τ σ H, R K Z F τ σ H → E.ct τ → D.ct σ H
def liftS (K : PySem.W.Frag) (t : DTS) : TS := fun D σ H => ∃ (Z : Fz) (F : Hp) (τ : DSt) (E : DEnds), R K Z F τ σ H ∧ t E τ ∧ EndsOk K Z E D
abbrev DS (X : Cx) (st : Stmt) (t : DTS) : Prop := PS X st (liftS X.K t)
abbrev DSs (X : Cx) (st : List Stmt) (t : DTS) : Prop := PSs X st (liftS X.K t)
section
variable {Z : Fz} {X : Cx} {st : Stmt} {rest : List Stmt} {t u : DTS} {e c : Expr} {te : DTE} {tc : DTT} {pos : Pos}
def dNext : DTS := fun E τ => E.nx τ
def dSeq (t u : DTS) : DTS := fun E τ => t { E with nx := u E } τ
theorem dss_nil : DSs X [] dNext := pss_imp pss_nil fun D σ H ⟨Z, F, τ, E, r, h, k⟩ => k.nx F τ σ H r h
theorem dss_cons (h1 : DS X st t) (h2 : DSs X rest u) : DSs X (st :: rest) (dSeq t u) :=
  pss_imp (pss_cons h1 h2) fun D σ H ⟨Z, F, τ, E, r, h, k⟩ => ⟨Z, F, τ, _, r, h, ⟨fun F τ σ H r h => ⟨Z, F, τ, E, r, h, k⟩, k.rt, k.bk, k.ct⟩⟩
theorem dss_one (h1 : DS X st t) : DSs X [st] t := pss_one h1
theorem ds_pass : DS X (.Pass pos) dNext := ps_imp ps_pass fun D σ H ⟨Z, F, τ, E, r, h, k⟩ => k.nx F τ σ H r h
def dBreak : DTS := fun E τ => E.bk τ
def dCont : DTS := fun E τ => E.ct τ
theorem ds_break : DS X (.Break pos) dBreak := ps_imp ps_break fun D σ H ⟨Z, F, τ, E, r, h, k⟩ => k.bk F τ σ H r h
theorem ds_continue : DS X (.Continue pos) dCont := ps_imp ps_continue fun D σ H ⟨Z, F, τ, E, r, h, k⟩ => k.ct F τ σ H r h
theorem ds_doc {x j pos pos'} : DS X (.Expr (.Constant (.str x) j pos) pos') dNext := ps_imp ps_doc fun D σ H ⟨Z, F, τ, E, r, h, k⟩ => k.nx F τ σ H r h
def dNever : DTS := fun _ _ => False
theorem ds_never : DS X st dNever := ps_imp ps_never fun D σ H ⟨Z, F, τ, E, r, h, k⟩ => h.elim
theorem dss_never : DSs X rest dNever := pss_imp pss_never fun D σ H ⟨Z, F, τ, E, r, h, k⟩ => h.elim
def dDrop (t : DTE) : DTS := fun E τ => t τ fun _ τ1 => E.nx τ1
theorem ds_expr (he : DE X e te) (hs : swapsWith e none pos.line X.env = pure false := by rfl) : DS X (.Expr e pos) (dDrop te) :=
  ps_imp (ps_expr he hs) fun D σ H ⟨Z, F, τ, E, r, h, k⟩ => ⟨Z, F, τ, _, r, h, fun F' τ' H' ev v r' g' e' h' => k.nx F' τ' σ H' r' h'⟩
def dRet (t : DTE) : DTS := fun E τ => t τ E.rt
theorem ds_ret (he : DE X e te) : DS X (.Return (some e) pos) (dRet te) :=
  ps_imp (ps_ret he) fun D σ H ⟨Z, F, τ, E, r, h, k⟩ => ⟨Z, F, τ, _, r, h, fun F' τ' H' ev v r' g' e' h' => k.rt F' τ' σ H' ev v r' (e'.base r.dom) h'⟩
def dRetN : DTS := fun E τ => E.rt (.dat .none) τ
theorem ds_retN : DS X (.Return none pos) dRetN :=
  ps_imp ps_retN fun D σ H ⟨Z, F, τ, E, r, h, k⟩ => k.rt F τ σ H (.dat .none) .non r .non h
def dIf (c : DTT) (t u : DTS) : DTS := fun E τ => c τ fun b τ1 => br b (t E τ1) (u E τ1)
theorem ds_if {a b : List Stmt} (hc : DT X c tc) (ha : DSs X a t) (hb : DSs X b u) : DS X (.If c a b pos) (dIf tc t u) :=
  ps_imp (ps_if hc ha hb) fun D σ H ⟨Z, F, τ, E, r, h, k⟩ => ⟨Z, F, τ, _, r, h, fun F1 τ1 H1 b r1 g1 h1 => br_if (by
    cases b with
    | true => exact ⟨Z, F1, τ1, E, r1, h1, k⟩
    | false => exact ⟨Z, F1, τ1, E, r1, h1, k⟩)⟩
end

/-! ### stores to names -/
section
variable {K : PySem.W.Frag} {Z : Fz} {F H : Hp} {τ : DSt} {σ : St}
/-- a value fit for a slot -/
def DvR (K : PySem.W.Frag) (Z : Fz) (F H : Hp) (τ : DSt) (σ : St) : DV → V → Prop
  | .dat d, v => Dq K F v d
  | .own xs, v => ∃ a vs, v = .ref a ∧ H a = some (.lst vs) ∧ F a = none ∧ Z.H0 a = none ∧ ¬ Own τ σ a ∧ DqAll K F vs xs
  | _, _ => False
theorem get_set {α : Type} {l : List α} {i j : Nat} {x y : α} (h : (l.set i x)[j]? = some y) : (j = i ∧ i < l.length ∧ y = x) ∨ (j ≠ i ∧ l[j]? = some y) := by
  by_cases z : i = j
  · subst z
    by_cases hl : i < l.length
    · rw [List.getElem?_set_self hl] at h; cases h; exact .inl ⟨rfl, hl, rfl⟩
    · rw [List.getElem?_eq_none (by simpa using hl)] at h; cases h
  · rw [List.getElem?_set_ne z] at h; exact .inr ⟨fun e => z e.symm, h⟩
theorem lst_set' {i j : Nat} {dv : DV} (h : Lst (τ.set i dv)[j]?) : (j = i ∧ i < τ.length ∧ Lst (some dv)) ∨ (j ≠ i ∧ Lst τ[j]?) := by
  obtain ⟨xs, h⟩ := h
  rcases h with h | h
  · rcases get_set h with ⟨e1, e2, e3⟩ | ⟨e1, e2⟩
    · exact .inl ⟨e1, e2, xs, .inl (by rw [e3])⟩
    · exact .inr ⟨e1, xs, .inl e2⟩
  · rcases get_set h with ⟨e1, e2, e3⟩ | ⟨e1, e2⟩
    · exact .inl ⟨e1, e2, xs, .inr (by rw [e3])⟩
    · exact .inr ⟨e1, xs, .inr e2⟩
theorem own_set {i : Nat} {dv : DV} {v : V} {b : Addr} (hl : τ.length = σ.length) (h : Own (τ.set i dv) (σ.set i (some v)) b) : (v = .ref b ∧ Lst (some dv)) ∨ Own τ σ b := by
  obtain ⟨j, h1, h2⟩ := h
  rcases lst_set' h2 with ⟨e1, e2, e3⟩ | ⟨e1, e2⟩
  · rcases get_set h1 with ⟨_, _, q⟩ | ⟨q, _⟩
    · cases q; exact .inl ⟨rfl, e3⟩
    · exact absurd e1 q
  · rcases get_set h1 with ⟨q, _⟩ | ⟨_, q⟩
    · exact absurd q e1
    · exact .inr ⟨j, q, e2⟩
theorem R.store {i : Nat} {dv : DV} {v : V} (r : R K Z F τ σ H) (h : DvR K Z F H τ σ dv v) : R K Z F (τ.set i dv) (σ.set i (some v)) H where
  sub := r.sub
  f0 := r.f0
  len := by rw [List.length_set, List.length_set]; exact r.len
  slot := fun j d hd => by
    rcases get_set hd with ⟨e1, e2, e3⟩ | ⟨e1, e2⟩
    · subst e1 e3
      rw [List.getElem?_set_self (by rw [← r.len]; exact e2)]
      cases d with
      | emp => exact h.elim
      | io xs => exact h.elim
      | bor xs => exact h.elim
      | dat d => exact ⟨v, rfl, h⟩
      | own xs =>
        obtain ⟨a, vs, e, h1, h2, h3, h4, h5⟩ := h
        exact ⟨a, vs, by rw [e], h1, h2, h3, h5⟩
    · rw [List.getElem?_set_ne (fun z => e1 z.symm)]
      exact r.slot j d e2
  apart := fun j k a h1 h2 h3 h4 => by
    have key : ∀ {b : Addr} {m : Nat}, v = .ref b → Lst (some dv) → σ[m]? = some (some (.ref b)) → Lst τ[m]? → False := fun {b m} ev el e1 e2 => by
      obtain ⟨xs, el⟩ := el
      rcases el with el | el
      · cases el
        obtain ⟨c, vs, e, _, _, _, n, _⟩ := h
        rw [ev] at e; cases e
        exact n ⟨m, e1, e2⟩
      · cases el; exact h.elim
    rcases lst_set' h3 with ⟨e1, e2, e3⟩ | ⟨e1, e2⟩
    · rcases lst_set' h4 with ⟨f1, f2, f3⟩ | ⟨f1, f2⟩
      · rw [e1, f1]
      · subst e1
        rw [List.getElem?_set_self (by rw [← r.len]; exact e2)] at h1
        rw [List.getElem?_set_ne (fun z => f1 z.symm)] at h2
        cases h1
        exact (key rfl e3 h2 f2).elim
    · rcases lst_set' h4 with ⟨f1, f2, f3⟩ | ⟨f1, f2⟩
      · subst f1
        rw [List.getElem?_set_self (by rw [← r.len]; exact f2)] at h2
        rw [List.getElem?_set_ne (fun z => e1 z.symm)] at h1
        cases h2
        exact (key rfl f3 h1 e2).elim
      · rw [List.getElem?_set_ne (fun z => e1 z.symm)] at h1
        rw [List.getElem?_set_ne (fun z => f1 z.symm)] at h2
        exact r.apart j k a h1 h2 e2 f2
  frame := r.frame
  dom := r.dom
  froz := r.froz
  wr := r.wr
  tabs := r.tabs
  fnt := r.fnt
/-- values to what slots hold -/
def toDV : List EV → DSt → (List DV → DSt → Prop) → Prop
  | [], τ, q => q [] τ
  | .tmp xs :: es, τ, q => toDV es τ fun ds τ' => q (.own xs :: ds) τ'
  | .dat d :: es, τ, q => toDV es τ fun ds τ' => q (.dat d :: ds) τ'
  | .slot i :: es, τ, q => frz τ (.slot i) fun d τ1 => toDV es τ1 fun ds τ2 => q (.dat d :: ds) τ2
def DvsR (K : PySem.W.Frag) (Z : Fz) (F H : Hp) (τ : DSt) (σ : St) (ws : List (DV × V)) : Prop :=
  (∀ p ∈ ws, DvR K Z F H τ σ p.1 p.2) ∧ ws.Pairwise fun p q => ∀ xs ys a, p.1 = .own xs → q.1 = .own ys → p.2 = .ref a → q.2 ≠ .ref a
theorem toDV_ok : ∀ {ws : List (EV × V)} {F Hb : Hp} {τ : DSt} {q : List DV → DSt → Prop}, R K Z F τ σ H → EVs K Z Hb F H τ σ ws → toDV (ws.map (·.1)) τ q →
    ∃ F' τ' us, R K Z F' τ' σ H ∧ Same F F' ∧ (∀ a, Own τ' σ a → Own τ σ a) ∧ (∀ a, F a = none → F' a ≠ none → Own τ σ a) ∧ us.map (·.2) = ws.map (·.2) ∧ DvsR K Z F' H τ' σ us ∧
      (∀ u ∈ us, ∀ xs, u.1 = .own xs → ∃ p ∈ ws, p.1 = .tmp xs ∧ p.2 = u.2) ∧ q (us.map (·.1)) τ'
  | [], F, Hb, τ, q, r, _, h => ⟨F, τ, [], r, Same.refl _, fun _ h => h, fun a h1 h2 => absurd h1 h2, rfl, ⟨fun _ z => (nomatch z), List.Pairwise.nil⟩, fun _ z => (nomatch z), h⟩
  | (.tmp xs, v) :: ws, F, Hb, τ, q, r, ev, h => by
    have h : toDV (ws.map (·.1)) τ fun ds τ' => q (.own xs :: ds) τ' := h
    have pw := List.pairwise_cons.mp ev.2
    obtain ⟨F', τ', us, r', s, ow, nw, em, ⟨d1, d2⟩, kk, hq⟩ := toDV_ok r ⟨fun p hp => ev.1 p (List.mem_cons_of_mem _ hp), pw.2⟩ h
    obtain ⟨a, vs, e, h1, h2, h3, h4, h5, h6⟩ := ev.1 _ List.mem_cons_self
    refine ⟨F', τ', (.own xs, v) :: us, r', s, ow, nw, by rw [List.map_cons, List.map_cons, em], ⟨fun p hp => ?_, List.pairwise_cons.mpr ⟨fun u hu ys zs b z1 z2 z3 => ?_, d2⟩⟩, fun u hu ys z => ?_, hq⟩
    · rcases List.mem_cons.mp hp with rfl | hp
      · refine ⟨a, vs, e, h1, none_of fun z => h5 (nw a h2 z), h3, fun z => h5 (ow a z), dpAll_mono s _ _ h6⟩
      · exact d1 p hp
    · obtain ⟨p, hp, p1, p2⟩ := kk u hu zs z2
      rw [← p2]
      exact pw.1 p hp xs zs b rfl p1 z3
    · rcases List.mem_cons.mp hu with rfl | hu
      · cases z; exact ⟨_, List.mem_cons_self, rfl, rfl⟩
      · obtain ⟨p, hp, q⟩ := kk u hu ys z
        exact ⟨p, List.mem_cons_of_mem _ hp, q⟩
  | (.dat d, v) :: ws, F, Hb, τ, q, r, ev, h => by
    have h : toDV (ws.map (·.1)) τ fun ds τ' => q (.dat d :: ds) τ' := h
    have pw := List.pairwise_cons.mp ev.2
    obtain ⟨F', τ', us, r', s, ow, nw, em, ⟨d1, d2⟩, kk, hq⟩ := toDV_ok r ⟨fun p hp => ev.1 p (List.mem_cons_of_mem _ hp), pw.2⟩ h
    have e : Dq K F v d := ev.1 _ List.mem_cons_self
    refine ⟨F', τ', (.dat d, v) :: us, r', s, ow, nw, by rw [List.map_cons, List.map_cons, em], ⟨fun p hp => ?_, List.pairwise_cons.mpr ⟨fun u hu ys zs b z1 z2 z3 => ?_, d2⟩⟩, fun u hu ys z => ?_, hq⟩
    · rcases List.mem_cons.mp hp with rfl | hp
      · exact dp_mono s _ _ e
      · exact d1 p hp
    · cases z1
    · rcases List.mem_cons.mp hu with rfl | hu
      · cases z
      · obtain ⟨p, hp, q⟩ := kk u hu ys z
        exact ⟨p, List.mem_cons_of_mem _ hp, q⟩
  | (.slot i, v) :: ws, F, Hb, τ, q, r, ev, h => by
    have h : frz τ (.slot i) fun d τ1 => toDV (ws.map (·.1)) τ1 fun ds τ2 => q (.dat d :: ds) τ2 := h
    have pw := List.pairwise_cons.mp ev.2
    obtain ⟨F1, τ1, d, r1, _, s1, p1, h1, lv1, ow1, nw1⟩ := frz_ok (Fb := fun _ => none) (Hb := fun _ => none) (τb := τ) r ⟨fun a o z => (nomatch z), fun a o z => (nomatch z), fun a z => absurd rfl z, fun a _ z => absurd rfl z, fun a z => z, fun i z => z⟩ ((ev.1 _ List.mem_cons_self : EVR K Z Hb F H τ σ (.slot i) v).base fun a z => absurd rfl z) h
    have ev1 : EVs K Z Hb F1 H τ1 σ ws := ⟨fun p hp => evr_frz (ev.1 p (List.mem_cons_of_mem _ hp)) s1 lv1 ow1 nw1 (pw.1 p hp), pw.2⟩
    obtain ⟨F', τ', us, r', s, ow, nw, em, ⟨d1, d2⟩, kk, hq⟩ := toDV_ok r1 ev1 h1
    refine ⟨F', τ', (.dat d, v) :: us, r', s1.trans s, fun a z => own_of_lst ow1 (ow a z), fun a z1 z2 => ?_, by rw [List.map_cons, List.map_cons, em], ⟨fun p hp => ?_, List.pairwise_cons.mpr ⟨fun u hu ys zs b z1 z2 z3 => ?_, d2⟩⟩, fun u hu ys z => ?_, hq⟩
    · cases y : F1 a with
      | none => exact own_of_lst ow1 (nw a y z2)
      | some o =>
        rcases (nw1 a z1 (some_ne y)).2 with x | ⟨_, x⟩
        · exact x
        · cases x
    · rcases List.mem_cons.mp hp with rfl | hp
      · exact dp_mono s _ _ p1
      · exact d1 p hp
    · cases z1
    · rcases List.mem_cons.mp hu with rfl | hu
      · cases z
      · obtain ⟨p, hp, q⟩ := kk u hu ys z
        exact ⟨p, List.mem_cons_of_mem _ hp, q⟩
def setAll : DSt → List Nat → List DV → DSt
  | τ, i :: is, d :: ds => setAll (τ.set i d) is ds
  | τ, _, _ => τ
def setAllV : St → List Nat → List V → St
  | σ, i :: is, v :: vs => setAllV (σ.set i (some v)) is vs
  | σ, _, _ => σ
theorem storeAll : ∀ {us : List (DV × V)} {is : List Nat} {τ : DSt} {σ : St}, R K Z F τ σ H → DvsR K Z F H τ σ us → R K Z F (setAll τ is (us.map (·.1))) (setAllV σ is (us.map (·.2))) H
  | [], [], τ, σ, r, _ => r
  | [], _ :: _, τ, σ, r, _ => r
  | _ :: _, [], τ, σ, r, _ => r
  | (d, v) :: us, i :: is, τ, σ, r, h => by
    have pw := List.pairwise_cons.mp h.2
    show R K Z F (setAll (τ.set i d) is (us.map (·.1))) (setAllV (σ.set i (some v)) is (us.map (·.2))) H
    refine storeAll (r.store (i := i) (h.1 _ List.mem_cons_self)) ⟨fun p hp => ?_, pw.2⟩
    have y := h.1 p (List.mem_cons_of_mem _ hp)
    obtain ⟨pd, pv⟩ := p
    cases pd with
    | emp => exact y
    | io xs => exact y
    | bor xs => exact y
    | dat d => exact y
    | own xs =>
      obtain ⟨a, vs, e, h1, h2, h3, h4, h5⟩ := y
      refine ⟨a, vs, e, h1, h2, h3, fun z => ?_, h5⟩
      rcases own_set r.len z with ⟨z1, z2⟩ | z
      · obtain ⟨ys, z2⟩ := z2
        have hd := h.1 _ List.mem_cons_self
        rcases z2 with z2 | z2
        · cases z2
          exact pw.1 _ hp ys xs a rfl rfl z1 e
        · cases z2; exact hd
      · exact h4 z
end
end DL
set_option Elab.async false
set_option linter.all false
set_option maxRecDepth 100000
set_option maxHeartbeats 4000000
namespace DL
open PySem L2

section
variable {K : PySem.W.Frag} {Z : Fz} {F H Hb : Hp} {τ : DSt} {σ : St}
theorem store_evs {ws : List (EV × V)} {is : List Nat} {E : DSt → Prop} {Q : St → Hp → Prop} (r : R K Z F τ σ H) (e : EVs K Z Hb F H τ σ ws) (h : toDV (ws.map (·.1)) τ fun ds τ' => E (setAll τ' is ds))
    (k : ∀ F τ σ H, R K Z F τ σ H → E τ → Q σ H) : Q (setAllV σ is (ws.map (·.2))) H := by
  obtain ⟨F', τ', us, r', s, ow, nw, em, dv, kk, hq⟩ := toDV_ok r e h
  rw [← em]
  exact k F' _ _ _ (storeAll r' dv) hq
theorem evs1 {ev : EV} {v : V} (e : EVR K Z Hb F H τ σ ev v) : EVs K Z Hb F H τ σ [(ev, v)] :=
  ⟨fun p hp => (by
    rcases List.mem_cons.mp hp with rfl | hp
    · exact e
    · cases hp), List.pairwise_cons.mpr ⟨fun _ z => (nomatch z), List.Pairwise.nil⟩⟩
end

section
variable {X : Cx} {e : Expr} {te : DTE} {pos : Pos}
def dSet (i : Nat) (t : DTE) : DTS := fun E τ => t τ fun ev τ1 => toDV [ev] τ1 fun ds τ2 => E.nx (setAll τ2 [i] ds)
theorem set_of {X : Cx} {i : Nat} {D : Ends} {σ : St} {H : Hp} (h : liftS X.K (dSet i te) D σ H) : tAsg (liftE X.K te) (gName i) D σ H := by
  obtain ⟨Z, F, τ, E, r, h, k⟩ := h
  exact ⟨Z, F, τ, _, r, h, fun F1 τ1 H1 ev v r1 g1 e1 h1 => store_evs (ws := [(ev, v)]) (is := [i]) (Q := D.nx) r1 (evs1 e1) h1 k.nx⟩
theorem ds_set {i : Nat} {x : Str} {pos' : Pos} (hN : X.N.Nodup) (hi : X.N[i]? = some x) (hx : Loc X.env.scope x) (he : DE X e te) (hs : swapsWith e (some (.Name x pos')) pos.line X.env = pure false := by rfl)
    (hf : X.fn x = true ∨ X.env.scope.names.lookup x = some .local := by first | exact .inl rfl | exact .inr rfl | assumption) : DS X (.Assign [.Name x pos'] e pos) (dSet i te) :=
  ps_imp (ps_set hN hi hx he hs hf) fun D σ H h => set_of h
/-- a, b, .. = e1, e2, .. -/
def dPar (is : List Nat) (t : DTA) : DTS := fun E τ => t τ fun es τ1 => es.length = is.length ∧ es.length ≤ sizeLine ∧ toDV es τ1 fun ds τ2 => E.nx (setAll τ2 is ds)
theorem ds_par {i j : Nat} {x y : Str} {a b : Expr} {ta : DTA} {px py pt : Pos} {kt k2 pt2} (hc : X.calm = true) (hN : X.N.Nodup) (hi : X.N[i]? = some x) (hj : X.N[j]? = some y) (hij : i ≠ j)
    (hx : X.env.scope.names.lookup x = some .local) (hy : X.env.scope.names.lookup y = some .local) (ha : DA X [a, b] ta)
    (hw : swappedStores [.Tuple [.Name x px, .Name y py] kt pt] (.Tuple [a, b] k2 pt2) X.env = pure (some [x, y]))
    (hs : swapsWithSole [.Tuple [.Name x px, .Name y py] kt pt] (.Tuple [a, b] k2 pt2) pos.line X.env = pure false := by rfl) :
    DS X (.Assign [.Tuple [.Name x px, .Name y py] kt pt] (.Tuple [a, b] k2 pt2) pos) (dPar [i, j] ta) := by
  refine ps_imp (ps_par hc hN hi hj hij hx hy ha hw hs) fun D σ H ⟨Z, F, τ, E, r, h, k⟩ => ?_
  refine ⟨Z, F, τ, _, r, h, fun F1 τ1 H1 ws r1 g1 e1 h1 => ?_⟩
  obtain ⟨hl, _, h1⟩ := h1
  match ws, e1, h1, hl with
  | [(e, v), (e', v')], e1, h1, _ =>
    exact ⟨v, v', rfl, store_evs (ws := [(e, v), (e', v')]) (is := [i, j]) (Q := D.nx) r1 e1 h1 k.nx⟩
def gNames : List Nat → TGs
  | [] => gNil
  | i :: is => gCons (gName i) (gNames is)
theorem gNames_of : ∀ {is : List Nat} {vs : List V} {σ : St} {H : Hp} {Q : St → Hp → Prop}, vs.length = is.length → Q (setAllV σ is vs) H → gNames is vs σ H Q
  | [], [], _, _, _, _, h => ⟨rfl, h⟩
  | [], _ :: _, _, _, _, hl, _ => by cases hl
  | _ :: _, [], _, _, _, hl, _ => by cases hl
  | i :: is, v :: vs, σ, H, Q, hl, h => ⟨v, vs, rfl, gNames_of (is := is) (vs := vs) (by simpa using hl) h⟩
theorem ds_parT {is : List Nat} {es ts : List Expr} {ta : DTA} {k1 k2 : _} {p1 p2 : Pos} (hc : X.calm = true) (ha : DA X es ta) (hg : PGs X ts (gNames is))
    (hn : (assignEach ts X.env).length = is.length := by rfl) (hst : (assignEach ts X.env).findIdx? (·.1) = none := by rfl)
    (hs : swapsWithSole [.Tuple ts k1 p1] (.Tuple es k2 p2) pos.line X.env = pure false := by rfl) (hw : swappedStores [.Tuple ts k1 p1] (.Tuple es k2 p2) X.env = pure none := by rfl)
    (h1 : (assignEach [.Tuple ts k1 p1] X.env).map (·.2) = [assign (.Tuple ts k1 p1) X.env] := by rfl) : DS X (.Assign [.Tuple ts k1 p1] (.Tuple es k2 p2) pos) (dPar is ta) := by
  refine ps_imp (ps_asg (pe_tup ha) (pg_tup hc hg hn hst) hs hw h1) fun D σ H ⟨Z, F, τ, E, r, h, k⟩ => ?_
  refine ⟨Z, F, τ, _, r, h, fun F1 τ1 H1 ws r1 g1 e1 h1 => ?_⟩
  obtain ⟨hl, hz, h1⟩ := h1
  refine ⟨by simpa using hz, fun p hp => ?_⟩
  have s := upd_same_of (G := H1) (p := p) (o := .tup (ws.map (·.2))) hp
  have g := Gr.more (τ := τ1) (σ := σ) (Same.refl F1) s (fun a x1 x2 => absurd x1 x2)
  have r2 := r1.more (Same.refl F1) (r1.sub.trans s) s (fun a x1 x2 => absurd x1 x2)
  refine ⟨p, _, rfl, SqT.of upd_same, by simpa using hl, gNames_of (by simpa using hl) ?_⟩
  exact store_evs (Q := D.nx) r2 ⟨fun p hp => (e1.1 p hp).grow g, e1.2⟩ h1 k.nx
end

/-! ### targets of data -/
abbrev DTG := D → DSt → (DSt → Prop) → Prop
structure Asgn (is : List Nat) (τ : DSt) (σ : St) (τ' : DSt) (σ' : St) : Prop where
  len : σ'.length = σ.length
  off : ∀ j, j ∉ is → σ'[j]? = σ[j]? ∧ τ'[j]? = τ[j]?
  on : ∀ j, j ∈ is → ¬ Lst τ'[j]?
theorem Asgn.own {is : List Nat} {τ τ' : DSt} {σ σ' : St} (a : Asgn is τ σ τ' σ') {b : Addr} (h : Own τ' σ' b) : Own τ σ b := by
  obtain ⟨j, h1, h2⟩ := h
  by_cases hj : j ∈ is
  · exact absurd h2 (a.on j hj)
  · obtain ⟨x1, x2⟩ := a.off j hj
    exact ⟨j, by rw [← x1]; exact h1, by rw [← x2]; exact h2⟩
def liftG (K : PySem.W.Frag) (is : List Nat) (g : DTG) : TG := fun v σ H Q => ∃ (Z : Fz) (F : Hp) (τ : DSt) (q : _) (d : D), R K Z F τ σ H ∧ Dq K F v d ∧ g d τ q ∧
  ∀ τ' σ', R K Z F τ' σ' H → Asgn is τ σ τ' σ' → q τ' → Q σ' H
abbrev DTGs := List D → DSt → (DSt → Prop) → Prop
def liftGs (K : PySem.W.Frag) (is : List Nat) (g : DTGs) : TGs := fun vs σ H Q => ∃ (Z : Fz) (F : Hp) (τ : DSt) (q : _) (ds : List D), R K Z F τ σ H ∧ DqAll K F vs ds ∧ g ds τ q ∧
  ∀ τ' σ', R K Z F τ' σ' H → Asgn is τ σ τ' σ' → q τ' → Q σ' H
abbrev DG (X : Cx) (tg : Expr) (is : List Nat) (g : DTG) : Prop := PG X tg (liftG X.K is g)
abbrev DGs (X : Cx) (ts : List Expr) (is : List Nat) (g : DTGs) : Prop := PGs X ts (liftGs X.K is g)
theorem pg_imp {X : Cx} {e : Expr} {t t' : TG} (h : PG X e t) (i : ∀ v σ H Q, t' v σ H Q → t v σ H Q) : PG X e t' := ⟨fun pins s σ H v u Q I r hw => h.run pins s σ H v u Q I r (i v σ H Q hw)⟩
theorem pgs_imp {X : Cx} {e : List Expr} {t t' : TGs} (h : PGs X e t) (i : ∀ v σ H Q, t' v σ H Q → t v σ H Q) : PGs X e t' := ⟨fun pins s σ H v u Q I r hw => h.run pins s σ H v u Q I r (i v σ H Q hw)⟩
section
variable {X : Cx} {pos : Pos}
def gdName (i : Nat) : DTG := fun d τ q => q (τ.set i (.dat d))
theorem asgn_one {i : Nat} {τ : DSt} {σ : St} {d : D} {v : V} : Asgn [i] τ σ (τ.set i (.dat d)) (σ.set i (some v)) where
  len := by rw [List.length_set]
  off := fun j hj => by
    have hj : i ≠ j := fun z => hj (by rw [z]; exact List.mem_cons_self)
    exact ⟨List.getElem?_set_ne hj, List.getElem?_set_ne hj⟩
  on := fun j hj h => by
    rcases List.mem_cons.mp hj with rfl | hj
    · exact (lst_set h).2 rfl
    · cases hj
theorem dg_name {i : Nat} {x : Str} (hN : X.N.Nodup) (hi : X.N[i]? = some x) (hx : Loc X.env.scope x) (hf : X.fn x = true ∨ X.env.scope.names.lookup x = some .local := by first | exact .inl rfl | exact .inr rfl | assumption) : DG X (.Name x pos) [i] (gdName i) := by
  refine pg_imp (pg_name hN hi hx hf) fun v σ H Q ⟨Z, F, τ, q, d, r, hd, h, k⟩ => ?_
  exact k _ _ (r.store (dv := .dat d) hd) asgn_one h
def gdNil : DTGs := fun ds τ q => ds = [] ∧ q τ
def gdCons (g : DTG) (gs : DTGs) : DTGs := fun ds τ q => match ds with
  | d :: ds => g d τ fun τ1 => gs ds τ1 q
  | [] => False
def gdTup (n : Nat) (gs : DTGs) : DTG := fun d τ q => match d with
  | .tuple ds => ds.length = n ∧ gs ds τ q
  | _ => False
theorem dgs_nil : DGs X [] [] gdNil := by
  refine pgs_imp pgs_nil fun vs σ H Q ⟨Z, F, τ, q, ds, r, hd, h, k⟩ => ?_
  obtain ⟨rfl, h⟩ := h
  cases hd
  exact ⟨rfl, k τ σ r ⟨rfl, fun _ _ => ⟨rfl, rfl⟩, fun _ z => (nomatch z)⟩ h⟩
theorem asgn_app {is js : List Nat} {τ τ1 τ2 : DSt} {σ σ1 σ2 : St} (a : Asgn is τ σ τ1 σ1) (b : Asgn js τ1 σ1 τ2 σ2) : Asgn (is ++ js) τ σ τ2 σ2 where
  len := b.len.trans a.len
  off := fun j hj => by
    obtain ⟨x1, x2⟩ := a.off j fun z => hj (List.mem_append_left _ z)
    obtain ⟨y1, y2⟩ := b.off j fun z => hj (List.mem_append_right _ z)
    exact ⟨y1.trans x1, y2.trans x2⟩
  on := fun j hj h => by
    by_cases z : j ∈ js
    · exact b.on j z h
    · rcases List.mem_append.mp hj with y | y
      · rw [(b.off j z).2] at h; exact a.on j y h
      · exact z y
theorem dgs_cons {e : Expr} {es : List Expr} {is js : List Nat} {g : DTG} {gs : DTGs} (h1 : DG X e is g) (h2 : DGs X es js gs)
    (hs : (assignEach (e :: es) X.env).map (·.2) = assign e X.env :: (assignEach es X.env).map (·.2) := by rfl) : DGs X (e :: es) (is ++ js) (gdCons g gs) := by
  refine pgs_imp (pgs_cons h1 h2 hs) fun vs σ H Q ⟨Z, F, τ, q, ds, r, hd, h, k⟩ => ?_
  match ds, h with
  | d :: ds, h =>
    cases hd with
    | cons e1 e2 =>
      refine ⟨_, _, rfl, Z, F, τ, _, d, r, e1, h, fun τ1 σ1 r1 a1 h1 => ?_⟩
      exact ⟨Z, F, τ1, _, ds, r1, e2, h1, fun τ2 σ2 r2 a2 h2 => k τ2 σ2 r2 (asgn_app a1 a2) h2⟩
theorem dg_tup {es : List Expr} {k : Nat} {is : List Nat} {gs : DTGs} {n : Nat} (hc : X.calm = true) (h : DGs X es is gs)
    (hn : (assignEach es X.env).length = n := by rfl) (hst : (assignEach es X.env).findIdx? (·.1) = none := by rfl) : DG X (.Tuple es k pos) is (gdTup n gs) := by
  refine pg_imp (pg_tup hc h hn hst) fun v σ H Q ⟨Z, F, τ, q, d, r, hd, h, k⟩ => ?_
  cases d with
  | tuple ds =>
    cases hd with
    | tup s al => exact ⟨_, _, rfl, Same.sqT r.sub s, al.len.trans h.1, Z, F, τ, q, ds, r, al, h.2, k⟩
  | _ => exact (show False from h).elim
/-- target = data -/
def dUnp (g : DTG) (t : DTE) : DTS := fun E τ => t τ fun ev τ1 => match ev with
  | .dat d => g d τ1 E.nx
  | _ => False
theorem ds_unp {tg e : Expr} {te : DTE} {is : List Nat} {g : DTG} (he : DE X e te) (hg : DG X tg is g) (hs : swapsWithSole [tg] e pos.line X.env = pure false := by rfl) (hw : swappedStores [tg] e X.env = pure none := by rfl)
    (h1 : (assignEach [tg] X.env).map (·.2) = [assign tg X.env] := by rfl) : DS X (.Assign [tg] e pos) (dUnp g te) := by
  refine ps_imp (ps_asg he hg hs hw h1) fun D σ H ⟨Z, F, τ, E, r, h, k⟩ => ?_
  refine ⟨Z, F, τ, _, r, h, fun F1 τ1 H1 ev v r1 g1 e1 h1 => ?_⟩
  match ev, e1, h1 with
  | .dat d, e1, h1 => exact ⟨Z, F1, τ1, E.nx, d, r1, e1, h1, fun τ' σ' r' _ h' => k.nx F1 τ' σ' H1 r' h'⟩
end
end DL
set_option Elab.async false
set_option linter.all false
set_option maxRecDepth 100000
set_option maxHeartbeats 4000000
namespace DL
open PySem L2

/-! ### a changeable list is changed -/
def optW {α : Type} (o : Option α) (k : α → Prop) : Prop := match o with
  | some x => k x
  | none => False
theorem optW_of {α : Type} {o : Option α} {k : α → Prop} (h : optW o k) : ∃ x, o = some x ∧ k x := by
  cases o with
  | none => exact h.elim
  | some x => exact ⟨x, rfl, h⟩
theorem optW_mk {α : Type} {o : Option α} {k : α → Prop} {x : α} (h : o = some x) (hk : k x) : optW o k := by rw [h]; exact hk
def lstW (o : Option DV) (k : (List D → DV) → List D → Prop) : Prop := match o with
  | some (.own xs) => k .own xs
  | some (.io xs) => k .io xs
  | _ => False
section
variable {K : PySem.W.Frag} {Z : Fz} {F H Fb Hb : Hp} {τ τb : DSt} {σ : St}
theorem lst_mk {mk : List D → DV} {xs : List D} (h : mk = .own ∨ mk = .io) : Lst (some (mk xs)) := by
  rcases h with rfl | rfl
  · exact ⟨xs, .inl rfl⟩
  · exact ⟨xs, .inr rfl⟩
theorem lstW_of {o : Option DV} {k : (List D → DV) → List D → Prop} (h : lstW o k) : ∃ mk xs, (mk = DV.own ∨ mk = DV.io) ∧ o = some (mk xs) ∧ k mk xs := by
  unfold lstW at h
  split at h
  · exact ⟨_, _, .inl rfl, rfl, h⟩
  · exact ⟨_, _, .inr rfl, rfl, h⟩
  · exact h.elim
theorem slot_lst {mk : List D → DV} {xs : List D} {i : Nat} (r : R K Z F τ σ H) (hm : mk = .own ∨ mk = .io) (h : τ[i]? = some (mk xs)) :
    ∃ a vs, σ[i]? = some (some (.ref a)) ∧ H a = some (.lst vs) ∧ F a = none ∧ DqAll K F vs xs := by
  have s := r.slot i _ h
  rcases hm with rfl | rfl
  · obtain ⟨a, vs, e, h1, h2, _, h3⟩ := s; exact ⟨a, vs, e, h1, h2, h3⟩
  · obtain ⟨a, vs, e, h1, h2, _, h3⟩ := s; exact ⟨a, vs, e, h1, h2, h3⟩
theorem R.write {mk : List D → DV} {xs ys : List D} {i : Nat} {a : Addr} {ws : List V} (r : R K Z F τ σ H) (hm : mk = .own ∨ mk = .io) (h : τ[i]? = some (mk xs)) (hs : σ[i]? = some (some (.ref a)))
    (hw : DqAll K F ws ys) : R K Z F (τ.set i (mk ys)) σ (upd H a (.lst ws)) ∧ Gr F H τ σ F (upd H a (.lst ws)) (τ.set i (mk ys)) := by
  obtain ⟨b, vs0, e, h1, h2, h3⟩ := slot_lst r hm h
  rw [hs] at e
  cases e
  have hi : i < τ.length := (List.getElem?_eq_some_iff.mp h).1
  have oA : Own τ σ a := ⟨i, hs, by rw [h]; exact lst_mk hm⟩
  have ls : ∀ j : Nat, Lst (τ.set i (mk ys))[j]? → Lst τ[j]? := fun j hj => by
    rcases lst_set' hj with ⟨e1, e2, e3⟩ | ⟨_, e2⟩
    · subst e1; rw [h]; exact lst_mk hm
    · exact e2
  refine ⟨⟨fun b o hb => ?_, r.f0, by rw [List.length_set]; exact r.len, fun j d hd => ?_, fun j k b e1 e2 e3 e4 => r.apart j k b e1 e2 (ls j e3) (ls k e4), fun b o hb ht hw => ?_, fun b hb => ?_, r.froz, r.wr, tabs_upd r.tabs fun u z => by rw [h1] at z; cases z; exact ⟨_, rfl⟩, r.fnt⟩,
    ⟨Same.refl _, fun b o hb ht hn => ?_, fun b hb => ?_, fun b hb _ _ => hb, ls, fun j ⟨d, e1, e2⟩ => ?_⟩⟩
  · rw [upd_ne (ne_of_none hb h2)]; exact r.sub _ _ hb
  · rcases get_set hd with ⟨e1, e2, e3⟩ | ⟨e1, e2⟩
    · subst e1 e3
      have s := r.slot j _ h
      rcases hm with rfl | rfl
      · obtain ⟨c, us, q0, q1, q2, q3, q4⟩ := s
        rw [hs] at q0; cases q0
        exact ⟨a, ws, hs, upd_same, h2, q3, hw⟩
      · obtain ⟨c, us, q0, q1, q2, q3, q4⟩ := s
        rw [hs] at q0; cases q0
        exact ⟨a, ws, hs, upd_same, h2, q3, hw⟩
    · have s := r.slot j d e2
      have ne : ∀ {b : Addr}, σ[j]? = some (some (.ref b)) → Lst τ[j]? → b ≠ a := fun {b} q1 q2 z => by
        subst z
        exact e1 (r.apart j i b q1 hs q2 (by rw [h]; exact lst_mk hm))
      cases d with
      | emp => trivial
      | dat d => exact s
      | own zs => obtain ⟨c, us, q0, q1, q2, q3, q4⟩ := s; exact ⟨c, us, q0, by rw [upd_ne (ne q0 ⟨zs, by rw [e2]; exact .inl rfl⟩)]; exact q1, q2, q3, q4⟩
      | io zs => obtain ⟨c, us, q0, q1, q2, q3, q4⟩ := s; exact ⟨c, us, q0, by rw [upd_ne (ne q0 ⟨zs, by rw [e2]; exact .inr rfl⟩)]; exact q1, q2, q3, q4⟩
      | bor zs => exact s
  · have : b ≠ a := fun z => by
      subst z
      have s := r.slot i _ h
      rcases hm with rfl | rfl
      · obtain ⟨c, us, q0, q1, q2, q3, q4⟩ := s
        rw [hs] at q0; cases q0
        rw [q3] at hb; cases hb
      · obtain ⟨c, us, q0, q1, q2, q3, q4⟩ := s
        rw [hs] at q0; cases q0
        exact hw q3
    rw [upd_ne this]; exact r.frame _ _ hb ht hw
  · by_cases z : b = a
    · subst z; rw [upd_same]; exact fun z => by cases z
    · rw [upd_ne z]; exact r.dom b hb
  · rw [upd_ne (fun z => by subst z; exact hn oA)]; exact hb
  · by_cases z : b = a
    · subst z; rw [upd_same]; exact fun z => by cases z
    · rw [upd_ne z]; exact hb
  · by_cases z : i = j
    · subst z; exact ⟨_, List.getElem?_set_self hi, by rcases hm with rfl | rfl <;> exact fun z => by cases z⟩
    · exact ⟨d, by rw [List.getElem?_set_ne z]; exact e1, e2⟩
end

section
variable {X : Cx} {e i : Expr} {te ti : DTE} {pos apos cpos : Pos} {x : Str} {j : Nat}
/-- x[i] = e, x a name that holds a changeable list -/
def dSetIx (j : Nat) (te ti : DTE) : DTS := fun E τ => te τ fun ev τ1 => frz τ1 ev fun d τ2 => lstW τ2[j]? fun _ _ => ti τ2 fun ei τ3 => lstW τ3[j]? fun mk xs => match val τ3 ei with
  | .int k => optW (ixN xs.length k) fun n => E.nx (τ3.set j (mk (xs.set n d)))
  | _ => False
theorem ds_setIx {px p2 : Pos} (he : DE X e te) (ho : PE X (.Name x px) (tVar j)) (hi : DE X i ti)
    (ha : ∀ v, assign (.Subscript (.Name x px) i p2) X.env v = (do
      let ov ← holding [v] (eval (.Name x px) X.env)
      let iv ← holding [v, ov] (eval i X.env)
      standAt p2
      holding [v, ov, iv] (setItem ov iv v)
      release [v, ov, iv] []) := by intro _; rfl)
    (hs : swapsWithSole [.Subscript (.Name x px) i p2] e pos.line X.env = pure false := by rfl) (hw : swappedStores [.Subscript (.Name x px) i p2] e X.env = pure none := by rfl)
    (h1 : (assignEach [.Subscript (.Name x px) i p2] X.env).map (·.2) = [assign (.Subscript (.Name x px) i p2) X.env] := by rfl) :
    DS X (.Assign [.Subscript (.Name x px) i p2] e pos) (dSetIx j te ti) := by
  refine ps_imp (ps_asg he (pg_sub ho hi set_list ha) hs hw h1) fun D σ H ⟨Z, F, τ, E, r, h, k⟩ => ?_
  refine ⟨Z, F, τ, _, r, h, fun F1 τ1 H1 ev v r1 g1 e1 h1 => ?_⟩
  obtain ⟨F2, τ2, d, r2, g2, s2, p2, h2, lv2, ow2, nw2⟩ := frz_ok r1 g1 e1 h1
  obtain ⟨mk0, xs0, hm0, ho0, h2⟩ := lstW_of h2
  obtain ⟨a, vs0, hl, _⟩ := slot_lst r2 hm0 ho0
  refine ⟨_, hl, Z, F2, τ2, _, r2, h2, fun F3 τ3 H3 ei iv r3 g3 e3 h3 => ?_⟩
  obtain ⟨mk, xs, hm, ho, h3⟩ := lstW_of h3
  obtain ⟨a', vs, q0, q1, q2, q3⟩ := slot_lst r3 hm ho
  rw [hl] at q0
  cases q0
  have V := r3.val e3
  revert h3 V
  cases val τ3 ei with
  | int n =>
    intro h3 V
    obtain ⟨m, hix, h3⟩ := optW_of h3
    refine ⟨a, vs, n, m, rfl, V.int, q1, by rw [q3.len]; exact hix, ?_⟩
    exact k.nx F3 _ σ _ (r3.write hm ho hl (DqAll.set (dp_mono g3.f _ _ p2) m q3)).1 h3
  | _ => exact fun h3 => h3.elim

/-! ### methods that change a list held by a name -/
theorem ty_list {K : PySem.W.Frag} {H : Hp} {a : Addr} {vs : List V} (h : H a = some (.lst vs)) : tyV K "list" (.ref a) H := .inl ⟨rfl, _, .inl (.inl h)⟩
def dApp (j : Nat) (te : DTE) : DTE := fun τ q => lstW τ[j]? fun _ _ => te τ fun ev τ1 => frz τ1 ev fun d τ2 => lstW τ2[j]? fun mk xs => xs.length < sizeLine ∧ q (.dat .none) (τ2.set j (mk (xs ++ [d])))
theorem de_app {px : Pos} (ho : PE X (.Name x px) (tVar j)) (he : DE X e te) (hpe : ∀ {to : TE} {t : TA}, PE X (.Name x px) to → PA X [e] t → PE X (.Call (.Attribute (.Name x px) "append" apos) [e] [] cpos) (tBM X.K "list" rAppend to t))
    (hst : starEach [e] X.env = (false, eval e X.env) :: starEach [] X.env := by rfl) : DE X (.Call (.Attribute (.Name x px) "append" apos) [e] [] cpos) (dApp j te) := by
  refine pe_imp (hpe ho (pa_cons he pa_nil hst)) fun σ H Q ⟨Z, F, τ, q, r, ht, k⟩ => ?_
  obtain ⟨mk0, xs0, hm0, ho0, ht⟩ := lstW_of ht
  obtain ⟨a, vs0, hl, hH, _⟩ := slot_lst r hm0 ho0
  refine ⟨_, hl, ty_list hH, Z, F, τ, _, r, ht, fun F1 τ1 H1 ev v r1 g1 e1 h1 => ?_⟩
  obtain ⟨F2, τ2, d, r2, g2, s2, p2, h2, lv2, ow2, nw2⟩ := frz_ok r1 g1 e1 h1
  obtain ⟨mk, xs, hm, ho, hz, h3⟩ := lstW_of h2
  obtain ⟨a', vs, q0, q1, q2, q3⟩ := slot_lst r2 hm ho
  rw [hl] at q0
  cases q0
  refine ⟨a, vs, v, rfl, rfl, q1, by rw [q3.len]; exact hz, ?_⟩
  obtain ⟨r3, g3⟩ := r2.write hm ho hl (DqAll.app q3 (.cons p2 .nil))
  exact k F2 _ _ (.dat .none) .non r3 (g2.trans g3) .non h3
def dPopAt (j : Nat) (te : DTE) : DTE := fun τ q => lstW τ[j]? fun _ _ => te τ fun ev τ1 => lstW τ1[j]? fun mk xs => match val τ1 ev with
  | .int i => -(2 ^ 63) ≤ i ∧ i < 2 ^ 63 ∧ optW (seqIndex? i xs.length) fun k => optW xs[k]? fun d => q (.dat d) (τ1.set j (mk (xs.eraseIdx k)))
  | _ => False
theorem de_popAt {px : Pos} (ho : PE X (.Name x px) (tVar j)) (he : DE X e te) (hpe : ∀ {to : TE} {t : TA}, PE X (.Name x px) to → PA X [e] t → PE X (.Call (.Attribute (.Name x px) "pop" apos) [e] [] cpos) (tBM X.K "list" rPopAt to t))
    (hst : starEach [e] X.env = (false, eval e X.env) :: starEach [] X.env := by rfl) : DE X (.Call (.Attribute (.Name x px) "pop" apos) [e] [] cpos) (dPopAt j te) := by
  refine pe_imp (hpe ho (pa_cons he pa_nil hst)) fun σ H Q ⟨Z, F, τ, q, r, ht, k⟩ => ?_
  obtain ⟨mk0, xs0, hm0, ho0, ht⟩ := lstW_of ht
  obtain ⟨a, vs0, hl, hH, _⟩ := slot_lst r hm0 ho0
  refine ⟨_, hl, ty_list hH, Z, F, τ, _, r, ht, fun F1 τ1 H1 ev v r1 g1 e1 h1 => ?_⟩
  obtain ⟨mk, xs, hm, ho, h2⟩ := lstW_of h1
  obtain ⟨a', vs, q0, q1, q2, q3⟩ := slot_lst r1 hm ho
  rw [hl] at q0
  cases q0
  have V := r1.val e1
  revert h2 V
  cases val τ1 ev with
  | int n =>
    intro h2 V
    obtain ⟨b1, b2, h2⟩ := h2
    obtain ⟨m, hk, h2⟩ := optW_of h2
    obtain ⟨d, hd, h3⟩ := optW_of h2
    obtain ⟨y, hy, hyd⟩ := q3.get hd
    refine ⟨a, vs, n, m, y, rfl, by rw [V.int], q1, b1, b2, by rw [q3.len]; exact hk, hy, ?_⟩
    obtain ⟨r3, g3⟩ := r1.write hm ho hl (DqAll.erase m q3)
    exact k F1 _ _ (.dat d) y r3 (g1.trans g3) hyd h3
  | _ => exact fun h3 => h3.elim
end
end DL
set_option Elab.async false
set_option linter.all false
set_option maxRecDepth 100000
set_option maxHeartbeats 4000000
namespace DL
open PySem L2

/-! ### what is walked -/
structure WalkD (K : PySem.W.Frag) (J : It) (xs : List D) (G : Hp → Hp → Prop) : Prop where
  go : ∀ i F H, i < xs.length → Same F H → G F H → J.go i H
  stop : ∀ F H, Same F H → G F H → J.stop xs.length H
  yld : ∀ i F H x H', i < xs.length → Same F H → G F H → J.yld i H x H' → ∃ F' d, xs[i]? = some d ∧ Same F F' ∧ Same F' H' ∧ Same H H' ∧ Nw F F' H ∧ Dq K F' x d
section
variable {K : PySem.W.Frag} {a b : Addr} {xs ys : List D}
theorem walkD_list : WalkD K (Itl K a) xs fun F H => ∃ vs, SqL K H a vs ∧ DqAll K F vs xs where
  go := fun i F H hi _ ⟨vs, h1, h2⟩ => ⟨vs, vs[i]'(by rw [h2.len]; exact hi), h1, by simp [h2.len, hi]⟩
  stop := fun F H _ ⟨vs, h1, h2⟩ => ⟨vs, h1, Nat.le_of_eq h2.len⟩
  yld := fun i F H x H' hi s ⟨vs, h1, h2⟩ ⟨e, y⟩ => by
    subst e
    obtain ⟨d, h3, h4⟩ := h2.getV (y vs h1)
    exact ⟨F, d, h3, Same.refl _, s, Same.refl _, fun a x1 x2 => absurd x1 x2, h4⟩
theorem walkD_tup : WalkD K (Itt K a) xs fun F H => ∃ vs, SqT K H a vs ∧ DqAll K F vs xs where
  go := fun i F H hi _ ⟨vs, h1, h2⟩ => ⟨vs, vs[i]'(by rw [h2.len]; exact hi), h1, by simp [h2.len, hi]⟩
  stop := fun F H _ ⟨vs, h1, h2⟩ => ⟨vs, h1, Nat.le_of_eq h2.len⟩
  yld := fun i F H x H' hi s ⟨vs, h1, h2⟩ ⟨e, y⟩ => by
    subst e
    obtain ⟨d, h3, h4⟩ := h2.getV (y vs h1)
    exact ⟨F, d, h3, Same.refl _, s, Same.refl _, fun a x1 x2 => absurd x1 x2, h4⟩
@[irreducible] def rangeD (lo : Int) (n : Nat) : List D := (List.range n).map fun i : Nat => PyData.int (lo + (i : Int))
theorem walkD_range {lo : Int} {n : Nat} : WalkD K (Itr lo n) (rangeD lo n) fun _ _ => True where
  go := fun i F H hi _ _ => by
    have hi : i < n := by simpa [rangeD] using hi
    exact hi
  stop := fun F H _ _ => by show n ≤ _; simp [rangeD]
  yld := fun i F H x H' hi s _ ⟨e, y⟩ => by
    subst e y
    have hi : i < n := by simpa [rangeD] using hi
    exact ⟨F, .int (lo + i), by simp [rangeD, hi], Same.refl _, s, Same.refl _, fun a x1 x2 => absurd x1 x2, .int _⟩
/-- a new pair at each turn -/
theorem pairD {F H : Hp} {T : Addr} {x y : V} {d e : D} (s : Same F H) (h : H T = none) (hx : Dq K F x d) (hy : Dq K F y e) :
    ∃ F' f, f = PyData.tuple [d, e] ∧ Same F F' ∧ Same F' (upd H T (.tup [x, y])) ∧ Same H (upd H T (.tup [x, y])) ∧ Nw F F' H ∧ Dq K F' (.ref T) f := by
  have hF := s.free h
  refine ⟨upd F T (.tup [x, y]), _, rfl, upd_same_of hF, fun b u hb => ?_, upd_same_of h, fun a h1 h2 => ?_, .tup (SqT.of upd_same) (.cons (dp_mono (upd_same_of hF) _ _ hx) (.cons (dp_mono (upd_same_of hF) _ _ hy) .nil))⟩
  · by_cases z : b = T
    · subst z; rw [upd_same] at hb ⊢; exact hb
    · rw [upd_ne z] at hb ⊢; exact s _ _ hb
  · by_cases z : a = T
    · subst z; exact ⟨h, fun o e => by rw [upd_same] at e; cases e; exact nt_tup⟩
    · rw [upd_ne z] at h2; exact absurd h1 h2
def enumD (xs : List D) : List D := xs.zipIdx.map fun p => PyData.tuple [.int (p.2 : Nat), p.1]
theorem enumD_len : (enumD xs).length = xs.length := by simp [enumD]
theorem enumD_get {i : Nat} {d : D} (h : xs[i]? = some d) : (enumD xs)[i]? = some (.tuple [.int (i : Nat), d]) := by
  simp [enumD, List.getElem?_zipIdx, h]
theorem walkD_enum : WalkD K (Ite K a) (enumD xs) fun F H => ∃ vs, SqL K H a vs ∧ DqAll K F vs xs where
  go := fun i F H hi _ ⟨vs, h1, h2⟩ => ⟨vs, vs[i]'(by rw [h2.len]; rw [enumD_len] at hi; exact hi), h1, by rw [enumD_len] at hi; simp [h2.len, hi]⟩
  stop := fun F H _ ⟨vs, h1, h2⟩ => ⟨vs, h1, by rw [enumD_len]; exact Nat.le_of_eq h2.len⟩
  yld := fun i F H x H' hi s ⟨vs, h1, h2⟩ ⟨T, u, e1, e2, e3, y⟩ => by
    subst e1 e3
    obtain ⟨d, h3, h4⟩ := h2.getV (y vs h1)
    obtain ⟨F', f, rfl, q⟩ := pairD s e2 (.int (i : Nat)) h4
    exact ⟨F', _, enumD_get h3, q⟩
end

/-- for a for: what is walked stands still for good -/
abbrev DTI := DSt → (List D → DSt → Prop) → Prop
def liftI (K : PySem.W.Frag) (t : DTI) : TI := fun σ H Rr => ∃ (Z : Fz) (F : Hp) (τ : DSt) (q : _), R K Z F τ σ H ∧ t τ q ∧
  ∀ F' τ' H' J xs (G : Hp → Hp → Prop), R K Z F' τ' σ H' → Gr F H τ σ F' H' τ' → WalkD K J xs G → (∀ F2 H2, Same F' F2 → Same F2 H2 → G F2 H2) → q xs τ' → Rr J H'
abbrev DI (X : Cx) (tg iter : Expr) (t : DTI) : Prop := PI X tg iter (liftI X.K t)
/-- for a comprehension: it stands still while a word of the state holds -/
abbrev DTC := DSt → (List D → (DSt → Prop) → DSt → Prop) → Prop
def Sub2 (σ2 σ : St) : Prop := ∀ (i : Nat) v, σ2[i]? = some (some v) → σ[i]? = some (some v)
def liftC (K : PySem.W.Frag) (t : DTC) : TI := fun σ H Rr => ∃ (Z : Fz) (F : Hp) (τ : DSt) (q : _), R K Z F τ σ H ∧ t τ q ∧
  ∀ F' τ' H' J xs (stay : DSt → Prop) (G : Hp → Hp → Prop), R K Z F' τ' σ H' → Gr F H τ σ F' H' τ' → WalkD K J xs G →
    (∀ F2 τ2 σ2 H2, R K Z F2 τ2 σ2 H2 → Sub2 σ2 σ → Same F' F2 → (∀ a o, H' a = some o → NT o → ¬ Own τ' σ a → H2 a = some o) → stay τ2 → G F2 H2) → q xs stay τ' → Rr J H'
abbrev DC (X : Cx) (tg iter : Expr) (t : DTC) : Prop := PI X tg iter (liftC X.K t)
theorem pi_imp {X : Cx} {tg e : Expr} {t t' : TI} (h : PI X tg e t) (i : ∀ σ H Q, t' σ H Q → t σ H Q) : PI X tg e t' := ⟨fun pins s σ H Rr I hw => h.run pins s σ H Rr I (i σ H Rr hw)⟩
/-- what a for walks, in a comprehension -/
def dcOf (t : DTI) : DTC := fun τ q => t τ fun xs τ1 => q xs (fun _ => True) τ1
section
variable {X : Cx} {tg iter e : Expr} {te : DTE} {ta : DTA} {pos p : Pos}
theorem dc_of {t : DTI} (h : DI X tg iter t) : DC X tg iter (dcOf t) := pi_imp h fun σ H Rr ⟨Z, F, τ, q, r, ht, k⟩ =>
  ⟨Z, F, τ, _, r, ht, fun F' τ' H' J xs G r' g w st h' => k F' τ' H' J xs (fun _ => True) G r' g w (fun F2 τ2 σ2 H2 r2 _ s2 _ _ => st F2 H2 s2 r2.sub) h'⟩
/-- a list or a tuple -/
def iSeq (K : PySem.W.Frag) (tl : TE) : TI := fun σ H R => tl σ H fun x H1 => ∃ a, x = .ref a ∧ (((∃ xs, SqL K H1 a xs) ∧ R (Itl K a) H1) ∨ ((∃ xs, SqT K H1 a xs) ∧ R (Itt K a) H1))
theorem pi_seq {l : Expr} {tl : TE} (hl : PE X l tl) : PI X tg l (iSeq X.K tl) := by
  refine ⟨fun pins s σ H R I h => ?_⟩
  refine thn (hl.run pins s σ H _ I h) fun v s1 ⟨x, H1, I1, r1, q1⟩ => ?_
  obtain ⟨a, e, q⟩ := q1
  subst e
  cases r1
  rcases q with ⟨⟨xs, hq⟩, q⟩ | ⟨⟨xs, hq⟩, q⟩
  · obtain ⟨its, rv, p, hz⟩ := I1.list hq
    refine wpAny_pyIter_list p.isList ?_
    refine ⟨s1.heap.objs.size, [s1.heap.objs.size], _, _, H1, rfl, I1.kept (t' := s1.toks) fun b o e => Heap.get?_push_of_some _ e, turn_list a _, ⟨_, Heap.get?_push_size _ rfl, rfl, rfl⟩, fun b hb => ?_, q⟩
    have e : b = s1.heap.objs.size := by simpa using hb
    subst e
    exact I1.fpOk (Nat.le_refl _) (I1.hok.fresh (Nat.le_refl _))
  · obtain ⟨its, rv, p, hz⟩ := I1.tuple hq
    refine wpAny_pyIter_tuple (show s1.heap.IsTuple a its.toArray from p) ?_
    refine ⟨s1.heap.objs.size, [s1.heap.objs.size], _, _, H1, rfl, I1.kept (t' := s1.toks) fun b o e => Heap.get?_push_of_some _ e, turn_tuple a _, ⟨_, Heap.get?_push_size _ rfl, rfl, rfl⟩, fun b hb => ?_, q⟩
    have e : b = s1.heap.objs.size := by simpa using hb
    subst e
    exact I1.fpOk (Nat.le_refl _) (I1.hok.fresh (Nat.le_refl _))
def seqW : D → (List D → Prop) → Prop
  | .list xs, k => k xs
  | .tuple xs, k => k xs
  | _, _ => False
def diSeq (t : DTE) : DTI := fun τ q => t τ fun ev τ1 => frz τ1 ev fun d τ2 => seqW d fun xs => q xs τ2
theorem di_seq (he : DE X e te) : DI X tg e (diSeq te) := by
  refine pi_imp (pi_seq he) fun σ H Rr ⟨Z, F, τ, q, r, ht, k⟩ => ?_
  refine ⟨Z, F, τ, _, r, ht, fun F1 τ1 H1 ev v r1 g1 e1 h1 => ?_⟩
  obtain ⟨F2, τ2, d, r2, g2, s2, p2, h2, lv2, ow2, nw2⟩ := frz_ok r1 g1 e1 h1
  cases d with
  | list xs =>
    cases p2 with
    | lst h3 h4 =>
      refine ⟨_, rfl, .inl ⟨⟨_, r2.sub.seq h3⟩, k F2 τ2 H1 _ xs _ r2 g2 walkD_list (fun F3 H3 x1 x2 => ⟨_, x2.seq (x1.seq h3), dpAll_mono x1 _ _ h4⟩) h2⟩⟩
  | tuple xs =>
    cases p2 with
    | tup h3 h4 =>
      refine ⟨_, rfl, .inr ⟨⟨_, Same.sqT r2.sub h3⟩, k F2 τ2 H1 _ xs _ r2 g2 walkD_tup (fun F3 H3 x1 x2 => ⟨_, Same.sqT x2 (Same.sqT x1 h3), dpAll_mono x1 _ _ h4⟩) h2⟩⟩
  | _ => exact (show False from h2).elim
/-- in a comprehension, without freezing -/
def dcSeq (t : DTE) : DTC := fun τ q => t τ fun ev τ1 => match ev with
  | .slot i => lstW τ1[i]? fun mk xs => q xs (fun τ2 => τ2[i]? = some (mk xs)) τ1
  | .dat d => seqW d fun xs => q xs (fun _ => True) τ1
  | .tmp xs => q xs (fun _ => True) τ1
theorem dc_seq (he : DE X e te) : DC X tg e (dcSeq te) := by
  refine pi_imp (pi_seq he) fun σ H Rr ⟨Z, F, τ, q, r, ht, k⟩ => ?_
  refine ⟨Z, F, τ, _, r, ht, fun F1 τ1 H1 ev v r1 g1 e1 h1 => ?_⟩
  match ev, e1, h1 with
  | .dat (.list xs), e1, h1 =>
    have p2 : Dq X.K F1 v (.list xs) := e1
    cases p2 with
    | lst h3 h4 => exact ⟨_, rfl, .inl ⟨⟨_, r1.sub.seq h3⟩, k F1 τ1 H1 _ xs _ _ r1 g1 walkD_list (fun F3 τ3 σ3 H3 r3 _ x1 _ _ => ⟨_, r3.sub.seq (x1.seq h3), dpAll_mono x1 _ _ h4⟩) h1⟩⟩
  | .dat (.tuple xs), e1, h1 =>
    have p2 : Dq X.K F1 v (.tuple xs) := e1
    cases p2 with
    | tup h3 h4 => exact ⟨_, rfl, .inr ⟨⟨_, Same.sqT r1.sub h3⟩, k F1 τ1 H1 _ xs _ _ r1 g1 walkD_tup (fun F3 τ3 σ3 H3 r3 _ x1 _ _ => ⟨_, Same.sqT r3.sub (Same.sqT x1 h3), dpAll_mono x1 _ _ h4⟩) h1⟩⟩
  | .tmp xs, e1, h1 =>
    obtain ⟨a, vs, e0, q1, q2, q3, q4, q5, q6⟩ := e1
    subst e0
    exact ⟨a, rfl, .inl ⟨⟨_, SqL.of q1⟩, k F1 τ1 H1 _ xs _ _ r1 g1 walkD_list (fun F3 τ3 σ3 H3 r3 _ x1 x2 _ => ⟨vs, SqL.of (x2 a _ q1 nt_lst q5), dpAll_mono x1 _ _ q6⟩) h1⟩⟩
  | .slot i, e1, h1 =>
    obtain ⟨mk, xs, hm, ho, h1⟩ := lstW_of h1
    obtain ⟨a, vs, q0, q1, q2, q3⟩ := slot_lst r1 hm ho
    have z := e1.1
    rw [q0] at z
    cases z
    exact ⟨a, rfl, .inl ⟨⟨_, SqL.of q1⟩, k F1 τ1 H1 _ xs _ _ r1 g1 walkD_list (fun F3 τ3 σ3 H3 r3 sb x1 x2 st => by
      obtain ⟨a', vs', z0, z1, z2, z3⟩ := slot_lst r3 hm st
      have z4 := sb i _ z0
      rw [q0] at z4
      cases z4
      exact ⟨vs', SqL.of z1, z3⟩) h1⟩⟩
/-- range -/
def rng1W : List D → (Nat → Prop) → Prop
  | [.int n], k => -(2 ^ 62) ≤ n ∧ n < 2 ^ 62 ∧ k n.toNat
  | _, _ => False
def rng2W : List D → (Int → Nat → Prop) → Prop
  | [.int a, .int b], k => (-(2 ^ 62) ≤ a ∧ a < 2 ^ 62 ∧ -(2 ^ 62) ≤ b ∧ b < 2 ^ 62) ∧ k a (b - a).toNat
  | _, _ => False
def diRng1 (t : DTA) : DTI := fun τ q => t τ fun es τ1 => rng1W (es.map (val τ1)) fun n => q (rangeD 0 n) τ1
def diRng2 (t : DTA) : DTI := fun τ q => t τ fun es τ1 => rng2W (es.map (val τ1)) fun a n => q (rangeD a n) τ1
theorem di_rng1 {a : Expr} (hg : Gl X "range") (hm : X.mg "range" = none) (ha : DA X [a] ta) (hs : starEach [a] X.env = [(false, eval a X.env)] := by rfl) : DI X tg (.Call (.Name "range" p) [a] [] pos) (diRng1 ta) := by
  refine pi_imp (pi_range1 hg hm ha hs) fun σ H Rr ⟨Z, F, τ, q, r, ht, k⟩ => ?_
  refine ⟨Z, F, τ, _, r, ht, fun F1 τ1 H1 ws r1 g1 e1 h1 => ?_⟩
  have P := vals_of r1 e1.1
  revert h1 P
  generalize (ws.map (·.1)).map (val τ1) = ds
  generalize ws.map (·.2) = vs
  intro h1 P
  match ds, h1, P with
  | [.int n], h1, .cons p .nil => exact ⟨n, by rw [p.int], h1.1, h1.2.1, k F1 τ1 H1 _ _ _ r1 g1 walkD_range (fun _ _ _ _ => trivial) h1.2.2⟩
theorem di_rng2 {a b : Expr} (hg : Gl X "range") (hm : X.mg "range" = none) (ha : DA X [a, b] ta) (hs : starEach [a, b] X.env = [(false, eval a X.env), (false, eval b X.env)] := by rfl) (hs2 : starEach [b] X.env = [(false, eval b X.env)] := by rfl) :
    DI X tg (.Call (.Name "range" p) [a, b] [] pos) (diRng2 ta) := by
  refine pi_imp (pi_range2 hg hm ha hs hs2) fun σ H Rr ⟨Z, F, τ, q, r, ht, k⟩ => ?_
  refine ⟨Z, F, τ, _, r, ht, fun F1 τ1 H1 ws r1 g1 e1 h1 => ?_⟩
  have P := vals_of r1 e1.1
  revert h1 P
  generalize (ws.map (·.1)).map (val τ1) = ds
  generalize ws.map (·.2) = vs
  intro h1 P
  match ds, h1, P with
  | [.int n, .int m], h1, .cons p (.cons p' .nil) => exact ⟨n, m, by rw [p.int, p'.int], h1.1, k F1 τ1 H1 _ _ _ r1 g1 walkD_range (fun _ _ _ _ => trivial) h1.2⟩
end

/-! ### for -/
def forW (g : DTG) (b : DTS) (E : DEnds) : List D → DSt → Prop
  | [], τ => E.nx τ
  | x :: xs, τ => g x τ fun τ1 => b { E with nx := forW g b E xs, ct := forW g b E xs, bk := E.nx } τ1
def dFor (t : DTI) (g : DTG) (b : DTS) : DTS := fun E τ => t τ fun xs τ1 => forW g b E xs τ1
theorem R.rebase {K : PySem.W.Frag} {Z : Fz} {F F' H : Hp} {τ : DSt} {σ : St} (r : R K Z F τ σ H) (s0 : Same Z.F0 F') (fz : ∀ a, F' a ≠ none → Z.F0 a ≠ none ∨ Z.H0 a = none) (s : Same F' F) : R K { Z with F0 := F' } F τ σ H where
  sub := r.sub
  f0 := s
  len := r.len
  slot := fun i d h => by
    have s := r.slot i d h
    cases d with
    | emp => trivial
    | dat d => exact s
    | own xs => exact s
    | io xs => exact s
    | bor xs => exact s
  apart := r.apart
  frame := r.frame
  dom := r.dom
  froz := fun a h => by
    rcases r.froz a h with h | h
    · obtain ⟨o, h⟩ := ne_some h
      exact .inl (some_ne (s0 _ _ h))
    · exact .inr h
  wr := fun a h => by
    obtain ⟨w1, w2⟩ := r.wr a h
    refine ⟨none_of fun z => ?_, w2⟩
    rcases fz a z with y | y
    · exact y w1
    · exact w2 y
  tabs := r.tabs
  fnt := r.fnt
theorem R.unbase {K : PySem.W.Frag} {Z : Fz} {F F' H : Hp} {τ : DSt} {σ : St} (r : R K { Z with F0 := F' } F τ σ H) (s0 : Same Z.F0 F') (fz : ∀ a, F' a ≠ none → Z.F0 a ≠ none ∨ Z.H0 a = none) (wr : ∀ a, Z.Wr a → Z.F0 a = none ∧ Z.H0 a ≠ none) : R K Z F τ σ H where
  sub := r.sub
  f0 := s0.trans r.f0
  len := r.len
  slot := fun i d h => by
    have s := r.slot i d h
    cases d with
    | emp => trivial
    | dat d => exact s
    | own xs => exact s
    | io xs => exact s
    | bor xs => exact s
  apart := r.apart
  frame := r.frame
  dom := r.dom
  froz := fun a h => by
    rcases r.froz a h with h | h
    · exact fz a h
    · exact .inr h
  wr := wr
  tabs := r.tabs
  fnt := r.fnt
theorem evr_rebase {K : PySem.W.Frag} {Z : Fz} {F F' Hb H : Hp} {τ : DSt} {σ : St} {ev : EV} {v : V} (h : EVR K { Z with F0 := F' } Hb F H τ σ ev v) : EVR K Z Hb F H τ σ ev v := by
  cases ev with
  | dat d => exact h
  | tmp xs => exact h
  | slot i => exact h
theorem ds_for {X : Cx} {tg iter : Expr} {body : List Stmt} {t : DTI} {is : List Nat} {g : DTG} {b : DTS} {pos : Pos} (hp : PassesOwn (model X.prog X.w) X.A X.env X.xe) (hc : X.calm = true) (hi : DI X tg iter t) (hg : DG X tg is g) (hb : DSs X body b)
    (hs : ∀ x, foldedSetIterable iter X.env x = pure x := by intro _; rfl) : DS X (.For tg iter body [] pos) (dFor t g b) := by
  refine ps_imp (ps_for hp hc hi hg hb hs) fun D σ H ⟨Z, F, τ, E, r, h, k⟩ => ?_
  refine ⟨Z, F, τ, _, r, h, fun F1 τ1 H1 J xs G r1 g1 w st h1 => ?_⟩
  have fz := r1.froz
  have s0 := r1.f0
  have wr := r1.wr
  refine ⟨fun i m σ H => i ≤ xs.length ∧ m = xs.length - i ∧ ∃ F2 τ2, R X.K { Z with F0 := F1 } F2 τ2 σ H ∧ forW g b E (xs.drop i) τ2, ⟨xs.length, Nat.zero_le _, rfl, F1, τ1, r1.rebase s0 fz (Same.refl _), h1⟩, ?_⟩
  rintro i m σ2 H2 ⟨hi, rfl, F2, τ2, r2, h2⟩
  have hG : G F2 H2 := st F2 H2 r2.f0 r2.sub
  by_cases hlt : i < xs.length
  · refine .inr ⟨w.go i F2 H2 hlt r2.sub hG, fun σ H => ∃ F3 τ3, R X.K { Z with F0 := F1 } F3 τ3 σ H ∧ forW g b E (xs.drop (i + 1)) τ3, fun σ' H' ⟨F3, τ3, r3, h3⟩ => ⟨xs.length - (i + 1), by omega, hlt, rfl, F3, τ3, r3, h3⟩, fun x H3 y => ?_⟩
    obtain ⟨F3, d, hd, s1, s2, s3, n, p3⟩ := w.yld i F2 H2 x H3 hlt r2.sub hG y
    have r3 := r2.more s1 s2 s3 n
    have ed : xs.drop i = d :: xs.drop (i + 1) := by
      obtain ⟨z1, z2⟩ := List.getElem?_eq_some_iff.mp hd
      rw [← z2]; exact List.drop_eq_getElem_cons z1
    rw [ed] at h2
    refine ⟨_, F3, τ2, _, d, r3, p3, h2, fun τ4 σ4 r4 _ h4 => ?_⟩
    refine ⟨_, F3, τ4, _, r4, h4, ⟨fun F5 τ5 σ5 H5 r5 h5 => ⟨F5, τ5, r5, h5⟩, fun F5 τ5 σ5 H5 ev v r5 e5 h5 => k.rt F5 τ5 σ5 H5 ev v (r5.unbase s0 fz wr) (evr_rebase e5) h5, fun F5 τ5 σ5 H5 r5 h5 => k.nx F5 τ5 σ5 H5 (r5.unbase s0 fz wr) h5, fun F5 τ5 σ5 H5 r5 h5 => ⟨F5, τ5, r5, h5⟩⟩⟩
  · have e : i = xs.length := by omega
    subst e
    refine .inl ⟨w.stop F2 H2 r2.sub hG, k.nx F2 τ2 σ2 H2 (r2.unbase s0 fz wr) ?_⟩
    rw [List.drop_length] at h2
    exact h2

/-! ### while -/
def whileN (c : DTT) (b : DTS) (E : DEnds) : Nat → DSt → Prop
  | 0, _ => False
  | n + 1, τ => c τ fun k τ1 => br k (b { E with nx := whileN c b E n, ct := whileN c b E n, bk := E.nx } τ1) (E.nx τ1)
def dWhile (c : DTT) (b : DTS) : DTS := fun E τ => ∃ n, whileN c b E n τ
theorem ds_while {X : Cx} {c : Expr} {body : List Stmt} {tc : DTT} {b : DTS} {pos : Pos} (hp : PassesOwn (model X.prog X.w) X.A X.env X.xe) (hc : DT X c tc) (hb : DSs X body b) : DS X (.While c body [] pos) (dWhile tc b) := by
  refine ps_imp (ps_while hp hc hb) fun D σ H ⟨Z, F, τ, E, r, h, k⟩ => ?_
  obtain ⟨n, h⟩ := h
  refine ⟨fun m σ H => ∃ F τ, R X.K Z F τ σ H ∧ whileN tc b E m τ, ⟨n, F, τ, r, h⟩, ?_⟩
  rintro m σ1 H1 ⟨F1, τ1, r1, h1⟩
  cases m with
  | zero => exact h1.elim
  | succ m =>
    refine ⟨Z, F1, τ1, _, r1, h1, fun F2 τ2 H2 kk r2 g2 h2 => br_if ?_⟩
    cases kk with
    | false => exact k.nx F2 τ2 σ1 H2 r2 h2
    | true =>
      refine ⟨fun σ H => ∃ F τ, R X.K Z F τ σ H ∧ whileN tc b E m τ, fun σ' H' x => ⟨m, Nat.lt_succ_self _, x⟩, Z, F2, τ2, _, r2, h2, ⟨fun F5 τ5 σ5 H5 r5 h5 => ⟨F5, τ5, r5, h5⟩, k.rt, fun F5 τ5 σ5 H5 r5 h5 => k.nx F5 τ5 σ5 H5 r5 h5, fun F5 τ5 σ5 H5 r5 h5 => ⟨F5, τ5, r5, h5⟩⟩⟩
end DL
set_option Elab.async false
set_option linter.all false
set_option maxRecDepth 100000
set_option maxHeartbeats 4000000
namespace DL
open PySem L2

/-! ### comprehensions -/
def wipeD (τ : DSt) : List Nat → DSt
  | [] => τ
  | v :: vs => (wipeD τ vs).set v .emp
def rst (τ0 : DSt) : List Nat → DSt → DSt
  | [], τ => τ
  | v :: vs, τ => (rst τ0 vs τ).set v (τ0[v]?.getD .emp)
def compW (g : DTG) (tt : DTT) (te : DTE) (vs : List Nat) (stay : DSt → Prop) (q : List D → DSt → Prop) : List D → List D → DSt → Prop
  | [], acc, τ => stay τ ∧ q acc τ
  | x :: xs, acc, τ => stay τ ∧ g x τ fun τ1 => tt τ1 fun b τ2 => br b (te τ2 fun ev τ3 => frz τ3 ev fun d τ4 => compW g tt te vs stay q xs (acc ++ [d]) (wipeD τ4 vs)) (compW g tt te vs stay q xs acc (wipeD τ2 vs))
def dLc (t : DTC) (g : DTG) (tt : DTT) (te : DTE) (vs : List Nat) : DTE := fun τ q => t τ fun items stay τ1 => items.length ≤ sizeLine ∧
  compW g tt te vs stay (fun ys τ2 => q (.tmp ys) (rst τ1 vs τ2)) items [] (wipeD τ1 vs)
theorem wipeD_len {τ : DSt} : ∀ {vs : List Nat}, (wipeD τ vs).length = τ.length
  | [] => rfl
  | v :: vs => by show ((wipeD τ vs).set v .emp).length = _; rw [List.length_set, wipeD_len]
theorem wipeD_off {τ : DSt} {i : Nat} : ∀ {vs : List Nat}, i ∉ vs → (wipeD τ vs)[i]? = τ[i]?
  | [], _ => rfl
  | v :: vs, h => by
    show ((wipeD τ vs).set v .emp)[i]? = _
    rw [List.getElem?_set_ne (fun e => h (by rw [e]; exact List.mem_cons_self)), wipeD_off fun z => h (List.mem_cons_of_mem _ z)]
theorem wipeD_on {τ : DSt} {i : Nat} {d : DV} : ∀ {vs : List Nat}, i ∈ vs → (wipeD τ vs)[i]? = some d → d = .emp
  | v :: vs, h, e => by
    have e : ((wipeD τ vs).set v .emp)[i]? = some d := e
    rcases get_set e with ⟨_, _, z⟩ | ⟨z1, z2⟩
    · exact z
    · rcases List.mem_cons.mp h with y | y
      · exact absurd y z1
      · exact wipeD_on y z2
theorem wipe_off {σ : St} {i : Nat} : ∀ {vs : List Nat}, i ∉ vs → (wipe σ vs)[i]? = σ[i]?
  | [], _ => rfl
  | v :: vs, h => by
    show ((wipe σ vs).set v none)[i]? = _
    rw [List.getElem?_set_ne (fun e => h (by rw [e]; exact List.mem_cons_self)), wipe_off fun z => h (List.mem_cons_of_mem _ z)]
theorem rst_len {τ0 τ : DSt} : ∀ {vs : List Nat}, (rst τ0 vs τ).length = τ.length
  | [] => rfl
  | v :: vs => by show ((rst τ0 vs τ).set v _).length = _; rw [List.length_set, rst_len]
theorem rst_off {τ0 τ : DSt} {i : Nat} : ∀ {vs : List Nat}, i ∉ vs → (rst τ0 vs τ)[i]? = τ[i]?
  | [], _ => rfl
  | v :: vs, h => by
    show ((rst τ0 vs τ).set v _)[i]? = _
    rw [List.getElem?_set_ne (fun e => h (by rw [e]; exact List.mem_cons_self)), rst_off fun z => h (List.mem_cons_of_mem _ z)]
theorem rst_on {τ0 τ : DSt} {i : Nat} {d : DV} : ∀ {vs : List Nat}, i ∈ vs → (rst τ0 vs τ)[i]? = some d → d = τ0[i]?.getD .emp
  | v :: vs, h, e => by
    have e : ((rst τ0 vs τ).set v _)[i]? = some d := e
    rcases get_set e with ⟨e1, _, z⟩ | ⟨z1, z2⟩
    · rw [e1]; exact z
    · rcases List.mem_cons.mp h with y | y
      · exact absurd y z1
      · exact rst_on y z2
theorem lst_emp : ¬ Lst (some DV.emp) := fun ⟨_, h⟩ => by rcases h with h | h <;> cases h
theorem lst_none : ¬ Lst none := fun ⟨_, h⟩ => by rcases h with h | h <;> cases h

section
variable {K : PySem.W.Frag} {Z : Fz} {F H F' H' : Hp} {τ τ' : DSt} {σ : St}
/-- the block's own names forgotten -/
theorem R.wipe (r : R K Z F τ σ H) (vs : List Nat) : R K Z F (wipeD τ vs) (L2.wipe σ vs) H := by
  have ls : ∀ i : Nat, Lst (wipeD τ vs)[i]? → Lst τ[i]? ∧ i ∉ vs := fun i h => by
    by_cases hi : i ∈ vs
    · cases e : (wipeD τ vs)[i]? with
      | none => rw [e] at h; exact absurd h lst_none
      | some d =>
        have := wipeD_on hi e
        rw [e, this] at h
        exact absurd h lst_emp
    · rw [wipeD_off hi] at h; exact ⟨h, hi⟩
  refine ⟨r.sub, r.f0, by rw [wipeD_len, wipe_length]; exact r.len, fun i d hd => ?_, fun i j a e1 e2 e3 e4 => ?_, r.frame, r.dom, r.froz, r.wr, r.tabs, r.fnt⟩
  · by_cases hi : i ∈ vs
    · have := wipeD_on hi hd
      subst this
      trivial
    · rw [wipeD_off hi] at hd
      rw [wipe_off hi]
      exact r.slot i d hd
  · exact r.apart i j a (wipe_some e1).1 (wipe_some e2).1 (ls i e3).1 (ls j e4).1
/-- an object that nobody holds is changed -/
theorem R.side {d : Addr} {o : HO} (r : R K Z F τ σ H) (hL : ∀ u, H d = some u → ∃ xs, u = .lst xs) (hF : F d = none) (hn : ¬ Own τ σ d) (h0 : Z.H0 d = none) : R K Z F τ σ (upd H d o) where
  sub := fun b u hb => by rw [upd_ne (ne_of_none hb hF)]; exact r.sub _ _ hb
  f0 := r.f0
  len := r.len
  slot := fun i dv e => by
    have s := r.slot i dv e
    have ne : ∀ {b : Addr}, σ[i]? = some (some (.ref b)) → Lst τ[i]? → b ≠ d := fun {b} q1 q2 z => hn ⟨i, by rw [← z]; exact q1, q2⟩
    cases dv with
    | emp => trivial
    | dat x => exact s
    | own xs => obtain ⟨c, us, q0, q1, q2, q3, q4⟩ := s; exact ⟨c, us, q0, by rw [upd_ne (ne q0 ⟨xs, by rw [e]; exact .inl rfl⟩)]; exact q1, q2, q3, q4⟩
    | io xs => obtain ⟨c, us, q0, q1, q2, q3, q4⟩ := s; exact ⟨c, us, q0, by rw [upd_ne (ne q0 ⟨xs, by rw [e]; exact .inr rfl⟩)]; exact q1, q2, q3, q4⟩
    | bor xs => exact s
  apart := r.apart
  frame := fun a u h t hw => by rw [upd_ne (ne_of_none h h0)]; exact r.frame a u h t hw
  dom := fun a h => by
    by_cases z : a = d
    · subst z; rw [upd_same]; exact fun z => by cases z
    · rw [upd_ne z]; exact r.dom a h
  froz := r.froz
  wr := r.wr
  tabs := tabs_upd r.tabs hL
  fnt := r.fnt
/-- what a block's turns leave, seen from outside -/
structure Gc (F H : Hp) (τ : DSt) (σ : St) (vs : List Nat) (F' H' : Hp) (τ' : DSt) : Prop where
  f : Same F F'
  keep : ∀ a o, H a = some o → NT o → ¬ Own τ σ a → H' a = some o
  dom : ∀ a, H a ≠ none → H' a ≠ none
  new : ∀ a, F a = none → H a ≠ none → ¬ Own τ σ a → F' a = none
  lst : ∀ i : Nat, Lst τ'[i]? → Lst τ[i]? ∧ i ∉ vs
  live : ∀ i, i ∉ vs → Live τ i → Live τ' i
theorem Gc.own {vs : List Nat} {σ2 : St} (g : Gc F H τ σ vs F' H' τ') (hs : ∀ i, i ∉ vs → σ2[i]? = σ[i]?) {a : Addr} (h : Own τ' σ2 a) : Own τ σ a := by
  obtain ⟨i, h1, h2⟩ := h
  obtain ⟨l1, l2⟩ := g.lst i h2
  exact ⟨i, by rw [← hs i l2]; exact h1, l1⟩
theorem Gc.step {vs : List Nat} {σ2 : St} {F2 H2 : Hp} {τ2 : DSt} (g : Gc F H τ σ vs F' H' τ') (hs : ∀ i, i ∉ vs → σ2[i]? = σ[i]?) (s : Gr F' H' τ' σ2 F2 H2 τ2) : Gc F H τ σ vs F2 H2 τ2 where
  f := g.f.trans s.f
  keep := fun a o h t n => s.keep a o (g.keep a o h t n) t fun z => n (g.own hs z)
  dom := fun a h => s.dom a (g.dom a h)
  new := fun a h h2 n => s.new a (g.new a h h2 n) (g.dom a h2) fun z => n (g.own hs z)
  lst := fun i h => g.lst i (s.lst i h)
  live := fun i hi h => s.live i (g.live i hi h)
theorem Gc.wipe {vs : List Nat} (g : Gc F H τ σ vs F' H' τ') : Gc F H τ σ vs F' H' (wipeD τ' vs) where
  f := g.f
  keep := g.keep
  dom := g.dom
  new := g.new
  lst := fun i h => by
    by_cases hi : i ∈ vs
    · cases e : (wipeD τ' vs)[i]? with
      | none => rw [e] at h; exact absurd h lst_none
      | some d =>
        have := wipeD_on hi e
        rw [e, this] at h
        exact absurd h lst_emp
    · rw [wipeD_off hi] at h; exact g.lst i h
  live := fun i hi h => by
    obtain ⟨d, e1, e2⟩ := g.live i hi h
    exact ⟨d, by rw [wipeD_off hi]; exact e1, e2⟩
theorem Gc.side {vs : List Nat} {d : Addr} {o : HO} (g : Gc F H τ σ vs F' H' τ') (hd : H d = none) : Gc F H τ σ vs F' (upd H' d o) τ' where
  f := g.f
  keep := fun a u h t n => by rw [upd_ne (ne_of_none h hd)]; exact g.keep a u h t n
  dom := fun a h => by
    by_cases z : a = d
    · subst z; rw [upd_same]; exact fun z => by cases z
    · rw [upd_ne z]; exact g.dom a h
  new := g.new
  lst := g.lst
  live := g.live
theorem own_wipe {vs : List Nat} {a : Addr} (h : Own (wipeD τ vs) σ a) : Own τ σ a := by
  obtain ⟨i, h1, h2⟩ := h
  by_cases hi : i ∈ vs
  · cases e : (wipeD τ vs)[i]? with
    | none => rw [e] at h2; exact absurd h2 lst_none
    | some d =>
      have := wipeD_on hi e
      rw [e, this] at h2
      exact absurd h2 lst_emp
  · rw [wipeD_off hi] at h2; exact ⟨i, h1, h2⟩
/-- behind the block -/
theorem R.rst {vs : List Nat} (r0 : R K Z F τ σ H) (g : Gc F H (wipeD τ vs) σ vs F' H' τ') (r : R K Z F' τ' (L2.wipe σ vs) H') : R K Z F' (rst τ vs τ') σ H' ∧ Gr F H τ σ F' H' (rst τ vs τ') := by
  have lw : ∀ i : Nat, Lst (wipeD τ vs)[i]? → Lst τ[i]? ∧ i ∉ vs := fun i h => by
    by_cases hi : i ∈ vs
    · cases e : (wipeD τ vs)[i]? with
      | none => rw [e] at h; exact absurd h lst_none
      | some d =>
        have := wipeD_on hi e
        rw [e, this] at h
        exact absurd h lst_emp
    · rw [wipeD_off hi] at h; exact ⟨h, hi⟩
  have ls : ∀ i : Nat, Lst (DL.rst τ vs τ')[i]? → Lst τ[i]? := fun i h => by
    by_cases hi : i ∈ vs
    · cases e : (DL.rst τ vs τ')[i]? with
      | none => rw [e] at h; exact absurd h lst_none
      | some d =>
        have := rst_on hi e
        rw [e, this] at h
        cases q : τ[i]? with
        | none => rw [q] at h; exact absurd h lst_emp
        | some x => rw [q] at h; exact h
    · rw [rst_off hi] at h; exact (lw i (g.lst i h).1).1
  have hl : τ.length = τ'.length := by rw [r.len, wipe_length]; exact r0.len
  have sl : ∀ (i : Nat) d, (DL.rst τ vs τ')[i]? = some d → SlotOk K Z F' H' σ[i]? d := fun i d hd => by
    by_cases hi : i ∈ vs
    · have e := rst_on hi hd
      cases q : τ[i]? with
      | none => rw [q] at e; subst e; trivial
      | some x =>
        rw [q] at e
        have e : d = x := e
        subst e
        have s := r0.slot i d q
        -- an outer slot's list is no inner slot's: it stands
        have st : ∀ {b : Addr} {ws : List V}, σ[i]? = some (some (.ref b)) → Lst τ[i]? → H b = some (.lst ws) → F b = none → H' b = some (.lst ws) ∧ F' b = none := fun {b ws} q1 q2 q3 q4 => by
          have nb : ¬ Own (wipeD τ vs) σ b := fun ⟨j, y1, y2⟩ => by
            obtain ⟨y3, y4⟩ := lw j y2
            have := r0.apart i j b q1 y1 q2 y3
            subst this
            exact y4 hi
          exact ⟨g.keep _ _ q3 nt_lst nb, g.new _ q4 (some_ne q3) nb⟩
        cases d with
        | emp => trivial
        | dat y => obtain ⟨x, e, p⟩ := s; exact ⟨x, e, dp_mono g.f _ _ p⟩
        | own xs => obtain ⟨c, us, q0, q1, q2, q3, q4⟩ := s; obtain ⟨z1, z2⟩ := st q0 ⟨xs, by rw [q]; exact .inl rfl⟩ q1 q2; exact ⟨c, us, q0, z1, z2, q3, dpAll_mono g.f _ _ q4⟩
        | io xs => obtain ⟨c, us, q0, q1, q2, q3, q4⟩ := s; obtain ⟨z1, z2⟩ := st q0 ⟨xs, by rw [q]; exact .inr rfl⟩ q1 q2; exact ⟨c, us, q0, z1, z2, q3, dpAll_mono g.f _ _ q4⟩
        | bor xs =>
          obtain ⟨c, us, q0, q1, q2⟩ := s
          exact ⟨c, us, q0, dpAll_mono g.f _ _ q1, q2.imp (fun z => g.f.seq z) id⟩
    · rw [rst_off hi] at hd
      have s := r.slot i d hd
      rw [wipe_off hi] at s
      exact s
  refine ⟨⟨r.sub, r.f0, by rw [rst_len]; rw [← hl]; exact r0.len, sl, fun i j a e1 e2 e3 e4 => r0.apart i j a e1 e2 (ls i e3) (ls j e4), r.frame, r.dom, r.froz, r.wr, r.tabs, r.fnt⟩,
    ⟨g.f, fun a o h t n => g.keep a o h t fun z => n (own_wipe z), g.dom, fun a h1 h2 n => g.new a h1 h2 fun z => n (own_wipe z), ls, fun i h => ?_⟩⟩
  by_cases hi : i ∈ vs
  · obtain ⟨d, e1, e2⟩ := h
    have hlt : i < (DL.rst τ vs τ').length := by rw [rst_len, ← hl]; exact (List.getElem?_eq_some_iff.mp e1).1
    have := rst_on (τ0 := τ) (τ := τ') hi (List.getElem?_eq_getElem hlt)
    refine ⟨_, List.getElem?_eq_getElem hlt, ?_⟩
    rw [this, e1]
    exact e2
  · obtain ⟨x, y1, y2⟩ := h
    obtain ⟨d, e1, e2⟩ := g.live i hi ⟨x, by rw [wipeD_off hi]; exact y1, y2⟩
    exact ⟨d, by rw [rst_off hi]; exact e1, e2⟩
end

/-! ### the rule -/
theorem asgn_wipe {is vs : List Nat} {τ τ' : DSt} {σ σ' : St} (a : Asgn is τ (wipe σ vs) τ' σ') (hs : ∀ i ∈ is, i ∈ vs) : wipe σ' vs = wipe σ vs := by
  apply List.ext_getElem?
  intro i
  by_cases hi : i ∈ vs
  · have wn : ∀ {ρ : St} {us : List Nat}, i ∈ us → (L2.wipe ρ us)[i]? = if i < ρ.length then some none else none := fun {ρ us} => by
      induction us with
      | nil => intro h; cases h
      | cons u us ih =>
        intro h
        show ((L2.wipe ρ us).set u none)[i]? = _
        by_cases z : u = i
        · subst z
          by_cases hl : u < ρ.length
          · rw [List.getElem?_set_self (by rw [wipe_length]; exact hl), if_pos hl]
          · rw [List.getElem?_eq_none (by rw [List.length_set, wipe_length]; omega), if_neg hl]
        · rw [List.getElem?_set_ne z]
          rcases List.mem_cons.mp h with y | y
          · exact absurd y.symm z
          · exact ih y
    rw [wn hi, wn hi, a.len, wipe_length]
  · rw [wipe_off hi, wipe_off hi, (a.off i (fun z => hi (hs i z))).1, wipe_off hi]
structure PTsD (X : Cx) (ifs : List Expr) (t : DTT) : Prop where
  run : PTs X ifs (liftT X.K t)
def dYes : DTT := fun τ q => q true τ
theorem dts_nil {X : Cx} : PTsD X [] dYes := ⟨⟨fun pins s σ H Q I ⟨Z, F, τ, q, r, ht, k⟩ => pts_nil.run pins s σ H Q I (k F τ H true r Gr.refl ht)⟩⟩
theorem dts_one {X : Cx} {c : Expr} {t : DTT} (h : DT X c t) : PTsD X [c] t := ⟨pts_one h⟩
theorem lc_of {X : Cx} {t : DTC} {is : List Nat} {g : DTG} {tt : DTT} {te : DTE} {vs : List Nat} {σ : St} {H : Hp} {Q : VK} (hv : ∀ i ∈ is, i ∈ vs) (h : liftE X.K (dLc t g tt te vs) σ H Q) :
    tLc (liftC X.K t) (liftG X.K is g) (liftT X.K tt) (liftE X.K te) vs σ H Q := by
  obtain ⟨Z, F, τ, q, r, ht, k⟩ := h
  refine ⟨Z, F, τ, _, r, ht, fun F1 τ1 H1 J xs stay G r1 g1 w st h1 => ?_⟩
  obtain ⟨hz, h1⟩ := h1
  intro d hd
  have nF : F1 d = none := r1.sub.free hd
  have n0 : Z.H0 d = none := none_of fun z => r1.dom d z hd
  have nown : ¬ Own (wipeD τ1 vs) σ d := fun z => by
    obtain ⟨ws, z, _⟩ := own_some r1 (own_wipe z)
    rw [hd] at z; cases z
  have so : ∀ i, i ∉ vs → (wipe σ vs)[i]? = σ[i]? := fun i hi => wipe_off hi
  refine ⟨fun i m H => i ≤ xs.length ∧ m = xs.length - i ∧ ∃ F2 τ2 accV acc, R X.K Z F2 τ2 (wipe σ vs) H ∧ H d = some (.lst accV) ∧ F2 d = none ∧ DqAll X.K F2 accV acc ∧ acc.length ≤ i ∧ Gc F1 H1 (wipeD τ1 vs) σ vs F2 H τ2 ∧
    compW g tt te vs stay (fun ys τ2 => q (.tmp ys) (rst τ1 vs τ2)) (xs.drop i) acc τ2, ⟨xs.length, Nat.zero_le _, rfl, F1, wipeD τ1 vs, [], [], ?_, upd_same, nF, .nil, Nat.le_refl _, ?_, h1⟩, ?_⟩
  · exact (r1.wipe vs).side (fun u z => by rw [hd] at z; cases z) nF (fun z => by
      obtain ⟨i, z1, z2⟩ := z
      exact nown ⟨i, (wipe_some z1).1, z2⟩) n0
  · refine Gc.side ⟨Same.refl _, fun a o h _ _ => h, fun a h => h, fun a h _ _ => h, fun i h => ⟨h, fun hi => ?_⟩, fun i _ h => h⟩ hd
    cases e : (wipeD τ1 vs)[i]? with
    | none => rw [e] at h; exact absurd h lst_none
    | some x =>
      have := wipeD_on hi e
      rw [e, this] at h
      exact absurd h lst_emp
  · rintro i m H2 ⟨hi, rfl, F2, τ2, accV, acc, r2, hD, hF2, hacc, hlen, g2, h2⟩
    have dn : ∀ {τ3 : DSt} {σ3 : St} {F3 H3 : Hp}, Gc F1 H1 (wipeD τ1 vs) σ vs F3 H3 τ3 → (∀ i, i ∉ vs → σ3[i]? = σ[i]?) → ¬ Own τ3 σ3 d := fun g hs z => nown (g.own hs z)
    by_cases hlt : i < xs.length
    · obtain ⟨x0, hx0⟩ : ∃ x, xs[i]? = some x := ⟨xs[i], by simp [hlt]⟩
      have ed : xs.drop i = x0 :: xs.drop (i + 1) := by
        obtain ⟨z1, z2⟩ := List.getElem?_eq_some_iff.mp hx0
        rw [← z2]; exact List.drop_eq_getElem_cons z1
      rw [ed] at h2
      obtain ⟨hst, h2⟩ := h2
      have hG : G F2 H2 := st F2 τ2 _ H2 r2 (fun i v e => (wipe_some e).1) g2.f (fun a o h t n => g2.keep a o h t fun z => n (own_wipe z)) hst
      refine .inr ⟨w.go i F2 H2 hlt r2.sub hG, fun H => ∃ F2 τ2 accV acc, R X.K Z F2 τ2 (wipe σ vs) H ∧ H d = some (.lst accV) ∧ F2 d = none ∧ DqAll X.K F2 accV acc ∧ acc.length ≤ i + 1 ∧ Gc F1 H1 (wipeD τ1 vs) σ vs F2 H τ2 ∧
        compW g tt te vs stay (fun ys τ2 => q (.tmp ys) (rst τ1 vs τ2)) (xs.drop (i + 1)) acc τ2, fun H' x => ⟨xs.length - (i + 1), by omega, hlt, rfl, x⟩, fun x H3 y => ?_⟩
      obtain ⟨F3, x', hx', s1, s2, s3, n3, p3⟩ := w.yld i F2 H2 x H3 hlt r2.sub hG y
      rw [hx0] at hx'
      cases hx'
      have r3 := r2.more s1 s2 s3 n3
      have g3 := g2.step so (Gr.more (σ := wipe σ vs) (τ := τ2) s1 s3 n3)
      have hD3 : H3 d = some (.lst accV) := s3 _ _ hD
      have hF3 : F3 d = none := none_of fun z => by have := (n3 d hF2 z).1; rw [hD] at this; cases this
      refine ⟨Z, F3, τ2, _, x0, r3, p3, h2, fun τ4 σ4 r4 a4 h4 => ⟨asgn_wipe a4 hv, ?_⟩⟩
      have so4 : ∀ i, i ∉ vs → σ4[i]? = σ[i]? := fun i hi => by rw [(a4.off i fun z => hi (hv i z)).1]; exact wipe_off hi
      have g4 : Gc F1 H1 (wipeD τ1 vs) σ vs F3 H3 τ4 := ⟨g3.f, g3.keep, g3.dom, g3.new, fun i h => by
        by_cases hi : i ∈ is
        · exact absurd h (a4.on i hi)
        · rw [(a4.off i hi).2] at h; exact g3.lst i h, fun i hi h => by
        obtain ⟨x, e1, e2⟩ := g3.live i hi h
        exact ⟨x, by rw [(a4.off i fun z => hi (hv i z)).2]; exact e1, e2⟩⟩
      refine ⟨Z, F3, τ4, _, r4, h4, fun F5 τ5 H5 b r5 g5 h5 => br_if ?_⟩
      have g5' := g4.step so4 g5
      have hD5 : H5 d = some (.lst accV) := g5.keep d _ hD3 nt_lst (dn g4 so4)
      have hF5 : F5 d = none := g5.new d hF3 (some_ne hD3) (dn g4 so4)
      have wipe4 : wipe σ4 vs = wipe σ vs := asgn_wipe a4 hv
      cases b with
      | false =>
        have r6 := r5.wipe vs
        rw [wipe4] at r6
        exact ⟨F5, wipeD τ5 vs, accV, acc, r6, hD5, hF5, dpAll_mono (s1.trans g5.f) _ _ hacc, by omega, g5'.wipe, h5⟩
      | true =>
        refine ⟨Z, F5, τ5, _, r5, h5, fun F6 τ6 H6 ev v r6 g6 e6 h6 => ?_⟩
        have g6' := g5'.step so4 g6
        have hD6 : H6 d = some (.lst accV) := g6.keep d _ hD5 nt_lst (dn g5' so4)
        have hF6 : F6 d = none := g6.new d hF5 (some_ne hD5) (dn g5' so4)
        obtain ⟨F7, τ7, y7, r7, gg7, s7, p7, h7, lv7, ow7, nw7⟩ := frz_ok r6 g6 e6 h6
        have g7' := g5'.step so4 gg7
        have hF7 : F7 d = none := none_of fun z => by
          obtain ⟨z1, z2⟩ := nw7 d hF6 z
          rcases z2 with z2 | ⟨ys, z2⟩
          · exact dn g6' so4 z2
          · subst z2 z1
            obtain ⟨b, bs, e, b1, b2, b3, b4, b5, b6⟩ := e6
            cases e
            rw [hD5] at b4; cases b4
        refine ⟨accV, hD6, ?_, ?_⟩
        · rw [hacc.len]; omega
        · have r8 := (r7.side (o := .lst (accV ++ [v])) (fun u z => by rw [hD6] at z; cases z; exact ⟨_, rfl⟩) hF7 (dn g7' so4) n0).wipe vs
          rw [wipe4] at r8
          exact ⟨F7, wipeD τ7 vs, accV ++ [v], acc ++ [y7], r8, upd_same, hF7, DqAll.app (dpAll_mono ((s1.trans g5.f).trans (g6.f.trans s7)) _ _ hacc) (.cons p7 .nil), by rw [List.length_append, List.length_singleton]; omega, (g7'.side hd).wipe, h7⟩
    · have e : i = xs.length := by omega
      subst e
      rw [List.drop_length] at h2
      obtain ⟨hst, h2⟩ := h2
      have hG : G F2 H2 := st F2 τ2 _ H2 r2 (fun i v e => (wipe_some e).1) g2.f (fun a o h t n => g2.keep a o h t fun z => n (own_wipe z)) hst
      obtain ⟨r9, g9⟩ := r1.rst g2 r2
      refine .inl ⟨w.stop F2 H2 r2.sub hG, k F2 _ H2 (.tmp acc) (.ref d) r9 (g1.trans g9) ⟨d, accV, rfl, hD, hF2, n0, none_of fun z => g1.dom d z hd, fun z => ?_, hacc⟩ h2⟩
      obtain ⟨ws, z, _⟩ := own_some r1 (g9.own d z)
      rw [hd] at z; cases z
section
variable {X : Cx}
theorem de_lc {elt tg iter : Expr} {ifs : List Expr} {scope : Scope} {own : List (Str × Nat)} {pos : Pos} {t : DTC} {is : List Nat} {g : DTG} {tt : DTT} {te : DTE} (hc : X.calm = true) (hN : X.N.Nodup) (hi : DC X tg iter t) (ok : BlkOk X.N X.env.scope scope own)
    (hg : ∀ (s : Shared) (H : Hp) (C : Addr) (cl : List (Str × Addr)) (fp : List Addr), DG (X.blk s H scope (compEnvC scope cl C X.env) fp) tg is g) (ht : ∀ (s : Shared) (H : Hp) (C : Addr) (cl : List (Str × Addr)) (fp : List Addr), PTsD (X.blk s H scope (compEnvC scope cl C X.env) fp) ifs tt)
    (he : ∀ (s : Shared) (H : Hp) (C : Addr) (cl : List (Str × Addr)) (fp : List Addr), DE (X.blk s H scope (compEnvC scope cl C X.env) fp) elt te) (hv : ∀ i ∈ is, i ∈ own.map (·.2) := by decide) (hs : ∀ x, foldedSetIterable iter X.env x = pure x := by intro _; rfl) :
    DE X (.ListComp elt [⟨tg, iter, ifs, 0⟩] scope pos) (dLc t g tt te (own.map (·.2))) :=
  pe_imp (pe_lc hc hN hi ok hg (fun s H C cl fp => (ht s H C cl fp).run) he hs) fun σ H Q h => lc_of hv h
theorem ds_setLc {i : Nat} {y : Str} {py : Pos} {elt tg iter : Expr} {ifs : List Expr} {scope : Scope} {own : List (Str × Nat)} {pos spos : Pos} {t : DTC} {is : List Nat} {g : DTG} {tt : DTT} {te : DTE} (hc : X.calm = true) (hN : X.N.Nodup) (hy : X.N[i]? = some y) (hyl : X.env.scope.names.lookup y = some .local)
    (hsw : swapsWith (.ListComp elt [⟨tg, iter, ifs, 0⟩] scope pos) (some (.Name y py)) spos.line X.env = pure true) (hi : DC X tg iter t) (ok : BlkOk X.N X.env.scope scope own)
    (hg : ∀ (s : Shared) (H : Hp) (C : Addr) (cl : List (Str × Addr)) (fp : List Addr), DG (X.blk s H scope (compEnvC scope cl C X.env) fp) tg is g) (ht : ∀ (s : Shared) (H : Hp) (C : Addr) (cl : List (Str × Addr)) (fp : List Addr), PTsD (X.blk s H scope (compEnvC scope cl C X.env) fp) ifs tt)
    (he : ∀ (s : Shared) (H : Hp) (C : Addr) (cl : List (Str × Addr)) (fp : List Addr), DE (X.blk s H scope (compEnvC scope cl C X.env) fp) elt te) (hv : ∀ i ∈ is, i ∈ own.map (·.2) := by decide) (hs : ∀ x, foldedSetIterable iter X.env x = pure x := by intro _; rfl) :
    DS X (.Assign [.Name y py] (.ListComp elt [⟨tg, iter, ifs, 0⟩] scope pos) spos) (dSet i (dLc t g tt te (own.map (·.2)))) :=
  ps_imp (ps_setLc hc hN hy hyl hsw hi ok hg (fun s H C cl fp => (ht s H C cl fp).run) he hs) fun D σ H h => by
    have h := set_of h
    exact lc_of hv h
end
end DL
set_option Elab.async false
set_option linter.all false
set_option maxRecDepth 100000
set_option maxHeartbeats 4000000
namespace DL
open PySem L2

/-! ### room, and nothing under way -/
structure RoomG (k : Nat) (A : Around) : Prop where
  room : Room k A
  gd : A.guards = some []
theorem RoomG.mono {j k : Nat} {A : Around} (r : RoomG k A) (h : j ≤ k) : RoomG j A := ⟨r.room.mono h, r.gd⟩
theorem RoomG.deeper {k : Nat} {A : Around} (r : RoomG (k + 1) A) (env : Env) : RoomG k (A.deeper env) := ⟨r.room.deeper env, r.gd⟩
abbrev EN : XK := fun _ _ _ => False
structure FnG (P : Program) (w : World) (K : PySem.W.Frag) (mg : Str → Option Value) (base : Heap) (k : Nat) (f : Addr) (fd : FuncData) (ps : List Str) (sp : Sp) : Prop where
  len : ∀ vs H Q E, sp vs H Q E → vs.length = ps.length
  run : ∀ (A : Around) (outer : List Env) (s : Shared) (H : Hp) (args : Args) (us : List Value) (vs : List V) (Q : VK), RoomG k A → Env0 P w K mg base A outer s H → BindsTo s fd args (ps.zip us) → Vals vs us → sp vs H Q EN →
    codeAny (model P w) A (.call (.ref f) args) (CR CX0 outer P w H s Q EN) s
theorem FnG.mono {P : Program} {w : World} {K : PySem.W.Frag} {mg : Str → Option Value} {base : Heap} {j k : Nat} {f : Addr} {fd : FuncData} {ps : List Str} {sp : Sp} (F : FnG P w K mg base j f fd ps sp) (h : j ≤ k) : FnG P w K mg base k f fd ps sp :=
  ⟨F.len, fun A outer s H args us vs Q hr => F.run A outer s H args us vs Q (hr.mono h)⟩
section
variable {X : Cx} {k : Nat} {f : Addr} {fd : FuncData} {ps : List Str} {sp : Sp} {x : Str} {p pos : Pos} {e : Expr} {es : List Expr} {t : TA}
theorem run_g {pins : List (Addr × Obj)} {σ : L2.St} {H : Hp} {s : Shared} {Q : VK} {us : List Value} {vs : List V} (F : FnG X.prog X.w X.K X.mg X.base k f fd ps sp) (hr : RoomG k X.A) (hb : Binds X.K fd ps [])
    (I : Inv X pins σ H s) (r : Vals vs us) (h : sp vs H Q EN) : wpAny (model X.prog X.w) X.A (call (.ref f) us) (EP X pins σ Q) X.xe s := by
  have hl : (us ++ []).length = ps.length := by rw [List.append_nil, ← r.length]; exact F.len _ _ _ _ h
  have hb := hb s us I.kIn hl
  rw [List.append_nil] at hb
  refine wpAny_call (codeAny_mono (F.run X.A X.stack s H ⟨us, []⟩ us vs Q hr I.env0 hb r h) fun r s' hq => ?_)
  cases r with
  | error e => exact hq.elim
  | ok fl =>
    cases fl with
    | ret u => exact I.after hq
    | next => exact False.elim hq
    | brk => exact False.elim hq
    | cont => exact False.elim hq
theorem pe_callG (F : FnG X.prog X.w X.K X.mg X.base k f fd ps sp) (hr : RoomG k X.A) (hg : Gl X x) (hm : X.mg x = some (.ref f)) (hk : PySem.W.keepIn X.K (.ref f) = true) (hb : Binds X.K fd ps [])
    (ha : PA X (e :: es) t) (hdb : (x == ("__debug__" : Str)) = false := by decide) (he : starEach (e :: es) X.env = (false, eval e X.env) :: starEach es X.env := by rfl) (hpl : (backTo pos (starEach es X.env)).any (·.1) = false := by rfl) :
    PE X (.Call (.Name x p) (e :: es) [] pos) (fun σ H Q => t σ H fun vs H1 => sp vs H1 Q EN) := by
  refine ⟨fun pins s σ H Q I h => ?_⟩
  refine wpAny_Call_Name_kw (ld_glob I hg hm ?_ hdb)
  refine PySem.W.callWith_K (h₀ := X.base) I.ok.mod.kin hk (thn (ha.run pos pins s σ H _ I h) fun us s1 ⟨vs, H1, I1, r, q⟩ => ⟨I1.kIn, ?_⟩) he hpl
  exact run_g F hr hb I1 r q
end
section
variable {P : Program} {w : World} {K : PySem.W.Frag} {mg : Str → Option Value} {base : Heap}
theorem fn_g {x qual : Str} {st : Stmt} {f : Addr} {fd : FuncData} {N ps : List Str} {k : Nat} {sp : Sp} (Fn : Fun K x qual st f fd) (S : FnScope N ps (defScope st)) (len : ∀ vs H Q E, sp vs H Q E → vs.length = ps.length)
    (hbody : ∀ (cdv : Value) (A : Around) (outer : List Env) (s : Shared) (H : Hp) (vs : List V) (Q : VK), fd.code = cdv → RoomG k (A.deeper (PyProof.Rows.envOfC qual (defScope st) s.heap.objs.size f cdv)) → sp vs H Q EN →
      ∃ t, PSs (cxOf CX0 P w K mg base N qual (defScope st) f cdv A outer s H EN).nox (defBody st) t ∧ t { nx := fun _ H' => Q .non H', rt := Q } (L2.start N vs) H) : FnG P w K mg base (k + 1) f fd ps sp := by
  obtain ⟨oc, od, kV, doc, pm, an, cdv, ct, osl, rfl, lk, hcd⟩ := Fn.ex
  refine ⟨len, fun A outer s H args us vs Q hr e0 hb r hsp => ?_⟩
  have hl := len _ _ _ _ hsp
  have KX : K.In s.heap := e0.mod.kin.keeps fun b o e => (e0.bs b o e).1
  have lim : s.heap.NoLimit := e0.mod.nolimit.keeps fun b o e => (e0.bs b o e).1
  have hkind : ∀ y ∈ ps.zip us, (defScope st).names.lookup y.1 = some .local ∨ ((defScope st).names.lookup y.1 = some .cell ∧ ((cellsFrom (s.heap.objs.size + 1) (defScope st).names []).lookup y.1).isSome = true) := fun ⟨n, v⟩ hy => by
    rcases S.par n (List.of_mem_zip hy).1 with q | q
    · exact .inl q
    · exact .inr ⟨q, PySem.W.cellsFrom_some _ _ _ (.inl q)⟩
  refine PySem.codeAny_call_function hr.room.depth (KX _ _ lk) rfl S.co S.gen rfl (PySem.W.codeRec_of KX hcd) (hb _ _ _ _ ?_)
  refine PySem.wpAny_newFunctionEnv_cells S.kind hkind fun env he s1 x => ?_
  subst he
  refine ⟨lim.keeps x.toInCall.keep, codeAny_func ?_⟩
  obtain ⟨t, ht, hq⟩ := hbody cdv A outer s H vs Q rfl (hr.deeper _) hsp
  have I : Inv (cxOf CX0 P w K mg base N qual (defScope st) f cdv A outer s H EN) [] (L2.start N vs) H s1 := inv_start S hr.room.hd e0 hl r x
  refine wpAny_mono (ht.nox.run [] s1 (L2.start N vs) H _ I hq) (fun fl s' hs => ?_) fun e s' hs => hs
  have fin : ∀ {σ' : L2.St} {H' : Hp} {v : V} {u : Value}, Inv (cxOf CX0 P w K mg base N qual (defScope st) f cdv A outer s H EN) [] σ' H' s' → RelV v u → Q v H' → CE outer P w H s Q u s' :=
    fun {σ' H' v u} J rv q => ⟨v, H', J.os, J.bare, J.base, J.hok, rv, q⟩
  cases fl with
  | ret u =>
    obtain ⟨v, σ', H', J, rv, q⟩ := hs
    exact fin J rv q
  | next =>
    obtain ⟨σ', H', J, q⟩ := hs
    exact fin (v := V.non) (u := Value.none) J rfl q
  | brk =>
    obtain ⟨_, _, _, q⟩ := hs
    exact False.elim q
  | cont =>
    obtain ⟨_, _, _, q⟩ := hs
    exact False.elim q
end

/-! ### what a def promises, over data -/
inductive Arg where
  | dat (d : D)
  | bor (xs : List D)
  | io (xs : List D)
abbrev DSp := List Arg → (EV → List D → Prop) → Prop
def isIo : Arg → Prop
  | .io _ => True
  | _ => False
def IoA (as : List Arg) (vs : List V) (a : Addr) : Prop := ∃ xs, as.head? = some (.io xs) ∧ vs.head? = some (.ref a)
def ArgR (K : PySem.W.Frag) (F H : Hp) (as : List Arg) (vs : List V) : Arg → V → Prop
  | .dat d, v => Dq K F v d
  | .bor xs, v => ∃ a ws, v = .ref a ∧ DqAll K F ws xs ∧ (SqL K F a ws ∨ (H a = some (.lst ws) ∧ ¬ IoA as vs a))
  | .io xs, v => ∃ a ws, v = .ref a ∧ H a = some (.lst ws) ∧ F a = none ∧ DqAll K F ws xs
def toSp (K : PySem.W.Frag) (S : DSp) : Sp := fun vs H Q _ => ∃ (F : Hp) (as : List Arg) (q : EV → List D → Prop), (LamX.Tabs (lamT K) H ∧ ∀ a o, F a = some o → NT o) ∧ Same F H ∧ Paired (ArgR K F H as vs) as vs ∧ (∀ a ∈ as.tail, ¬ isIo a) ∧ S as q ∧
  ∀ F' H' r v ys, Same F F' → Same F' H' → (∀ a o, H a = some o → NT o → ¬ IoA as vs a → H' a = some o) → LamX.Tabs (lamT K) H' ∧ (∀ a o, F' a = some o → NT o) → (∀ a, H a ≠ none → H' a ≠ none) → (∀ a, F a = none → H a ≠ none → F' a = none) →
    (∀ a, IoA as vs a → ∃ ws, H' a = some (.lst ws) ∧ DqAll K F' ws ys) → NewR K F' H H' r v → q r ys → Q v H'
def argDV : Arg → DV
  | .dat d => .dat d
  | .bor xs => .bor xs
  | .io xs => .io xs
def startD (n : Nat) (as : List Arg) : DSt := as.map argDV ++ List.replicate (n - as.length) .emp
def retW (τ : DSt) (ev : EV) (k : EV → Prop) : Prop := match ev with
  | .dat d => k (.dat d)
  | .tmp xs => k (.tmp xs)
  | .slot i => match τ[i]? with
    | some (.own xs) => k (.tmp xs)
    | some (.dat d) => k (.dat d)
    | _ => False
def ioK (as : List Arg) (τ : DSt) (k : List D → Prop) : Prop := match as with
  | .io _ :: _ => match τ[(0 : Nat)]? with
    | some (DV.io ys) => k ys
    | _ => False
  | _ => k []
def endsD (as : List Arg) (q : EV → List D → Prop) : DEnds where
  nx := fun τ => ioK as τ fun ys => q (.dat .none) ys
  rt := fun ev τ => retW τ ev fun r => ioK as τ fun ys => q r ys

section
variable {K : PySem.W.Frag} {F H : Hp}
theorem paired_ix {α β : Type} {G : α → β → Prop} : ∀ {l : List α} {m : List β}, Paired G l m → ∀ {i : Nat} {a : α}, l[i]? = some a → ∃ b, m[i]? = some b ∧ G a b
  | _, _, .nil, i, a, e => by simp at e
  | _, _, .cons (b := b) h _, 0, a, e => by
    simp at e
    subst e
    exact ⟨b, rfl, h⟩
  | _, _, .cons _ t, i + 1, a, e => by
    obtain ⟨b, h1, h2⟩ := paired_ix t (i := i) (a := a) (by simpa using e)
    exact ⟨b, by simpa using h1, h2⟩
theorem start_get {N : List Str} {vs : List V} {i : Nat} {v : V} (h : vs[i]? = some v) : (L2.start N vs)[i]? = some (some v) := by
  unfold L2.start
  have hi := (List.getElem?_eq_some_iff.mp h).1
  rw [List.getElem?_append_left (by simpa using hi), List.getElem?_map, h]
  rfl
theorem startD_get {n : Nat} {as : List Arg} {i : Nat} {d : DV} (h : (startD n as)[i]? = some d) : (∃ a, as[i]? = some a ∧ d = argDV a) ∨ d = .emp := by
  unfold startD at h
  by_cases hi : i < as.length
  · rw [List.getElem?_append_left (by simpa using hi), List.getElem?_map] at h
    cases e : as[i]? with
    | none => rw [e] at h; cases h
    | some a => rw [e] at h; cases h; exact .inl ⟨a, rfl, rfl⟩
  · rw [List.getElem?_append_right (by simpa using hi), List.getElem?_replicate] at h
    split at h
    · cases h; exact .inr rfl
    · cases h
theorem start_R {N : List Str} {as : List Arg} {vs : List V} (tb : LamX.Tabs (lamT K) H ∧ ∀ a o, F a = some o → NT o) (s : Same F H) (p : Paired (ArgR K F H as vs) as vs) (ht : ∀ a ∈ as.tail, ¬ isIo a) : R K ⟨H, F, IoA as vs⟩ F (startD N.length as) (L2.start N vs) H := by
  have hl : as.length = vs.length := Paired.length p
  have head : ∀ {i : Nat} {xs : List D}, as[i]? = some (.io xs) → i = 0 := fun {i xs} h => by
    cases i with
    | zero => rfl
    | succ i =>
      cases as with
      | nil => simp at h
      | cons a r => exact absurd (show isIo (.io xs) from trivial) (ht _ (List.mem_of_getElem? (i := i) (by simpa using h)))
  have lst : ∀ {i : Nat}, Lst (startD N.length as)[i]? → ∃ xs, as[i]? = some (.io xs) := fun {i} ⟨xs, h⟩ => by
    rcases h with h | h
    · rcases startD_get h with ⟨a, e, z⟩ | z
      · cases a <;> cases z
      · cases z
    · rcases startD_get h with ⟨a, e, z⟩ | z
      · cases a with
        | io ys => exact ⟨ys, e⟩
        | _ => cases z
      · cases z
  refine ⟨s, Same.refl _, by unfold startD L2.start; simp [hl], fun i d hd => ?_, fun i j a _ _ h3 h4 => ?_, fun a o h _ _ => h, fun a h => h, fun a h => .inl h, fun a ⟨xs, h1, h2⟩ => ?_, tb.1, tb.2⟩
  · rcases startD_get hd with ⟨a, e, rfl⟩ | rfl
    · obtain ⟨v, hv, ha⟩ := paired_ix p e
      rw [start_get hv]
      cases a with
      | dat d => exact ⟨v, rfl, ha⟩
      | bor xs =>
        obtain ⟨b, ws, rfl, h1, h2⟩ := ha
        exact ⟨b, ws, rfl, h1, h2⟩
      | io xs =>
        obtain ⟨b, ws, rfl, h1, h2, h3⟩ := ha
        have z := head e
        subst z
        exact ⟨b, ws, rfl, h1, h2, ⟨xs, by rw [List.head?_eq_getElem?]; exact e, by rw [List.head?_eq_getElem?]; exact hv⟩, h3⟩
    · trivial
  · obtain ⟨xs, h3⟩ := lst h3
    obtain ⟨ys, h4⟩ := lst h4
    rw [head h3, head h4]
  · obtain ⟨v, hv, ha⟩ := paired_ix p (i := 0) (by rw [← List.head?_eq_getElem?]; exact h1)
    rw [List.head?_eq_getElem?, hv] at h2
    cases h2
    obtain ⟨b, ws, e, q1, q2, _⟩ := ha
    cases e
    exact ⟨q2, some_ne q1⟩
end

section
variable {P : Program} {w : World} {K : PySem.W.Frag} {mg : Str → Option Value} {base : Heap}
theorem fn_d {x qual : Str} {st : Stmt} {f : Addr} {fd : FuncData} {N ps : List Str} {k : Nat} (Fn : Fun K x qual st f fd) (S : FnScope N ps (defScope st)) (sp : DSp) (len : ∀ as q, sp as q → as.length = ps.length) (t : DTS)
    (hd : ∀ (cdv : Value) (A : Around) (outer : List Env) (s : Shared) (H : Hp), fd.code = cdv → RoomG k (A.deeper (PyProof.Rows.envOfC qual (defScope st) s.heap.objs.size f cdv)) →
      DSs (cxOf CX0 P w K mg base N qual (defScope st) f cdv A outer s H EN).nox (defBody st) t)
    (hb : ∀ as q, sp as q → t (endsD as q) (startD N.length as)) : FnG P w K mg base (k + 1) f fd ps (toSp K sp) := by
  refine fn_g Fn S (fun vs H Q E h => ?_) (fun cdv A outer s H vs Q hc hr h => ?_)
  · obtain ⟨F, as, q, h0, h1, h2, h3, h4, _⟩ := h
    rw [← Paired.length h2]
    exact len as q h4
  · obtain ⟨F, as, q, h0, h1, h2, h3, h4, h5⟩ := h
    refine ⟨_, hd cdv A outer s H hc hr, ?_⟩
    refine ⟨⟨H, F, IoA as vs⟩, F, _, endsD as q, start_R h0 h1 h2 h3, hb as q h4, ?_⟩
    -- how it ends
    have io : ∀ {F' H' : Hp} {τ : DSt} {σ : L2.St} {k : List D → Prop}, R K ⟨H, F, IoA as vs⟩ F' τ σ H' → ioK as τ k → ∃ ys, k ys ∧ ∀ a, IoA as vs a → ∃ ws, H' a = some (.lst ws) ∧ DqAll K F' ws ys := fun {F' H' τ σ k} r h => by
      match as, r, h with
      | .io xs :: as, r, h =>
        have h : (match τ[(0 : Nat)]? with | some (DV.io ys) => k ys | _ => False) := h
        cases e : τ[(0 : Nat)]? with
        | none => rw [e] at h; exact h.elim
        | some d =>
          rw [e] at h
          cases d with
          | io ys =>
            have sl := r.slot 0 _ e
            obtain ⟨a, ws, _, q1, _, q3, q4⟩ := sl
            refine ⟨ys, h, fun b hb => ?_⟩
            obtain ⟨_, _, z1⟩ := q3
            obtain ⟨_, _, z2⟩ := hb
            rw [z1] at z2
            cases z2
            exact ⟨ws, q1, q4⟩
          | _ => exact h.elim
      | [], r, h => exact ⟨[], h, fun a ⟨_, z, _⟩ => by cases z⟩
      | .dat d :: as, r, h => exact ⟨[], h, fun a ⟨_, z, _⟩ => by cases z⟩
      | .bor d :: as, r, h => exact ⟨[], h, fun a ⟨_, z, _⟩ => by cases z⟩
    have nw : ∀ {F' H' : Hp} {τ : DSt} {σ : L2.St}, R K ⟨H, F, IoA as vs⟩ F' τ σ H' → ∀ a, F a = none → H a ≠ none → F' a = none := fun {F' H' τ σ} r a x1 x2 => none_of fun z => by
      rcases r.froz a z with y | y
      · exact y x1
      · exact x2 y
    refine ⟨fun F' τ σ H' r h => ?_, fun F' τ σ H' ev v r e h => ?_, fun F' τ σ H' r h => h.elim, fun F' τ σ H' r h => h.elim⟩
    · obtain ⟨ys, hq, hi⟩ := io r h
      exact h5 F' H' (.dat .none) .non ys r.f0 r.sub r.frame ⟨r.tabs, r.fnt⟩ r.dom (nw r) hi .non hq
    · have h : retW τ ev fun r => ioK as τ fun ys => q r ys := h
      have : ∃ rv, NewR K F' H H' rv v ∧ ioK as τ fun ys => q rv ys := by
        match ev, e, h with
        | .dat d, e, h => exact ⟨.dat d, e, h⟩
        | .tmp xs, e, h =>
          obtain ⟨a, ws, e0, q1, q2, q3, q4, q5, q6⟩ := e
          exact ⟨.tmp xs, ⟨a, ws, e0, q1, q2, q3, q6⟩, h⟩
        | .slot i, e, h =>
          have h : (match τ[i]? with | some (.own xs) => ioK as τ fun ys => q (.tmp xs) ys | some (.dat d) => ioK as τ fun ys => q (.dat d) ys | _ => False) := h
          obtain ⟨e1, d, e2, e3⟩ := e
          rw [e2] at h
          have sl := r.slot i d e2
          cases d with
          | own xs =>
            obtain ⟨a, ws, e0, q1, q2, q3, q4⟩ := sl
            rw [e1] at e0
            cases e0
            exact ⟨.tmp xs, ⟨a, ws, rfl, q1, q2, q3, q4⟩, h⟩
          | dat d =>
            obtain ⟨y, e0, q1⟩ := sl
            rw [e1] at e0
            cases e0
            exact ⟨.dat d, q1, h⟩
          | _ => exact h.elim
      obtain ⟨rv, n, h⟩ := this
      obtain ⟨ys, hq, hi⟩ := io r h
      exact h5 F' H' rv v ys r.f0 r.sub r.frame ⟨r.tabs, r.fnt⟩ r.dom (nw r) hi n hq
end

/-! ### calls -/
def listW : D → (List D → Prop) → Prop
  | .list xs, k => k xs
  | _, _ => False
/-- how values go to parameters: true: only read -/
def passW : List Bool → List EV → DSt → (List Arg → DSt → Prop) → Prop
  | [], [], τ, q => q [] τ
  | false :: ms, e :: es, τ, q => frz τ e fun d τ1 => passW ms es τ1 fun as τ2 => q (.dat d :: as) τ2
  | true :: ms, e :: es, τ, q => listW (val τ e) fun xs => passW ms es τ fun as τ2 => q (.bor xs :: as) τ2
  | _, _, _, _ => False
def noB : List Bool → List EV → Nat → Bool
  | true :: ms, .slot j :: es, i => (j != i) && noB ms es i
  | _ :: ms, _ :: es, i => noB ms es i
  | _, _, _ => true
section
variable {K : PySem.W.Frag} {Z : Fz} {H Fb Hb : Hp} {τb : DSt} {σ : L2.St}
def PassR (K : PySem.W.Frag) (F H : Hp) (σ : L2.St) (i0 : Nat) (τ' : DSt) : Arg → V → Prop
  | .dat d, v => Dq K F v d
  | .bor xs, v => ∃ a ws, v = .ref a ∧ DqAll K F ws xs ∧ (SqL K F a ws ∨ (H a = some (.lst ws) ∧ (Lst τ'[i0]? → σ[i0]? ≠ some (some (.ref a)))))
  | .io _, _ => False
theorem PassR.mono {F F' : Hp} {i0 : Nat} {τ' τ'' : DSt} (s : Same F F') (l : Lst τ''[i0]? → Lst τ'[i0]?) : ∀ {a : Arg} {v : V}, PassR K F H σ i0 τ' a v → PassR K F' H σ i0 τ'' a v
  | .dat d, v, h => dp_mono s d v h
  | .bor xs, v, ⟨a, ws, e, h1, h2⟩ => ⟨a, ws, e, dpAll_mono s _ _ h1, h2.imp (fun z => s.seq z) fun ⟨z1, z2⟩ => ⟨z1, fun z => z2 (l z)⟩⟩
  | .io _, _, h => h.elim
theorem pass_ok (i0 : Nat) : ∀ {ws : List (EV × V)} {ms : List Bool} {F : Hp} {τ : DSt} {q : List Arg → DSt → Prop}, R K Z F τ σ H → Gr Fb Hb τb σ F H τ → EVs K Z Hb F H τ σ ws → noB ms (ws.map (·.1)) i0 = true → passW ms (ws.map (·.1)) τ q →
    ∃ F' τ' as, R K Z F' τ' σ H ∧ Gr Fb Hb τb σ F' H τ' ∧ Paired (PassR K F' H σ i0 τ') as (ws.map (·.2)) ∧ q as τ' ∧ Same F F' ∧ (∀ i : Nat, Lst τ'[i]? → Lst τ[i]?)
  | [], [], F, τ, q, r, g, _, _, h => ⟨F, τ, [], r, g, .nil, h, Same.refl _, fun _ h => h⟩
  | [], false :: _, F, τ, q, r, g, _, _, h => (show False from h).elim
  | [], true :: _, F, τ, q, r, g, _, _, h => (show False from h).elim
  | _ :: _, [], F, τ, q, r, g, _, _, h => (show False from h).elim
  | (e, v) :: ws, false :: ms, F, τ, q, r, g, ev, nb, h => by
    have h : frz τ e fun d τ1 => passW ms (ws.map (·.1)) τ1 fun as τ2 => q (.dat d :: as) τ2 := h
    have nb : noB ms (ws.map (·.1)) i0 = true := by
      cases e <;> exact nb
    obtain ⟨F1, τ1, d, r1, g1, s1, p1, h1, lv1, l1, nw1⟩ := frz_ok r g (ev.1 _ List.mem_cons_self) h
    have pw := List.pairwise_cons.mp ev.2
    have ev1 : EVs K Z Hb F1 H τ1 σ ws := ⟨fun p hp => evr_frz (ev.1 p (List.mem_cons_of_mem _ hp)) s1 lv1 l1 nw1 (pw.1 p hp), pw.2⟩
    obtain ⟨F2, τ2, as, r2, g2, p2, h2, s2, l2⟩ := pass_ok i0 r1 g1 ev1 nb h1
    exact ⟨F2, τ2, .dat d :: as, r2, g2, .cons (dp_mono s2 _ _ p1) p2, h2, s1.trans s2, fun i x => l1 i (l2 i x)⟩
  | (e, v) :: ws, true :: ms, F, τ, q, r, g, ev, nb, h => by
    have h : listW (val τ e) fun xs => passW ms (ws.map (·.1)) τ fun as τ2 => q (.bor xs :: as) τ2 := h
    have pw := List.pairwise_cons.mp ev.2
    have ev0 := ev.1 _ List.mem_cons_self
    have ev1 : EVs K Z Hb F H τ σ ws := ⟨fun p hp => ev.1 p (List.mem_cons_of_mem _ hp), pw.2⟩
    obtain ⟨nb0, nb1⟩ : (∀ j, e = .slot j → j ≠ i0) ∧ noB ms (ws.map (·.1)) i0 = true := by
      cases e with
      | dat d => exact ⟨fun j z => (nomatch z), nb⟩
      | tmp d => exact ⟨fun j z => (nomatch z), nb⟩
      | slot j =>
        have nb : ((j != i0) && noB ms (ws.map (·.1)) i0) = true := nb
        rw [Bool.and_eq_true] at nb
        exact ⟨fun k z => by cases z; simpa using nb.1, nb.2⟩
    obtain ⟨xs, ex, h⟩ : ∃ xs, val τ e = .list xs ∧ passW ms (ws.map (·.1)) τ fun as τ2 => q (.bor xs :: as) τ2 := by
      revert h
      cases val τ e with
      | list xs => exact fun h => ⟨xs, rfl, h⟩
      | _ => exact fun h => (show False from h).elim
    have P : PassR K F H σ i0 τ (.bor xs) v := by
      have V := r.val ev0
      rw [ex] at V
      cases e with
      | dat d =>
        have ex : d = .list xs := ex
        subst ex
        have ev0 : Dq K F v (.list xs) := ev0
        cases ev0 with
        | lst h1 h2 => exact ⟨_, _, rfl, h2, .inl h1⟩
      | tmp ys =>
        obtain ⟨a, us, e0, q1, q2, q3, q4, q5, q6⟩ := ev0
        have ex : PyData.list ys = .list xs := ex
        cases ex
        exact ⟨a, us, e0, q6, .inr ⟨q1, fun l z => q5 ⟨i0, z, l⟩⟩⟩
      | slot j =>
        have ne := nb0 j rfl
        obtain ⟨e1, d, e2, e3⟩ := ev0
        have sl := r.slot j d e2
        have ex : dvD τ[j]? = .list xs := ex
        rw [e2] at ex
        cases d with
        | emp => exact absurd rfl e3
        | dat d =>
          have ex : d = .list xs := ex
          subst ex
          obtain ⟨x, e0, p⟩ := sl
          rw [e1] at e0
          cases e0
          cases p with
          | lst h1 h2 => exact ⟨_, _, rfl, h2, .inl h1⟩
        | own ys =>
          have ex : PyData.list ys = .list xs := ex
          cases ex
          obtain ⟨a, us, e0, q1, q2, q3, q4⟩ := sl
          rw [e1] at e0
          cases e0
          exact ⟨a, us, rfl, q4, .inr ⟨q1, fun l z => ne (r.apart j i0 a e1 z ⟨xs, by rw [e2]; exact .inl rfl⟩ l)⟩⟩
        | io ys =>
          have ex : PyData.list ys = .list xs := ex
          cases ex
          obtain ⟨a, us, e0, q1, q2, q3, q4⟩ := sl
          rw [e1] at e0
          cases e0
          exact ⟨a, us, rfl, q4, .inr ⟨q1, fun l z => ne (r.apart j i0 a e1 z ⟨xs, by rw [e2]; exact .inr rfl⟩ l)⟩⟩
        | bor ys =>
          have ex : PyData.list ys = .list xs := ex
          cases ex
          obtain ⟨a, us, e0, q1, q2⟩ := sl
          rw [e1] at e0
          cases e0
          refine ⟨a, us, rfl, q1, ?_⟩
          rcases q2 with q2 | ⟨q2, q3⟩
          · exact .inl q2
          · refine .inr ⟨r.frame _ _ q2 nt_lst q3, fun l z => ?_⟩
            obtain ⟨zs, l⟩ := l
            rcases l with l | l
            · obtain ⟨b, _, y0, _, _, y3, _⟩ := r.slot i0 _ l
              rw [z] at y0; cases y0
              rw [q2] at y3; cases y3
            · obtain ⟨b, _, y0, _, _, y3, _⟩ := r.slot i0 _ l
              rw [z] at y0; cases y0
              exact q3 y3
    obtain ⟨F2, τ2, as, r2, g2, p2, h2, s2, l2⟩ := pass_ok i0 r g ev1 nb1 h
    exact ⟨F2, τ2, .bor xs :: as, r2, g2, .cons (P.mono s2 (l2 i0)) p2, h2, s2, l2⟩
end

theorem pass_noio {K : PySem.W.Frag} {F H : Hp} {σ : L2.St} {i0 : Nat} {τ' : DSt} : ∀ {as : List Arg} {vs : List V}, Paired (PassR K F H σ i0 τ') as vs → ∀ a ∈ as, ¬ isIo a
  | _, _, .nil, a, z, _ => nomatch z
  | .dat d :: _, _, .cons h t, a, hb, y => by
    rcases List.mem_cons.mp hb with rfl | hb
    · exact y
    · exact pass_noio t a hb y
  | .bor d :: _, _, .cons h t, a, hb, y => by
    rcases List.mem_cons.mp hb with rfl | hb
    · exact y
    · exact pass_noio t a hb y
  | .io d :: _, _, .cons h t, a, hb, y => h.elim

section
variable {X : Cx} {k : Nat} {f : Addr} {fd : FuncData} {ps : List Str} {S : DSp} {x : Str} {p pos : Pos} {e : Expr} {es : List Expr} {ta : DTA}
/-- a call whose list arguments are at most read -/
def dCall (ms : List Bool) (S : DSp) (t : DTA) : DTE := fun τ q => t τ fun es τ1 => passW ms es τ1 fun as τ2 => S as fun r _ => q r τ2
theorem de_call {ms : List Bool} (F : FnG X.prog X.w X.K X.mg X.base k f fd ps (toSp X.K S)) (hr : RoomG k X.A) (hg : Gl X x) (hm : X.mg x = some (.ref f)) (hk : PySem.W.keepIn X.K (.ref f) = true) (hb : Binds X.K fd ps [])
    (ha : DA X (e :: es) ta) (hdb : (x == ("__debug__" : Str)) = false := by decide) (he : starEach (e :: es) X.env = (false, eval e X.env) :: starEach es X.env := by rfl) (hpl : (backTo pos (starEach es X.env)).any (·.1) = false := by rfl) :
    DE X (.Call (.Name x p) (e :: es) [] pos) (dCall ms S ta) := by
  refine pe_imp (pe_callG F hr hg hm hk hb ha hdb he hpl) fun σ H Q ⟨Z, F, τ, q, r, ht, k⟩ => ?_
  refine ⟨Z, F, τ, _, r, ht, fun F1 τ1 H1 ws r1 g1 e1 h1 => ?_⟩
  have nb : ∀ {ms : List Bool} {ws : List (EV × V)}, (∀ p ∈ ws, EVR X.K Z H F1 H1 τ1 σ p.1 p.2) → noB ms (ws.map (·.1)) σ.length = true := fun {ms ws} => by
    induction ws generalizing ms with
    | nil => intro _; cases ms with
      | nil => rfl
      | cons b ms => cases b <;> rfl
    | cons w ws ih =>
      intro h
      cases ms with
      | nil => rfl
      | cons b ms =>
        have ih := ih (ms := ms) fun p hp => h p (List.mem_cons_of_mem _ hp)
        obtain ⟨ev, v⟩ := w
        cases b with
        | false => cases ev <;> exact ih
        | true =>
          cases ev with
          | slot j =>
            show ((j != σ.length) && noB ms (ws.map (·.1)) σ.length) = true
            have z := (h _ List.mem_cons_self).1
            have : j < σ.length := (List.getElem?_eq_some_iff.mp z).1
            rw [ih, Bool.and_true]
            simp
            omega
          | _ => exact ih
  obtain ⟨F2, τ2, as, r2, g2, p2, h2, s2, l2⟩ := pass_ok σ.length r1 g1 e1 (nb e1.1) h1
  have noio := @pass_noio X.K F2 H1 σ σ.length τ2
  have nIo : ∀ {vs : List V} a, ¬ IoA as vs a := fun {vs} a ⟨xs, z, _⟩ => noio p2 (.io xs) (by
    rw [List.head?_eq_getElem?] at z
    exact List.mem_of_getElem? z) trivial
  refine ⟨F2, as, _, ⟨r2.tabs, r2.fnt⟩, r2.sub, ?_, fun a ha => noio p2 a (List.mem_of_mem_tail ha), h2, fun F' H' rv v ys s1 s2 s3 tb dm n _ nr hq => ?_⟩
  · refine L2.Paired.mapP p2 fun a b h => ?_
    cases a with
    | dat d => exact h
    | io xs => exact h.elim
    | bor xs =>
      obtain ⟨a, ws, e, h1, h2⟩ := h
      exact ⟨a, ws, e, h1, h2.imp id fun z => ⟨z.1, nIo a⟩⟩
  · obtain ⟨r3, g3, e3⟩ := bridgeN r2 g2 s1 s2 (fun a o h t => s3 a o h t (nIo a)) dm tb.1 (fun a z1 z2 => ⟨none_of fun z3 => z2 (n a z1 z3), tb.2 a⟩) nr
    exact k F' τ2 H' rv v r3 g3 e3 hq
/-- a call whose first argument is a name's list, changed in place -/
def dCallIo (i : Nat) (ms : List Bool) (S : DSp) (t : DTA) : DTE := fun τ q => lstW τ[i]? fun _ _ => t τ fun es τ1 => match es with
  | .slot j :: es => j = i ∧ noB ms es i = true ∧ passW ms es τ1 fun as τ2 => lstW τ2[i]? fun mk xs => S (.io xs :: as) fun r ys => q r (τ2.set i (mk ys))
  | _ => False
theorem de_callIo {i : Nat} {ms : List Bool} (F : FnG X.prog X.w X.K X.mg X.base k f fd ps (toSp X.K S)) (hr : RoomG k X.A) (hg : Gl X x) (hm : X.mg x = some (.ref f)) (hk : PySem.W.keepIn X.K (.ref f) = true) (hb : Binds X.K fd ps [])
    (ha : DA X (e :: es) ta) (hdb : (x == ("__debug__" : Str)) = false := by decide) (he : starEach (e :: es) X.env = (false, eval e X.env) :: starEach es X.env := by rfl) (hpl : (backTo pos (starEach es X.env)).any (·.1) = false := by rfl) :
    DE X (.Call (.Name x p) (e :: es) [] pos) (dCallIo i ms S ta) := by
  refine pe_imp (pe_callG F hr hg hm hk hb ha hdb he hpl) fun σ H Q ⟨Z, F, τ, q, r, ht, k⟩ => ?_
  obtain ⟨_, _, _, _, ht⟩ := lstW_of ht
  refine ⟨Z, F, τ, _, r, ht, fun F1 τ1 H1 ws r1 g1 e1 h1 => ?_⟩
  match ws, e1, h1 with
  | (.slot j, v0) :: ws, e1, h1 =>
    obtain ⟨ej, nb, h1⟩ := h1
    subst ej
    have pw := List.pairwise_cons.mp e1.2
    obtain ⟨F2, τ2, as, r2, g2, p2, h2, s2, l2⟩ := pass_ok j r1 g1 ⟨fun p hp => e1.1 p (List.mem_cons_of_mem _ hp), pw.2⟩ nb h1
    obtain ⟨mk, xs, hm, ho, h2⟩ := lstW_of h2
    obtain ⟨a, us, q0, q1, q2, q3⟩ := slot_lst r2 hm ho
    have z := (e1.1 _ List.mem_cons_self).1
    have z : σ[j]? = some (some v0) := z
    rw [q0] at z
    cases z
    have lj : Lst τ2[j]? := by rw [ho]; exact lst_mk hm
    have ioa : ∀ {b : Addr}, IoA (.io xs :: as) (.ref a :: ws.map (·.2)) b ↔ b = a := fun {b} => ⟨fun ⟨_, _, z⟩ => by cases z; rfl, fun z => ⟨xs, rfl, by rw [z]; rfl⟩⟩
    have noio := @pass_noio X.K F2 H1 σ j τ2
    refine ⟨F2, .io xs :: as, _, ⟨r2.tabs, r2.fnt⟩, r2.sub, .cons ⟨a, us, rfl, q1, q2, q3⟩ ?_, noio p2, h2, fun F' H' rv v ys s1 s2 s3 tb dm n io nr hq => ?_⟩
    · refine L2.Paired.mapP p2 fun b c h => ?_
      cases b with
      | dat d => exact h
      | io xs => exact h.elim
      | bor zs =>
        obtain ⟨b, ws', e, h1, h2⟩ := h
        refine ⟨b, ws', e, h1, h2.imp id fun z => ⟨z.1, fun y => ?_⟩⟩
        obtain ⟨_, _, y⟩ := y
        cases y
        exact z.2 lj q0
    · obtain ⟨wsn, w1, w2⟩ := io a (ioa.mpr rfl)
      have fa : F' a = none := n a q2 (some_ne q1)
      -- first all but the list, then the list
      have t1 : Same F' (upd H' a (.lst us)) := fun b o hb => by rw [upd_ne (ne_of_none hb fa)]; exact s2 _ _ hb
      have t2 : ∀ b o, H1 b = some o → NT o → upd H' a (.lst us) b = some o := fun b o hb ht => by
        by_cases z : b = a
        · subst z; rw [upd_same, ← hb, q1]
        · rw [upd_ne z]; exact s3 b o hb ht fun y => z (ioa.mp y)
      have t4 : ∀ b, H1 b ≠ none → upd H' a (.lst us) b ≠ none := fun b hb => by
        by_cases z : b = a
        · subst z; rw [upd_same]; exact fun z => by cases z
        · rw [upd_ne z]; exact dm b hb
      have t5 : LamX.Tabs (lamT X.K) (upd H' a (.lst us)) := tabs_upd tb.1 fun u z => by rw [w1] at z; cases z; exact ⟨_, rfl⟩
      have t3 : Nw F2 F' H1 := fun b z1 z2 => ⟨none_of fun z3 => z2 (n b z1 z3), tb.2 b⟩
      have r3 := r2.moreN s1 t1 t2 t4 t5 t3
      have g3 := g2.trans (Gr.moreN (τ := τ2) (σ := σ) s1 t2 t4 t3)
      obtain ⟨r4, g4⟩ := r3.write hm ho q0 w2
      have eH : upd (upd H' a (.lst us)) a (.lst wsn) = H' := by
        rw [upd_upd]
        funext b
        by_cases z : b = a
        · subst z; rw [upd_same, w1]
        · rw [upd_ne z]
      rw [eH] at r4 g4
      refine k F' _ H' rv v r4 (g3.trans g4) ?_ hq
      cases rv with
      | slot i => exact nr.elim
      | dat d => exact nr
      | tmp zs =>
        obtain ⟨b, bs, e, b1, b2, b3, b4⟩ := nr
        refine ⟨b, bs, e, b1, b2, none_of fun z => r2.dom b z b3, none_of fun z => g2.dom b z b3, fun z => ?_, b4⟩
        have z := (g3.trans g4).own b z
        have z : Own τ σ b := z
        obtain ⟨_, z, _⟩ := own_some r z
        exact g2.dom b (some_ne z) b3
end
end DL
set_option Elab.async false
set_option linter.all false
set_option maxRecDepth 100000
set_option maxHeartbeats 4000000
namespace DL
open PySem L2

theorem OpR.imp {X : Cx} {f : Value → Value → Sem Value} {r r' : R2} (h : OpR X f r) (i : ∀ x y H Q, r' x y H Q → r x y H Q) : OpR X f r' :=
  fun pins s σ H x y v u Q I rx ry q => h pins s σ H x y v u Q I rx ry (i x y H Q q)
theorem CallR.imp {X : Cx} {f : Value} {r r' : List V → Hp → VK → Prop} (h : CallR X f r) (i : ∀ xs H Q, r' xs H Q → r xs H Q) : CallR X f r' :=
  fun pins s σ H xs us Q I rx q => h pins s σ H xs us Q I rx (i xs H Q q)
theorem UnR.imp {X : Cx} {f : Value → Sem Value} {r r' : V → Hp → VK → Prop} (h : UnR X f r) (i : ∀ x H Q, r' x H Q → r x H Q) : UnR X f r' :=
  fun pins s σ H x v Q I rx q => h pins s σ H x v Q I rx (i x H Q q)
theorem IxR.imp {X : Cx} {r r' : R2} (h : IxR X r) (i : ∀ x y H Q, r' x y H Q → r x y H Q) : IxR X r' :=
  fun value slice pins s σ H x y v u Q I rx ry q hs => h value slice pins s σ H x y v u Q I rx ry (i x y H Q q) hs
theorem SlR.imp {X : Cx} {r r' : V → Option Int → Option Int → Hp → VK → Prop} (h : SlR X r) (i : ∀ x l u H Q, r' x l u H Q → r x l u H Q) : SlR X r' :=
  fun pins s σ H x v vl vu lo hi sl Q I rx hs pl pu q => h pins s σ H x v vl vu lo hi sl Q I rx hs pl pu (i x lo hi H Q q)

/-! ### numbers and sequences -/
def strCat (x y : Str) : Str := x ++ y
def addB : B2 := fun a b q => match a, b with
  | .int i, .int j => q (.dat (.int (i + j)))
  | .str x, .str y => x.length + y.length ≤ sizeLine ∧ q (.dat (.str (strCat x y)))
  | .tuple xs, .tuple ys => xs.length + ys.length ≤ sizeLine ∧ q (.dat (.tuple (xs ++ ys)))
  | .list xs, .list ys => xs.length + ys.length ≤ sizeLine ∧ q (.tmp (xs ++ ys))
  | _, _ => False
def subB : B2 := fun a b q => match a, b with
  | .int i, .int j => q (.dat (.int (i - j)))
  | _, _ => False
def mulOk (i j : Int) : Prop := CMul i j ∨ CMulW i j
def mulB : B2 := fun a b q => match a, b with
  | .int i, .int j => mulOk i j ∧ q (.dat (.int (i * j)))
  | .tuple xs, .int k => (xs ≠ [] ∧ 2 ≤ k ∧ k ≤ 1000 ∧ xs.length ≤ 1000) ∧ q (.dat (.tuple (List.replicate k.toNat xs).flatten))
  | _, _ => False
def divOk (j : Int) : Prop := (0 < j ∧ j < 1073741824) ∨ (0 < j ∧ j.natAbs.log2 < 9000)
def fdivB : B2 := fun a b q => match a, b with
  | .int i, .int j => divOk j ∧ q (.dat (.int (i / j)))
  | _, _ => False
def modB : B2 := fun a b q => match a, b with
  | .int i, .int j => 0 < j ∧ q (.dat (.int (i % j)))
  | _, _ => False
def powOk (i j : Int) : Prop := 0 ≤ j ∧ ((i.natAbs.log2 + 1 : Nat) : Int) * j ≤ 2 ^ 27
def powB : B2 := fun a b q => match a, b with
  | .int i, .int j => powOk i j ∧ q (.dat (.int (i ^ j.toNat)))
  | _, _ => False
def negB : B1 := fun a q => match a with
  | .int i => q (.dat (.int (-i)))
  | _ => False
section
variable {X : Cx} {K : PySem.W.Frag} {F H : Hp} {q : EV → Prop} {Q : VK} {x y : V}
theorem op_catS : OpR X (binaryOp .Add) (fun x y H Q => ∃ l b xs zs, x = .ref l ∧ y = .ref b ∧ SqL X.K H l xs ∧ SqL X.K H b zs ∧ xs.length + zs.length ≤ sizeLine ∧ ∀ p, H p = none → Q (.ref p) (upd H p (.lst (xs ++ zs)))) := by
  intro pins s σ H x y v u Q I rx ry h
  obtain ⟨l, b, xs, zs, rfl, rfl, hH, hB, hz, q⟩ := h
  cases rx
  cases ry
  obtain ⟨its, r, p1, _⟩ := I.list hH
  obtain ⟨its2, r2, p2, _⟩ := I.list hB
  have hl := r.length
  have hl2 := r2.length
  obtain ⟨⟨cls, dd, data, sl⟩, ho, hc, n, hd⟩ := id p1.isList
  obtain ⟨⟨cls2, dd2, data2, sl2⟩, ho2, hc2, n2, hd2⟩ := id p2.isList
  simp only at hc hd hc2 hd2
  subst hc hd hc2 hd2
  refine concat_meets ⟨_, ho, rfl⟩ ⟨_, ho2, rfl⟩ noFill_list_add seq_list_add PySem.F.slot_list_add PySem.F.entry_list_add (PySem.F.args_list_add_2 _ _) (PyProof.Rows.list_addW l b its.toArray its2.toArray n n2 dd dd2 sl sl2 (by rw [List.size_toArray, List.size_toArray]; omega)) ⟨ho, ho2, ?_⟩
  have ea : its.toArray ++ its2.toArray = (its ++ its2).toArray := by simp
  rw [ea]
  exact ⟨.ref _, _, I.lnew (t' := s.toks) (r.append r2) (by rw [List.length_append]; omega), rfl, q _ I.fresh⟩
theorem lift_cases2 {B : B2} {f : Value → Value → Sem Value} (h : ∀ d1 d2, OpR X f fun x y H Q => ∃ F q, Same F H ∧ ValR X.K F H x d1 ∧ ValR X.K F H y d2 ∧ B d1 d2 q ∧ Post X.K F H q Q) : OpR X f (liftO2 X.K B) :=
  fun pins s σ H x y v u Q I rx ry ⟨F, d1, d2, q, hq⟩ => h d1 d2 pins s σ H x y v u Q I rx ry ⟨F, q, hq⟩
theorem op_never {f : Value → Value → Sem Value} {r : R2} (h : ∀ x y H Q, ¬ r x y H Q) : OpR X f r := fun pins s σ H x y v u Q I rx ry q => (h _ _ _ _ q).elim
theorem bo_add : OpR X (binaryOp .Add) (liftO2 X.K addB) := by
  refine lift_cases2 fun d1 d2 => ?_
  cases d1 with
  | int i =>
    cases d2 with
    | int j => exact OpR.imp op_add fun x y H Q ⟨F, q, s, v1, v2, h, P⟩ => ⟨i, j, v1.int, v2.int, P.dat s (.int _) h⟩
    | _ => exact op_never fun x y H Q ⟨F, q, s, v1, v2, h, P⟩ => h
  | str i =>
    cases d2 with
    | str j => exact OpR.imp op_add_str fun x y H Q ⟨F, q, s, v1, v2, h, P⟩ => ⟨i, j, v1.str, v2.str, h.1, P.dat s (.str _) h.2⟩
    | _ => exact op_never fun x y H Q ⟨F, q, s, v1, v2, h, P⟩ => h
  | tuple xs =>
    cases d2 with
    | tuple ys =>
      refine OpR.imp op_catA fun x y H Q ⟨F, q, s, v1, v2, h, P⟩ => ?_
      obtain ⟨a, vs, rfl, h1, h2⟩ := v1.tuple s
      obtain ⟨b, ws, rfl, h3, h4⟩ := v2.tuple s
      have vd1 : Dq X.K F (.ref a) (.tuple xs) := v1.frz
      have vd2 : Dq X.K F (.ref b) (.tuple ys) := v2.frz
      refine ⟨a, b, vs, ws, rfl, rfl, h1, h3, by rw [h2.len, h4.len]; exact h.1, fun z => ?_, fun z z' => ?_, fun _ _ p hp => ?_⟩
      · subst z
        cases h2
        exact P.dat s vd2 h.2
      · subst z'
        cases h4
        exact P.dat s vd1 (by have := h.2; rw [List.append_nil] at this; exact this)
      · exact P.tup s hp (DqAll.app h2 h4) h.2
    | _ => exact op_never fun x y H Q ⟨F, q, s, v1, v2, h, P⟩ => h
  | list xs =>
    cases d2 with
    | list ys =>
      refine OpR.imp op_catS fun x y H Q ⟨F, q, s, v1, v2, h, P⟩ => ?_
      obtain ⟨a, vs, rfl, h1, h2⟩ := v1.list s
      obtain ⟨b, ws, rfl, h3, h4⟩ := v2.list s
      exact ⟨a, b, vs, ws, rfl, rfl, h1, h3, by rw [h2.len, h4.len]; exact h.1, fun p hp => P.lst s hp (DqAll.app h2 h4) h.2⟩
    | _ => exact op_never fun x y H Q ⟨F, q, s, v1, v2, h, P⟩ => h
  | _ => exact op_never fun x y H Q ⟨F, q, s, v1, v2, h, P⟩ => h
theorem bo_int {op : Operator} {B : B2} {C : Int → Int → Prop} {g : Int → Int → Int} (h : OpR X (binaryOp op) (rI C fun i j => .int (g i j)))
    (hB : ∀ d1 d2 q, B d1 d2 q → ∃ i j, d1 = .int i ∧ d2 = .int j ∧ C i j ∧ q (.dat (.int (g i j)))) : OpR X (binaryOp op) (liftO2 X.K B) := by
  refine OpR.imp h fun x y H Q ⟨F, d1, d2, q, s, v1, v2, h, P⟩ => ?_
  obtain ⟨i, j, rfl, rfl, hc, hq⟩ := hB d1 d2 q h
  exact ⟨i, j, v1.int, v2.int, hc, P.dat s (.int _) hq⟩
theorem op_sub' : OpR X (binaryOp .Sub) (rI (fun _ _ => True) fun i j => .int (i - j)) := OpR.imp op_sub fun x y H Q ⟨i, j, h1, h2, _, h3⟩ => ⟨i, j, h1, h2, h3⟩
theorem bo_sub : OpR X (binaryOp .Sub) (liftO2 X.K subB) := bo_int op_sub' fun d1 d2 q h => by
  unfold subB at h
  split at h
  · exact ⟨_, _, rfl, rfl, trivial, h⟩
  · exact h.elim
theorem op_mulA : OpR X (binaryOp .Mult) (rI mulOk fun i j => .int (i * j)) := by
  intro pins s σ H x y v u Q I rx ry h
  obtain ⟨i, j, rfl, rfl, hc, q⟩ := h
  rcases hc with hc | hc
  · exact op_mul pins s σ H _ _ v u Q I rx ry ⟨i, j, rfl, rfl, hc, q⟩
  · exact op_mulW pins s σ H _ _ v u Q I rx ry ⟨i, j, rfl, rfl, hc, q⟩
theorem bo_mul : OpR X (binaryOp .Mult) (liftO2 X.K mulB) := by
  refine lift_cases2 fun d1 d2 => ?_
  cases d1 with
  | int i =>
    cases d2 with
    | int j => exact OpR.imp op_mulA fun x y H Q ⟨F, q, s, v1, v2, h, P⟩ => ⟨i, j, v1.int, v2.int, h.1, P.dat s (.int _) h.2⟩
    | _ => exact op_never fun x y H Q ⟨F, q, s, v1, v2, h, P⟩ => h
  | tuple xs =>
    cases d2 with
    | int k =>
      refine OpR.imp op_repT fun x y H Q ⟨F, q, s, v1, v2, h, P⟩ => ?_
      obtain ⟨a, vs, rfl, h1, h2⟩ := v1.tuple s
      obtain ⟨⟨c0, c1, c2, c3⟩, h⟩ := h
      exact ⟨a, k, vs, rfl, v2.int, h1, fun z => c0 (by subst z; cases h2; rfl), c1, c2, by rw [h2.len]; exact c3, fun p hp => P.tup s hp (DqAll.rep h2 _) h⟩
    | _ => exact op_never fun x y H Q ⟨F, q, s, v1, v2, h, P⟩ => h
  | _ => exact op_never fun x y H Q ⟨F, q, s, v1, v2, h, P⟩ => h
/-- [a, ..] * k -/
def dRepL (ta : DTA) (tb : DTE) : DTE := fun τ q => ta τ fun es τ1 => es.length ≤ sizeLine ∧ frzs es τ1 fun ds τ2 => tb τ2 fun eb τ3 => match val τ3 eb with
  | .int k => (-(2 ^ 63) ≤ k ∧ k < 2 ^ 63 ∧ ds.length * k.toNat ≤ sizeLine) ∧ q (.tmp (List.replicate k.toNat ds).flatten) τ3
  | _ => False
theorem de_repL {es : List Expr} {b : Expr} {ta : DTA} {tb : DTE} {p1 pos : Pos} (ha : DA X es ta) (hb : DE X b tb) : DE X (.BinOp (.List es p1) .Mult b pos) (dRepL ta tb) := by
  refine pe_imp (pe_op op_rep (pe_lst ha) hb) fun σ H Q ⟨Z, F, τ, q, r, ht, k⟩ => ?_
  refine ⟨Z, F, τ, _, r, ht, fun F1 τ1 H1 ws r1 g1 e1 h1 => ?_⟩
  obtain ⟨hl, h1⟩ := h1
  refine ⟨by simpa using hl, fun p hp => ?_⟩
  obtain ⟨F2, τ2, ds, r2, g2, p2, h2, s2, lv, ow, nw⟩ := frzs_ok r1 g1 e1 h1
  obtain ⟨r3, g3, e3⟩ := bridge (ev := .tmp ds) (v := .ref p) r2 g2 (Same.refl _) (r2.sub.trans (upd_same_of hp)) (upd_same_of hp) (fun a x1 x2 => absurd x1 x2) ⟨p, ws.map (·.2), rfl, upd_same, r2.sub.free hp, hp, p2⟩
  refine ⟨Z, F2, τ2, _, r3, h2, fun F4 τ4 H4 eb w r4 g4 e4 h4 => ?_⟩
  have e5 := e3.grow g4
  have V := r4.val e4
  revert h4 V
  cases val τ4 eb with
  | int k' =>
    intro h4 V
    obtain ⟨⟨c1, c2, c3⟩, h4⟩ := h4
    obtain ⟨p', vs, e0, q1, q2, q3, q4, q5, q6⟩ := e5
    cases e0
    refine ⟨p, k', vs, rfl, V.int, q1, c1, c2, by rw [q6.len]; exact c3, fun l hl => ?_⟩
    have P : Post X.K F4 H4 (fun ev => q ev τ4) Q := fun F' H' ev v s1 s2 s3 n nr hq => by
      obtain ⟨r6, g6, e6⟩ := bridge r4 (g3.trans g4) s1 s2 s3 n nr
      exact k F' τ4 H' ev v r6 g6 e6 hq
    exact P.lst r4.sub hl (DqAll.rep q6 _) h4
  | _ => exact fun h4 => h4.elim
theorem op_fdivA : OpR X (binaryOp .FloorDiv) (rI (fun _ j => divOk j) fun i j => .int (i / j)) := by
  intro pins s σ H x y v u Q I rx ry h
  obtain ⟨i, j, rfl, rfl, hc, q⟩ := h
  rcases hc with hc | hc
  · exact op_fdiv pins s σ H _ _ v u Q I rx ry ⟨i, j, rfl, rfl, hc, q⟩
  · exact op_fdivW pins s σ H _ _ v u Q I rx ry ⟨i, j, rfl, rfl, hc, q⟩
theorem bo_fdiv : OpR X (binaryOp .FloorDiv) (liftO2 X.K fdivB) := bo_int op_fdivA fun d1 d2 q h => by
  unfold fdivB at h
  split at h
  · exact ⟨_, _, rfl, rfl, h.1, h.2⟩
  · exact h.elim
theorem bo_mod : OpR X (binaryOp .Mod) (liftO2 X.K modB) := bo_int op_mod fun d1 d2 q h => by
  unfold modB at h
  split at h
  · exact ⟨_, _, rfl, rfl, h.1, h.2⟩
  · exact h.elim
theorem op_powA : OpR X (binaryOp .Pow) (rI powOk fun i j => .int (i ^ j.toNat)) := opI fun i j _ _ _ _ _ hc q => by
  refine PyProof.Rows.pow_int hc.1 ?_ q
  have h : Builtin.Int.intBits i ≤ i.natAbs.log2 + 1 := by
    unfold Builtin.Int.intBits
    split <;> omega
  have h2 : (Builtin.Int.intBits i : Int) * j ≤ ((i.natAbs.log2 + 1 : Nat) : Int) * j := Int.mul_le_mul_of_nonneg_right (by omega) hc.1
  exact Int.le_trans h2 hc.2
theorem bo_pow : OpR X (binaryOp .Pow) (liftO2 X.K powB) := bo_int op_powA fun d1 d2 q h => by
  unfold powB at h
  split at h
  · exact ⟨_, _, rfl, rfl, h.1, h.2⟩
  · exact h.elim
theorem uo_neg : UnR X (unaryOp .USub) (liftO1 X.K negB) := UnR.imp un_neg fun x H Q ⟨F, d, q, s, v, h, P⟩ => by
  cases d with
  | int i => exact ⟨i, v.int, P.dat s (.int _) h⟩
  | _ => exact (show False from h).elim
end
end DL
set_option Elab.async false
set_option linter.all false
set_option maxRecDepth 100000
set_option maxHeartbeats 400000
namespace DL
open PySem L2

/-! ### comparisons -/
@[irreducible] def strEq (x y : Str) : Bool := decide (x = y)
theorem strEq_self (x : Str) : strEq x x = true := by unfold strEq; simp
theorem strEq_ne {x y : Str} (h : x ≠ y) : strEq x y = false := by unfold strEq; simpa using h
theorem strEq_iff {x y : Str} : strEq x y = true ↔ x = y := by unfold strEq; simp
def eqW (d e : D) (q : Bool → Prop) : Prop := match d, e with
  | .int i, .int j => q (decide (i = j))
  | .str x, .str y => q (strEq x y)
  | .none, .int _ => q false
  | .int _, .none => q false
  | d, e => SeqAt.shaped d = true ∧ SeqAt.shaped e = true ∧ q (PyData.eqv d e)
theorem eqv_int (i j : Int) : PyData.eqv (.int i) (.int j) = decide (i = j) := by
  unfold PyData.eqv
  rw [Bool.beq_eq_decide_eq]
theorem eqW_of {d e : D} {q : Bool → Prop} (h : eqW d e q) : (∃ x y, d = .str x ∧ e = .str y ∧ q (strEq x y)) ∨ (SeqAt.shaped d = true ∧ SeqAt.shaped e = true ∧ q (PyData.eqv d e)) := by
  unfold eqW at h
  split at h
  · exact .inr ⟨rfl, rfl, by rw [eqv_int]; exact h⟩
  · exact .inl ⟨_, _, rfl, rfl, h⟩
  · exact .inr ⟨rfl, rfl, by unfold PyData.eqv; exact h⟩
  · exact .inr ⟨rfl, rfl, by unfold PyData.eqv; exact h⟩
  · exact .inr h
def eqB : B2 := fun d e q => eqW d e fun b => q (.dat (.bool b))
def neB : B2 := fun d e q => eqW d e fun b => q (.dat (.bool (!b)))
def ltB : B2 := fun a b q => match a, b with
  | .int i, .int j => q (.dat (.bool (decide (i < j))))
  | _, _ => False
def leB : B2 := fun a b q => match a, b with
  | .int i, .int j => q (.dat (.bool (decide (i ≤ j))))
  | _, _ => False
def gtB : B2 := fun a b q => match a, b with
  | .int i, .int j => q (.dat (.bool (decide (j < i))))
  | _, _ => False
def geB : B2 := fun a b q => match a, b with
  | .int i, .int j => q (.dat (.bool (decide (j ≤ i))))
  | _, _ => False
def isNone : D → Bool
  | .none => true
  | _ => false
def isB : B2 := fun a b q => match b with
  | .none => q (.dat (.bool (isNone a)))
  | .bool y => (match a with | .bool x => q (.dat (.bool (x == y))) | _ => False)
  | _ => False
def isNotB : B2 := fun a b q => match b with
  | .none => q (.dat (.bool (!isNone a)))
  | .bool y => (match a with | .bool x => q (.dat (.bool (!(x == y)))) | _ => False)
  | _ => False
section
variable {X : Cx}
theorem dec_strV {x y : Str} : decide (V.str x = V.str y) = strEq x y := by
  unfold strEq
  by_cases h : x = y
  · subst h; simp
  · rw [decide_eq_false h, decide_eq_false (fun z => h (by cases z; rfl))]
theorem co_eq {k : Nat} (hr : RoomG k X.A) : OpR X (compareOp .Eq) (liftO2 X.K eqB) := by
  refine OpR.imp ((op_eqD hr.room.units).or op_eq) fun x y H Q ⟨F, d1, d2, q, s, v1, v2, h, P⟩ => ?_
  rcases eqW_of h with ⟨a, b, rfl, rfl, hq⟩ | ⟨s1, s2, hq⟩
  · refine .inr ?_
    rw [v1.str, v2.str]
    exact ⟨rfl, by rw [dec_strV]; exact P.dat s (.bl _) hq⟩
  · exact .inl ⟨d1, d2, v1.dp s, v2.dp s, s1, s2, P.dat s (.bl _) hq⟩
theorem co_ne {k : Nat} (hr : RoomG k X.A) : OpR X (compareOp .NotEq) (liftO2 X.K neB) := by
  refine OpR.imp ((op_neD hr.room.units).or op_ne) fun x y H Q ⟨F, d1, d2, q, s, v1, v2, h, P⟩ => ?_
  rcases eqW_of h with ⟨a, b, rfl, rfl, hq⟩ | ⟨s1, s2, hq⟩
  · refine .inr ?_
    rw [v1.str, v2.str]
    exact ⟨rfl, by rw [dec_strV]; exact P.dat s (.bl _) hq⟩
  · exact .inl ⟨d1, d2, v1.dp s, v2.dp s, s1, s2, P.dat s (.bl _) hq⟩
theorem co_int {op : CmpOp} {B : B2} {g : Int → Int → Bool} (h : OpR X (compareOp op) (rI0 fun i j => .bl (g i j))) (hB : ∀ d1 d2 q, B d1 d2 q → ∃ i j, d1 = .int i ∧ d2 = .int j ∧ q (.dat (.bool (g i j)))) : OpR X (compareOp op) (liftO2 X.K B) := by
  refine OpR.imp h fun x y H Q ⟨F, d1, d2, q, s, v1, v2, h, P⟩ => ?_
  obtain ⟨i, j, rfl, rfl, hq⟩ := hB d1 d2 q h
  exact ⟨i, j, v1.int, v2.int, P.dat s (.bl _) hq⟩
theorem co_lt : OpR X (compareOp .Lt) (liftO2 X.K ltB) := co_int op_lt fun d1 d2 q h => by
  unfold ltB at h
  split at h
  · exact ⟨_, _, rfl, rfl, h⟩
  · exact h.elim
theorem co_le : OpR X (compareOp .LtE) (liftO2 X.K leB) := co_int op_le fun d1 d2 q h => by
  unfold leB at h
  split at h
  · exact ⟨_, _, rfl, rfl, h⟩
  · exact h.elim
theorem co_gt : OpR X (compareOp .Gt) (liftO2 X.K gtB) := co_int op_gt fun d1 d2 q h => by
  unfold gtB at h
  split at h
  · exact ⟨_, _, rfl, rfl, h⟩
  · exact h.elim
theorem co_ge : OpR X (compareOp .GtE) (liftO2 X.K geB) := co_int op_ge fun d1 d2 q h => by
  unfold geB at h
  split at h
  · exact ⟨_, _, rfl, rfl, h⟩
  · exact h.elim
theorem none_iff {K : PySem.W.Frag} {F H : Hp} {v : V} {d : D} (h : ValR K F H v d) : decide (v = V.non) = isNone d := by
  rcases h with h | ⟨a, vs, ys, rfl, rfl, h1, h2⟩
  · cases h <;> rfl
  · rfl
theorem dec_blb {i j : Bool} : decide (i = j) = (i == j) := by cases i <;> cases j <;> rfl
theorem co_is : OpR X (compareOp .Is) (liftO2 X.K isB) := by
  refine lift_cases2 fun d1 d2 => ?_
  cases d2 with
  | none => exact OpR.imp op_isN fun x y H Q ⟨F, q, s, v1, v2, h, P⟩ => ⟨v2.non, by rw [none_iff v1]; exact P.dat s (.bl _) h⟩
  | bool y =>
    cases d1 with
    | bool x => exact OpR.imp op_isBl fun x' y' H Q ⟨F, q, s, v1, v2, h, P⟩ => ⟨x, y, v1.bool, v2.bool, by rw [dec_blb]; exact P.dat s (.bl _) h⟩
    | _ => exact op_never fun x y H Q ⟨F, q, s, v1, v2, h, P⟩ => h
  | _ => exact op_never fun x y H Q ⟨F, q, s, v1, v2, h, P⟩ => h
theorem co_isnot : OpR X (compareOp .IsNot) (liftO2 X.K isNotB) := by
  refine lift_cases2 fun d1 d2 => ?_
  cases d2 with
  | none => exact OpR.imp op_notN fun x y H Q ⟨F, q, s, v1, v2, h, P⟩ => ⟨v2.non, by rw [none_iff v1]; exact P.dat s (.bl _) h⟩
  | bool y =>
    cases d1 with
    | bool x => exact OpR.imp op_notBl fun x' y' H Q ⟨F, q, s, v1, v2, h, P⟩ => ⟨x, y, v1.bool, v2.bool, by rw [dec_blb]; exact P.dat s (.bl _) h⟩
    | _ => exact op_never fun x y H Q ⟨F, q, s, v1, v2, h, P⟩ => h
  | _ => exact op_never fun x y H Q ⟨F, q, s, v1, v2, h, P⟩ => h

/-! ### items, slices -/
def ixB : B2 := fun a b q => match a, b with
  | .list xs, .int i => optW (atI xs i) fun d => q (.dat d)
  | .tuple xs, .int i => optW (atI xs i) fun d => q (.dat d)
  | _, _ => False
theorem atI_q {K : PySem.W.Frag} {F : Hp} {vs : List V} {xs : List D} {i : Int} {d : D} (h : DqAll K F vs xs) (e : atI xs i = some d) : ∃ v, atI vs i = some v ∧ Dq K F v d := by
  unfold atI at e ⊢
  rw [h.len]
  cases z : ixN xs.length i with
  | none => rw [z] at e; cases e
  | some j =>
    rw [z] at e
    exact h.get e
theorem io_ix : IxR X (liftO2 X.K ixB) := by
  refine IxR.imp (ix_list.or ix_tup) fun x y H Q ⟨F, d1, d2, q, s, v1, v2, h, P⟩ => ?_
  unfold ixB at h
  split at h
  · obtain ⟨a, vs, rfl, h1, h2⟩ := v1.list s
    obtain ⟨d, hd, hq⟩ := optW_of h
    obtain ⟨v, hv, hvd⟩ := atI_q h2 hd
    exact .inl ⟨a, vs, _, v, rfl, v2.int, h1, hv, P.dat s hvd hq⟩
  · obtain ⟨a, vs, rfl, h1, h2⟩ := v1.tuple s
    obtain ⟨d, hd, hq⟩ := optW_of h
    obtain ⟨v, hv, hvd⟩ := atI_q h2 hd
    exact .inr ⟨a, vs, _, v, rfl, v2.int, h1, hv, P.dat s hvd hq⟩
  · exact h.elim
def cutD (xs : List D) (lo hi : Option Int) : List D := (xs.drop (HT.sIx xs.length 0 lo)).take (HT.sIx xs.length xs.length hi - HT.sIx xs.length 0 lo)
def slB : D → Option Int → Option Int → (EV → Prop) → Prop := fun a l u q => match a with
  | .list xs => q (.tmp (cutD xs l u))
  | .tuple xs => q (.dat (.tuple (cutD xs l u)))
  | _ => False
theorem cut_q {K : PySem.W.Frag} {F : Hp} {vs : List V} {xs : List D} {l u : Option Int} (h : DqAll K F vs xs) : DqAll K F (cutV vs l u) (cutD xs l u) := by
  unfold cutV cutD
  rw [h.len]
  exact DqAll.take _ (DqAll.drop _ h)
theorem sl_any : SlR X (liftSl X.K slB) := by
  refine SlR.imp (sl_list.or sl_tupA) fun x l u H Q ⟨F, d, q, s, v, h, P⟩ => ?_
  unfold slB at h
  split at h
  · obtain ⟨a, vs, rfl, h1, h2⟩ := v.list s
    exact .inl ⟨a, vs, rfl, h1, fun p hp => P.lst s hp (cut_q h2) h⟩
  · rename_i xs
    obtain ⟨a, vs, rfl, h1, h2⟩ := v.tuple s
    refine .inr ⟨a, vs, rfl, h1, fun z => P.dat s v.frz ?_, fun _ p hp => P.tup s hp (cut_q h2) h⟩
    have : cutD xs l u = xs := by
      unfold cutD
      rw [← h2.len]
      obtain ⟨z1, z2⟩ := z
      rw [z1, z2, List.drop_zero, Nat.sub_zero, List.take_of_length_le (by rw [h2.len]; exact Nat.le_refl _)]
    rw [this] at h
    exact h
  · exact h.elim

/-! ### built-ins -/
def one (B : B1) : BN := fun ds q => match ds with
  | [d] => B d q
  | _ => False
def two (B : B2) : BN := fun ds q => match ds with
  | [d, e] => B d e q
  | _ => False
theorem one_of {K : PySem.W.Frag} {B : B1} {xs : List V} {H : Hp} {Q : VK} (h : liftON K (one B) xs H Q) : ∃ v F d q, xs = [v] ∧ Same F H ∧ ValR K F H v d ∧ B d q ∧ Post K F H q Q := by
  obtain ⟨F, ds, q, s, v, h, P⟩ := h
  cases v with
  | nil => exact (show False from h).elim
  | cons v t =>
    cases t with
    | nil => exact ⟨_, F, _, q, rfl, s, v, h, P⟩
    | cons _ _ => exact (show False from h).elim
theorem two_of {K : PySem.W.Frag} {B : B2} {xs : List V} {H : Hp} {Q : VK} (h : liftON K (two B) xs H Q) : ∃ v w F d e q, xs = [v, w] ∧ Same F H ∧ ValR K F H v d ∧ ValR K F H w e ∧ B d e q ∧ Post K F H q Q := by
  obtain ⟨F, ds, q, s, v, h, P⟩ := h
  cases v with
  | nil => exact (show False from h).elim
  | cons v t =>
    cases t with
    | nil => exact (show False from h).elim
    | cons w t =>
      cases t with
      | nil => exact ⟨_, _, F, _, _, q, rfl, s, v, w, h, P⟩
      | cons _ _ => exact (show False from h).elim
def lenB1 : B1 := fun d q => match d with
  | .list xs => q (.dat (.int (xs.length : Nat)))
  | .tuple xs => q (.dat (.int (xs.length : Nat)))
  | .str x => x.length ≤ sizeLine ∧ q (.dat (.int (x.length : Nat)))
  | _ => False
def lenB : BN := one lenB1
theorem cb_len : CallR X (.builtin "len") (liftON X.K lenB) := by
  refine CallR.imp call_len fun xs H Q h => ?_
  obtain ⟨v, F, d, q, rfl, s, v0, hb, P⟩ := one_of h
  clear h
  have h := hb
  cases d with
  | list ys =>
    obtain ⟨a, vs, e, h1, h2⟩ := v0.list s
    subst e
    have h : q (.dat (.int (ys.length : Nat))) := h
    rw [← h2.len] at h
    exact ⟨.ref a, vs.length, rfl, .inl ⟨vs, h1, rfl⟩, P.dat s (.int _) h⟩
  | tuple ys =>
    obtain ⟨a, vs, e, h1, h2⟩ := v0.tuple s
    subst e
    have h : q (.dat (.int (ys.length : Nat))) := h
    rw [← h2.len] at h
    exact ⟨.ref a, vs.length, rfl, .inr ⟨vs, h1, rfl⟩, P.dat s (.int _) h⟩
  | str x =>
    have h : x.length ≤ sizeLine ∧ q (.dat (.int (x.length : Nat))) := h
    exact ⟨.str x, x.length, by rw [v0.str], ⟨h.1, rfl⟩, P.dat s (.int _) h.2⟩
  | _ => exact (show False from h).elim
def absB1 : B1 := fun d q => match d with
  | .int i => q (.dat (.int (i.natAbs : Nat)))
  | _ => False
def absB : BN := one absB1
theorem cb_abs : CallR X (.builtin "abs") (liftON X.K absB) := by
  refine CallR.imp call_abs fun xs H Q h => ?_
  obtain ⟨v, F, d, q, rfl, s, v0, hb, P⟩ := one_of h
  clear h
  have h := hb
  cases d with
  | int i =>
    refine ⟨i, by rw [v0.int], ?_⟩
    have e : (if i < 0 then -i else i) = ((i.natAbs : Nat) : Int) := by split <;> omega
    rw [e]
    exact P.dat s (.int _) h
  | _ => exact (show False from h).elim
def max2B1 : B2 := fun d e q => match d, e with
  | .int i, .int j => q (.dat (.int (max i j)))
  | _, _ => False
def min2B1 : B2 := fun d e q => match d, e with
  | .int i, .int j => q (.dat (.int (min i j)))
  | _, _ => False
def max2B : BN := two max2B1
def min2B : BN := two min2B1
theorem cb_max2 (hc : X.calm = true) : CallR X (.builtin "max") (liftON X.K max2B) := by
  refine CallR.imp (call_max2 hc) fun xs H Q h => ?_
  obtain ⟨v, w, F, d, e, q, rfl, s, v0, w0, h, P⟩ := two_of h
  unfold max2B1 at h
  split at h
  · rename_i i j
    refine ⟨i, j, by rw [v0.int, w0.int], ?_⟩
    have e : (if j > i then j else i) = max i j := by split <;> omega
    rw [e]
    exact P.dat s (.int _) h
  · exact h.elim
theorem cb_min2 (hc : X.calm = true) : CallR X (.builtin "min") (liftON X.K min2B) := by
  refine CallR.imp (call_min2 hc) fun xs H Q h => ?_
  obtain ⟨v, w, F, d, e, q, rfl, s, v0, w0, h, P⟩ := two_of h
  unfold min2B1 at h
  split at h
  · rename_i i j
    refine ⟨i, j, by rw [v0.int, w0.int], ?_⟩
    have e : (if j < i then j else i) = min i j := by split <;> omega
    rw [e]
    exact P.dat s (.int _) h
  · exact h.elim
def intB1 : B1 := fun d q => match d with
  | .int i => q (.dat (.int i))
  | .bool b => q (.dat (.int (if b = true then 1 else 0)))
  | _ => False
def intB : BN := one intB1
theorem cb_int : CallR X (.type "int") (liftON X.K intB) := by
  refine CallR.imp call_int1 fun xs H Q h => ?_
  obtain ⟨v, F, d, q, rfl, s, v0, hb, P⟩ := one_of h
  clear h
  have h := hb
  cases d with
  | int i => exact .inl ⟨i, by rw [v0.int], P.dat s (.int _) h⟩
  | bool i => exact .inr ⟨i, by rw [v0.bool], P.dat s (.int _) h⟩
  | _ => exact (show False from h).elim
def tupleB1 : B1 := fun d q => match d with
  | .list xs => q (.dat (.tuple xs))
  | .tuple xs => q (.dat (.tuple xs))
  | _ => False
def tupleB : BN := one tupleB1
theorem cb_tuple : CallR X (.type "tuple") (liftON X.K tupleB) := by
  refine CallR.imp call_tuple_of fun xs H Q h => ?_
  obtain ⟨v, F, d, q, rfl, s, v0, hb, P⟩ := one_of h
  clear h
  have h := hb
  cases d with
  | list ys =>
    obtain ⟨a, vs, e, h1, h2⟩ := v0.list s
    subst e
    exact ⟨a, vs, rfl, .inl ⟨h1, fun l hl => P.tup s hl h2 h⟩⟩
  | tuple ys =>
    obtain ⟨a, vs, e, h1, h2⟩ := v0.tuple s
    subst e
    exact ⟨a, vs, rfl, .inr ⟨h1, P.dat s v0.frz h⟩⟩
  | _ => exact (show False from h).elim
def listB1 : B1 := fun d q => match d with
  | .list xs => q (.tmp xs)
  | .tuple xs => q (.tmp xs)
  | _ => False
def listB : BN := one listB1
theorem cb_list : CallR X (.type "list") (liftON X.K listB) := by
  refine CallR.imp call_list_of fun xs H Q h => ?_
  obtain ⟨v, F, d, q, rfl, s, v0, hb, P⟩ := one_of h
  clear h
  have h := hb
  cases d with
  | list ys =>
    obtain ⟨a, vs, e, h1, h2⟩ := v0.list s
    subst e
    exact ⟨a, vs, rfl, .inl h1, fun l hl => P.lst s hl h2 h⟩
  | tuple ys =>
    obtain ⟨a, vs, e, h1, h2⟩ := v0.tuple s
    subst e
    exact ⟨a, vs, rfl, .inr h1, fun l hl => P.lst s hl h2 h⟩
  | _ => exact (show False from h).elim
/-- lists of ints, of bools -/
def intsOf : List D → Option (List Int)
  | [] => some []
  | .int i :: r => (intsOf r).map (i :: ·)
  | _ :: _ => none
def boolsOf : List D → Option (List Bool)
  | [] => some []
  | .bool i :: r => (boolsOf r).map (i :: ·)
  | _ :: _ => none
theorem intsOf_map (ns : List Int) : intsOf (ns.map PyData.int) = some ns := by
  induction ns with
  | nil => rfl
  | cons n r ih => show (intsOf (r.map PyData.int)).map (n :: ·) = _; rw [ih]; rfl
theorem boolsOf_map (ns : List Bool) : boolsOf (ns.map PyData.bool) = some ns := by
  induction ns with
  | nil => rfl
  | cons n r ih => show (boolsOf (r.map PyData.bool)).map (n :: ·) = _; rw [ih]; rfl
theorem intsOf_eq : ∀ {ds : List D} {ns : List Int}, intsOf ds = some ns → ds = ns.map PyData.int
  | [], ns, h => by cases h; rfl
  | d :: ds, ns, h => by
    cases d with
    | int i =>
      have h : (intsOf ds).map (i :: ·) = some ns := h
      cases e : intsOf ds with
      | none => rw [e] at h; cases h
      | some ms => rw [e] at h; cases h; rw [intsOf_eq e]; rfl
    | _ => cases h
theorem boolsOf_eq : ∀ {ds : List D} {ns : List Bool}, boolsOf ds = some ns → ds = ns.map PyData.bool
  | [], ns, h => by cases h; rfl
  | d :: ds, ns, h => by
    cases d with
    | bool i =>
      have h : (boolsOf ds).map (i :: ·) = some ns := h
      cases e : boolsOf ds with
      | none => rw [e] at h; cases h
      | some ms => rw [e] at h; cases h; rw [boolsOf_eq e]; rfl
    | _ => cases h
theorem ints_q {K : PySem.W.Frag} {F : Hp} : ∀ {vs : List V} {ns : List Int}, DqAll K F vs (ns.map PyData.int) → vs = ns.map V.int
  | _, [], h => by cases h; rfl
  | _, n :: ns, h => by
    cases h with
    | cons h1 h2 => cases h1; rw [ints_q h2]; rfl
theorem bools_q {K : PySem.W.Frag} {F : Hp} : ∀ {vs : List V} {ns : List Bool}, DqAll K F vs (ns.map PyData.bool) → vs = ns.map V.bl
  | _, [], h => by cases h; rfl
  | _, n :: ns, h => by
    cases h with
    | cons h1 h2 => cases h1; rw [bools_q h2]; rfl
def sumB1 : B1 := fun d q => match d with
  | .list xs => optW (intsOf xs) fun ns => q (.dat (.int ns.sum))
  | .tuple xs => optW (intsOf xs) fun ns => q (.dat (.int ns.sum))
  | _ => False
def sumB : BN := one sumB1
theorem sumT_raw {prog : Program} {w : World} {A : Around} {E : Value → Shared → Prop} {s : Shared} {l : Addr} {its : List Value} {ns : List Int} {Q : Value → Shared → Prop} (hh : A.handled = none) (hl : s.heap.IsTuple l its.toArray) (hi : PyProof.Rows.IntsAre its ns)
    (h : ∀ h' tk t', (∀ b o, s.heap.get? b = some o → h'.get? b = some o) → Q (.int ns.sum t') { s with heap := h', toks := tk }) : wpAny (model prog w) A (call (.builtin "sum") [.ref l]) Q E s := by
  obtain ⟨xs, e⟩ := hi.allInts.items
  have hn : numsOf (intItems xs).toList = ns := by rw [← e]; exact hi.numsOf
  rw [nums_intItems] at hn
  rw [e] at hl
  refine PySem.W.ktm_sumG hh hl fun h' tk t' hk => ?_
  have := h h' tk t' hk
  rw [preSum_eq, List.take_of_length_le (by simp), hn]; exact this
theorem cr_sumT (hc : X.calm = true) : CallR X (.builtin "sum") (fun vs H Q => ∃ (a : Addr) (ns : List Int), vs = [V.ref a] ∧ SqT X.K H a (ns.map V.int) ∧ Q (.int ns.sum) H) := by
  intro pins s σ H vs us Q I r h
  obtain ⟨a, ns, rfl, hs, q⟩ := h
  obtain ⟨its, rv, hl, _⟩ := I.tuple hs
  rw [Vals.ref1 r]
  exact sumT_raw (I.ok.hd hc) (show s.heap.IsTuple a its.toArray from hl) rv.ints fun h' tk t' hk => ⟨.int _, H, I.kept hk, ⟨_, rfl⟩, q⟩
theorem cb_sum (hc : X.calm = true) : CallR X (.builtin "sum") (liftON X.K sumB) := by
  refine CallR.imp ((cr_sum hc).or (cr_sumT hc)) fun xs H Q h => ?_
  obtain ⟨v, F, d, q, rfl, s, v0, hb, P⟩ := one_of h
  clear h
  have h := hb
  cases d with
  | list ys =>
    obtain ⟨a, vs, e, h1, h2⟩ := v0.list s
    subst e
    obtain ⟨ns, e, hq⟩ := optW_of h
    rw [intsOf_eq e] at h2
    rw [ints_q h2] at h1
    exact .inl ⟨a, ns, rfl, h1, P.dat s (.int _) hq⟩
  | tuple ys =>
    obtain ⟨a, vs, e, h1, h2⟩ := v0.tuple s
    subst e
    obtain ⟨ns, e, hq⟩ := optW_of h
    rw [intsOf_eq e] at h2
    rw [ints_q h2] at h1
    exact .inr ⟨a, ns, rfl, h1, P.dat s (.int _) hq⟩
  | _ => exact (show False from h).elim
def allB1 : B1 := fun d q => match d with
  | .list xs => optW (boolsOf xs) fun bs => q (.dat (.bool (bs.all id)))
  | _ => False
def anyB1 : B1 := fun d q => match d with
  | .list xs => optW (boolsOf xs) fun bs => q (.dat (.bool (bs.any id)))
  | _ => False
def allB : BN := one allB1
def anyB : BN := one anyB1
theorem cb_all (hc : X.calm = true) : CallR X (.builtin "all") (liftON X.K allB) := by
  refine CallR.imp (cr_all hc) fun xs H Q h => ?_
  obtain ⟨v, F, d, q, rfl, s, v0, hb, P⟩ := one_of h
  clear h
  have h := hb
  cases d with
  | list ys =>
    obtain ⟨a, vs, e, h1, h2⟩ := v0.list s
    subst e
    obtain ⟨ns, e, hq⟩ := optW_of h
    rw [boolsOf_eq e] at h2
    rw [bools_q h2] at h1
    exact ⟨a, ns, rfl, h1, P.dat s (.bl _) hq⟩
  | _ => exact (show False from h).elim
theorem cb_any (hc : X.calm = true) : CallR X (.builtin "any") (liftON X.K anyB) := by
  refine CallR.imp (cr_any hc) fun xs H Q h => ?_
  obtain ⟨v, F, d, q, rfl, s, v0, hb, P⟩ := one_of h
  clear h
  have h := hb
  cases d with
  | list ys =>
    obtain ⟨a, vs, e, h1, h2⟩ := v0.list s
    subst e
    obtain ⟨ns, e, hq⟩ := optW_of h
    rw [boolsOf_eq e] at h2
    rw [bools_q h2] at h1
    exact ⟨a, ns, rfl, h1, P.dat s (.bl _) hq⟩
  | _ => exact (show False from h).elim
/-- repr: a text that is the same of the same data -/
@[irreducible] def reprS (d : D) : Str := d.shown
def reprOk (d : D) : Prop := d.showable = true ∧ d.hasDict = false ∧ d.shown.length ≤ sizeLine ∧ d.depth ≤ 8
def reprB : BN := one fun d q => reprOk d ∧ q (.dat (.str (reprS d)))
theorem cr_repr {k : Nat} (hr : RoomG k X.A) : CallR X (.builtin "repr") (fun xs H Q => ∃ v d, xs = [v] ∧ Dp X.K H v d ∧ reprOk d ∧ Q (.str (reprS d)) H) := by
  intro pins s σ H xs us Q I r h
  obtain ⟨v, d, rfl, hv, ⟨h1, h2, h3, h4⟩, q⟩ := h
  obtain ⟨u, rfl, ru⟩ := vals1 r
  have ed : reprS d = d.shown := by unfold reprS; rfl
  rw [ed] at q
  obtain ⟨as, rd⟩ := Dp.reads I d v u hv ru
  cases d with
  | none =>
    cases hv
    cases ru
    exact PySem.P.repr_of_none ⟨.str _, H, I.tok _, ⟨_, rfl⟩, q⟩
  | bool b =>
    cases hv
    cases ru
    exact PySem.P.repr_of_bool ⟨.str _, H, I.tok _, ⟨_, rfl⟩, q⟩
  | int i =>
    cases hv
    obtain ⟨t, rfl⟩ := ru
    exact PySem.P.repr_of_int (by simpa [PyData.showable] using h1) ⟨.str _, H, I.tok _, ⟨_, rfl⟩, q⟩
  | str i =>
    cases hv
    obtain ⟨t, rfl⟩ := ru
    exact PySem.P.repr_of_str ⟨.str _, H, I.tok _, ⟨_, rfl⟩, q⟩ h3
  | list xs =>
    cases hv
    cases ru
    have hu := hr.room.units
    exact repr_of_reads' rd h1 (fun z => by rw [h2] at z; cases z) hr.gd (by omega) (fun b o e => e) (fun h' u tk hk => ⟨.str _, H, I.kept hk, ⟨_, rfl⟩, q⟩) h3
  | tuple xs =>
    cases hv
    cases ru
    have hu := hr.room.units
    exact repr_of_reads' rd h1 (fun z => by rw [h2] at z; cases z) hr.gd (by omega) (fun b o e => e) (fun h' u tk hk => ⟨.str _, H, I.kept hk, ⟨_, rfl⟩, q⟩) h3
  | dict xs => cases hv
theorem cb_repr {k : Nat} (hr : RoomG k X.A) : CallR X (.builtin "repr") (liftON X.K reprB) := by
  refine CallR.imp (cr_repr hr) fun xs H Q h => ?_
  obtain ⟨v, F, d, q, rfl, s, v0, hb, P⟩ := one_of h
  clear h
  have h := hb
  exact ⟨_, d, rfl, v0.dp s, h.1, P.dat s (.str _) h.2⟩
end
end DL
set_option Elab.async false
set_option linter.all false
set_option maxRecDepth 100000
set_option maxHeartbeats 400000
namespace DL
open PySem L2

/-! ### isinstance of a built-in type -/
inductive Ty where
  | int
  | bool
  | str
  | tuple
  | list
def Ty.nm : Ty → String
  | .int => "int"
  | .bool => "bool"
  | .str => "str"
  | .tuple => "tuple"
  | .list => "list"
def tyN : D → String
  | .none => "NoneType"
  | .bool _ => "bool"
  | .int _ => "int"
  | .str _ => "str"
  | .list _ => "list"
  | .tuple _ => "tuple"
  | .dict _ => "dict"
def isT : Ty → D → Bool
  | .int, .int _ => true
  | .int, .bool _ => true
  | .bool, .bool _ => true
  | .str, .str _ => true
  | .tuple, .tuple _ => true
  | .list, .list _ => true
  | _, _ => false
theorem isT_ok (t : Ty) (d : D) : kitB (tyN d) t.nm = some (isT t d) := by
  cases d with
  | none => show kitB "NoneType" t.nm = _; cases t <;> (show kitB _ _ = some false; decide +kernel)
  | bool b =>
    show kitB "bool" t.nm = _
    cases t with
    | int => show kitB "bool" "int" = some true; decide +kernel
    | bool => show kitB "bool" "bool" = some true; decide +kernel
    | _ => show kitB _ _ = some false; decide +kernel
  | int b =>
    show kitB "int" t.nm = _
    cases t with
    | int => show kitB "int" "int" = some true; decide +kernel
    | _ => show kitB _ _ = some false; decide +kernel
  | str b =>
    show kitB "str" t.nm = _
    cases t with
    | str => show kitB "str" "str" = some true; decide +kernel
    | _ => show kitB _ _ = some false; decide +kernel
  | list b =>
    show kitB "list" t.nm = _
    cases t with
    | list => show kitB "list" "list" = some true; decide +kernel
    | _ => show kitB _ _ = some false; decide +kernel
  | tuple b =>
    show kitB "tuple" t.nm = _
    cases t with
    | tuple => show kitB "tuple" "tuple" = some true; decide +kernel
    | _ => show kitB _ _ = some false; decide +kernel
  | dict b => show kitB "dict" t.nm = _; cases t <;> (show kitB _ _ = some false; decide +kernel)
theorem SqL.ty {K : PySem.W.Frag} {H : Hp} {a : Addr} {xs : List V} (h : SqL K H a xs) : TyX K H (.ref a) (.type "list") := by
  rcases h with (h | ⟨o, h⟩) | ⟨o, its, n, h, c, _⟩
  · exact .base (.lst h)
  · exact .base (.frz h)
  · exact .kList h c
theorem SqT.ty {K : PySem.W.Frag} {H : Hp} {a : Addr} {xs : List V} (h : SqT K H a xs) : TyX K H (.ref a) (.type "tuple") := by
  rcases h with (h | ⟨o, h⟩) | ⟨o, its, n, h, c, _⟩
  · exact .base (.tup h)
  · exact .fTuple h
  · exact .kTuple h c
theorem ValR.ty {K : PySem.W.Frag} {F H : Hp} {v : V} {d : D} (s : Same F H) (h : ValR K F H v d) : TyX K H v (.type (tyN d)) := by
  cases d with
  | none => rw [h.non]; exact .base .non
  | bool b => rw [h.bool]; exact .base (.bl b)
  | int b => rw [h.int]; exact .base (.int b)
  | str b => rw [h.str]; exact .base (.str b)
  | list xs => obtain ⟨a, vs, rfl, h1, _⟩ := h.list s; exact SqL.ty h1
  | tuple xs => obtain ⟨a, vs, rfl, h1, _⟩ := h.tuple s; exact SqT.ty h1
  | dict xs =>
    rcases h with h | ⟨a, vs, ys, _, e, _⟩
    · cases h
    · cases e
def dIsi (T : Ty) (t : DTE) : DTE := fun τ q => t τ fun ev τ1 => q (.dat (.bool (isT T (val τ1 ev)))) τ1
section
variable {X : Cx}
theorem de_isi {T : Ty} {x : Str} {e : Expr} {te : DTE} {p p2 pos : Pos} (hg : Gl X "isinstance") (hm : X.mg "isinstance" = none) (hgT : Gl X x) (hmT : X.mg x = none) (hv : bootBuiltins x = some (.type T.nm)) (he : DE X e te)
    (hn : x ≠ "__name__" := by decide) (hd : (x == ("__debug__" : Str)) = false := by decide)
    (hst : starEach [e, .Name x p2] X.env = (false, eval e X.env) :: starEach [.Name x p2] X.env := by rfl) (hpl : (backTo pos (starEach [.Name x p2] X.env)).any (·.1) = false := by rfl) : DE X (.Call (.Name "isinstance" p) [e, .Name x p2] [] pos) (dIsi T te) := by
  have hN : PE X (.Name x p2) (tC (.ty T.nm)) := pe_bltn hgT hmT hv (show RelV (.ty T.nm) (.type T.nm) from rfl) hn hd
  refine pe_imp (pe_callB call_isi hg hm PyProof.Rows.boot_isinstance (pa_cons he (pa_cons hN pa_nil) hst) (he := hst) (hpl := hpl)) fun σ H Q ⟨Z, F, τ, q, r, ht, k⟩ => ?_
  refine ⟨Z, F, τ, _, r, ht, fun F1 τ1 H1 ev v r1 g1 e1 h1 => ?_⟩
  exact ⟨v, .ty T.nm, .type (tyN (val τ1 ev)), .type T.nm, _, rfl, .ty _, ValR.ty r1.sub (r1.val e1), kit_ty (isT_ok T _), k F1 τ1 H1 (.dat (.bool _)) (.bl _) r1 g1 (.bl _) h1⟩

/-! ### list(range(..)), tuple(range(..)) -/
def rgOk (a b : Int) : Prop := -(2 ^ 62) ≤ a ∧ a < 2 ^ 62 ∧ -(2 ^ 62) ≤ b ∧ b < 2 ^ 62 ∧ (b - a).toNat ≤ 2 ^ 24
def rg1 (ta : DTE) : DSt → (Int → Int → DSt → Prop) → Prop := fun τ q => ta τ fun ev τ1 => match val τ1 ev with
  | .int n => q 0 n τ1
  | _ => False
def rg2 (ta tb : DTE) : DSt → (Int → Int → DSt → Prop) → Prop := fun τ q => ta τ fun ea τ1 => tb τ1 fun eb τ2 => match val τ2 ea, val τ2 eb with
  | .int i, .int j => q i j τ2
  | _, _ => False
abbrev DRG := DSt → (Int → Int → DSt → Prop) → Prop
def liftRg (K : PySem.W.Frag) (t : DRG) : L2.St → Hp → (Int → Int → Hp → Prop) → Prop := fun σ H Q => ∃ (Z : Fz) (F : Hp) (τ : DSt) (q : _), R K Z F τ σ H ∧ t τ q ∧
  ∀ F' τ' H' a b, R K Z F' τ' σ H' → Gr F H τ σ F' H' τ' → q a b τ' → Q a b H'
abbrev DRg (X : Cx) (e : Expr) (t : DRG) : Prop := PRg X e (liftRg X.K t)
theorem rgV_dq {K : PySem.W.Frag} {F : Hp} (a b : Int) : DqAll K F (rgV a b) (rangeD a (b - a).toNat) := by
  unfold rgV rangeD
  generalize (b - a).toNat = m
  generalize List.range m = l
  induction l with
  | nil => exact .nil
  | cons x l ih => exact .cons (.int _) ih
theorem drg_1 {a : Expr} {ta : DTE} {p pos : Pos} (hg : Gl X "range") (hm : X.mg "range" = none) (ha : DE X a ta) (na : starEach [a] X.env = (false, eval a X.env) :: starEach [] X.env := by rfl) : DRg X (.Call (.Name "range" p) [a] [] pos) (rg1 ta) := by
  intro pins s σ H Q I ⟨Z, F, τ, q, r, ht, k⟩
  refine prg_1 hg hm ha na pins s σ H Q I ⟨Z, F, τ, _, r, ht, fun F1 τ1 H1 ev v r1 g1 e1 h1 => ?_⟩
  have V := r1.val e1
  revert h1 V
  cases val τ1 ev with
  | int n => exact fun h1 V => ⟨n, V.int, k F1 τ1 H1 0 n r1 g1 h1⟩
  | _ => exact fun h1 => h1.elim
theorem drg_2 {a b : Expr} {ta tb : DTE} {p pos : Pos} (hg : Gl X "range") (hm : X.mg "range" = none) (ha : DE X a ta) (hb : DE X b tb) (na : starEach [a, b] X.env = (false, eval a X.env) :: starEach [b] X.env := by rfl)
    (nb : starEach [b] X.env = (false, eval b X.env) :: starEach [] X.env := by rfl) (hp : (backTo pos (starEach [b] X.env)).any (·.1) = false := by rfl) : DRg X (.Call (.Name "range" p) [a, b] [] pos) (rg2 ta tb) := by
  intro pins s σ H Q I ⟨Z, F, τ, q, r, ht, k⟩
  refine prg_2 hg hm ha hb na nb hp pins s σ H Q I ⟨Z, F, τ, _, r, ht, fun F1 τ1 H1 ev v r1 g1 e1 h1 => ⟨Z, F1, τ1, _, r1, h1, fun F2 τ2 H2 ew u r2 g2 e2 h2 => ?_⟩⟩
  have V := r2.val (e1.grow g2)
  have U := r2.val e2
  revert h2 V U
  cases val τ2 ev with
  | int n =>
    cases val τ2 ew with
    | int m => exact fun h1 V U => ⟨n, m, V.int, U.int, k F2 τ2 H2 n m r2 (g1.trans g2) h1⟩
    | _ => exact fun h1 => h1.elim
  | _ => exact fun h1 => (show False by revert h1; cases val τ2 ew <;> exact id).elim
def dLstRg (t : DRG) : DTE := fun τ q => t τ fun a b τ1 => rgOk a b ∧ q (.tmp (rangeD a (b - a).toNat)) τ1
theorem de_lstRg {e : Expr} {t : DRG} {p pos : Pos} (hc : X.calm = true) (hg : Gl X "list") (hm : X.mg "list" = none) (he : DRg X e t) (na : starEach [e] X.env = (false, eval e X.env) :: starEach [] X.env := by rfl) : DE X (.Call (.Name "list" p) [e] [] pos) (dLstRg t) := by
  refine pe_imp (pe_listRg hc hg hm he na) fun σ H Q ⟨Z, F, τ, q, r, ht, k⟩ => ?_
  refine ⟨Z, F, τ, _, r, ht, fun F1 τ1 H1 a b r1 g1 h1 => ⟨h1.1, fun p hp => ?_⟩⟩
  have P : Post X.K F1 H1 (fun ev => q ev τ1) Q := fun F' H' ev v s1 s2 s3 n nr hq => by
    obtain ⟨r3, g3, e3⟩ := bridge r1 g1 s1 s2 s3 n nr
    exact k F' τ1 H' ev v r3 g3 e3 hq
  exact P.lst r1.sub hp (rgV_dq a b) h1.2
end
end DL
set_option Elab.async false
set_option linter.all false
set_option maxRecDepth 100000
set_option maxHeartbeats 400000
namespace DL
open PySem L2

/-! ### sources: a list or a tuple that is walked -/
structure Src where
  tup : Bool
  a : Addr
def Src.sq (K : PySem.W.Frag) (H : Hp) (s : Src) (xs : List V) : Prop := match s.tup with
  | true => SqT K H s.a xs
  | false => SqL K H s.a xs
def Src.it (h : Heap) (s : Src) (i : Addr) (n : Nat) : Prop := match s.tup with
  | true => h.IsTupleIter i s.a n
  | false => h.IsListIter i s.a n
def Src.now (h : Heap) (s : Src) (its : Array Value) : Prop := match s.tup with
  | true => h.IsTuple s.a its
  | false => h.IsList s.a its
def Src.ob (s : Src) : Obj := match s.tup with
  | true => { cls := .type "tuple_iterator", data := .fields #[.ref s.a, .int 0 0] }
  | false => { cls := .type "list_iterator", data := .fields #[.ref s.a, .int 0 0] }
section
variable {P : Program} {w : World} {K : PySem.W.Frag} {X : Cx} {pins : List (Addr × Obj)} {σ : L2.St} {H : Hp} {s : Shared} {src : Src} {xs ys : List V}
theorem src_inv (I : Inv X pins σ H s) (h : src.sq X.K H xs) : ∃ its : List Value, Vals xs its ∧ src.now s.heap its.toArray := by
  obtain ⟨t, a⟩ := src
  cases t with
  | true => obtain ⟨its, r, p, _⟩ := I.tuple h; exact ⟨its, r, p⟩
  | false => obtain ⟨its, r, p, _⟩ := I.list h; exact ⟨its, r, p.isList⟩
theorem src_inj (I : Inv X pins σ H s) (h : src.sq X.K H xs) (h' : src.sq X.K H ys) : xs = ys := by
  obtain ⟨t, a⟩ := src
  cases t with
  | true => exact I.tuple_inj h h'
  | false => exact I.list_inj h h'
theorem src_same {H' : Hp} (s : Same H H') (h : src.sq K H xs) : src.sq K H' xs := by
  obtain ⟨t, a⟩ := src
  cases t with
  | true => exact Same.sqT s h
  | false => exact s.seq h
theorem src_draws {A : Around} (hh : A.handled = none) {it : Addr} (hne : src.a ≠ it) (items : Array Value) : Draws P w A it [it, src.a] items.size (fun i v => items[i]? = some v) (fun i h => src.it h it i ∧ src.now h items) := by
  obtain ⟨t, a⟩ := src
  cases t with
  | true => exact .tuple hh it a hne items
  | false => exact .list hh it a hne items
theorem src_begins (items : Array Value) : Begins (.ref src.a) src.ob fun h => src.now h items := by
  obtain ⟨t, a⟩ := src
  cases t with
  | true => exact begins_tuple a items
  | false => exact begins_list a items
theorem src_it0 {h : Heap} {i : Addr} (e : h.get? i = some src.ob) : src.it h i 0 := by
  obtain ⟨t, a⟩ := src
  cases t with
  | true => exact ⟨_, e, rfl, rfl⟩
  | false => exact ⟨_, e, rfl, rfl⟩
theorem src_at {h h' : Heap} {i : Addr} {n : Nat} (k : ∀ o, h.get? i = some o → h'.get? i = some o) (e : src.it h i n) : src.it h' i n := by
  obtain ⟨t, a⟩ := src
  cases t with
  | true => obtain ⟨o, e1, e2⟩ := e; exact ⟨o, k o e1, e2⟩
  | false => obtain ⟨o, e1, e2⟩ := e; exact ⟨o, k o e1, e2⟩
theorem src_obj {h : Heap} {i : Addr} {n : Nat} (e : src.it h i n) : ∃ o, h.get? i = some o ∧ ∀ v, o.data ≠ .cell v := by
  obtain ⟨t, a⟩ := src
  cases t with
  | true => obtain ⟨o, e1, _, e2⟩ := e; exact ⟨o, e1, fun v q => by rw [e2] at q; cases q⟩
  | false => obtain ⟨o, e1, _, e2⟩ := e; exact ⟨o, e1, fun v q => by rw [e2] at q; cases q⟩
theorem src_lt {h : Heap} {its : Array Value} (e : src.now h its) : src.a < h.objs.size := by
  obtain ⟨t, a⟩ := src
  cases t with
  | true => obtain ⟨o, e1, _⟩ := e; exact Heap.lt_size e1
  | false => obtain ⟨o, e1, _⟩ := e; exact Heap.lt_size e1

/-- turns that make a new tuple each, from the library's WalksT -/
theorem turn_gen {elts : List Expr} {kk : Nat} {tpos : Pos} {J : It} {e : Addr} {fp wr : List Addr} {tn : Nat → Heap → Prop} (hm : e ∈ fp) (hsub : ∀ b ∈ wr, b ∈ fp)
    (obj : ∀ i h, tn i h → ∀ b ∈ fp, ∃ o, h.get? b = some o ∧ ∀ v, o.data ≠ .cell v) (keep : ∀ i h h', tn i h → (∀ b ∈ fp, ∀ o, h.get? b = some o → h'.get? b = some o) → tn i h')
    (item : ∀ (X : Cx), X.prog = P → X.w = w → X.K = K → X.calm = true → ∀ (i : Nat) (pins : List (Addr × Obj)) (s : Shared) (σ : L2.St) (H : Hp), Inv X pins σ H s → (∀ b ∈ fp, FpOk X pins H b) → tn i s.heap → J.go i H →
      ∃ (fp' : List Addr) (n : Nat) (Pt : Nat → Array Value → Prop) (St : Nat → Heap → Prop) (Mid : Nat → Addr → Heap → Prop), WalksT P w X.A e fp' wr n Pt St Mid ∧ i < n ∧ St i s.heap ∧ (∀ h, St (i + 1) h → tn (i + 1) h) ∧
        ∀ vals, Pt i vals → ∃ xs : List V, Vals xs vals.toList ∧ xs.length ≤ sizeLine ∧ ∀ T, H T = none → J.yld i H (.ref T) (upd H T (.tup xs)))
    (done : ∀ (X : Cx), X.prog = P → X.w = w → X.K = K → X.calm = true → ∀ (i : Nat) (pins : List (Addr × Obj)) (s : Shared) (σ : L2.St) (H : Hp), Inv X pins σ H s → (∀ b ∈ fp, FpOk X pins H b) → tn i s.heap → J.stop i H →
      ∃ (fp' : List Addr) (Pt : Nat → Array Value → Prop) (St : Nat → Heap → Prop) (Mid : Nat → Addr → Heap → Prop), ∃ n, WalksT P w X.A e fp' wr n Pt St Mid ∧ St n s.heap)
    (self : ∀ (A : Around) (i : Nat) (s : Shared) (Q : Value → Shared → Prop) (E : Value → Shared → Prop), tn i s.heap → Q (.ref e) s → wpAny (model P w) A (pyIter (.ref e)) Q E s) :
    Turn P w K (.Tuple elts kk tpos) J fp e tn where
  mem := hm
  obj := obj
  keep := keep
  item := by
    intro X hP hw hK hc i pins s σ H E I hf st hg
    obtain ⟨fp', n, Pt, St, Mid, W, hi, hst, hnx, hv⟩ := item X hP hw hK hc i pins s σ H I hf st hg
    subst hP hw hK
    refine W.item i s _ E hi hst fun T vals h' tk hPt hT isT mid k1 => ⟨_, rfl, ?_⟩
    refine W.go elts kk tpos i T { s with heap := h', toks := tk } _ E mid fun h'' st' k2 => ?_
    obtain ⟨xs, rv, hz, hy⟩ := hv vals hPt
    have hT2 : h''.IsTuple T vals := by
      obtain ⟨o, h1, h2⟩ := isT
      exact ⟨o, k2 T o (W.apart i T _ mid) h1, h2⟩
    have HT : H T = none := I.hok.fresh hT
    have new : ObjOk X.prog X.w (upd H T (.tup xs)) h'' T (.tup xs) := ⟨hz, vals.toList, rv, by rw [Array.toArray_toList]; exact hT2⟩
    have I1 : Inv X pins σ (upd H T (.tup xs)) { s with heap := h'', toks := tk } :=
      I.turnedNew (ch := wr) (fun b o hb q => k2 b o hb (k1 b o hb q)) (fun b hb => hf b (hsub b hb)) hT new
    refine ⟨.ref T, _, I1, rfl, hy T HT, hnx _ st', fun b hb => ?_⟩
    obtain ⟨o, ho, _⟩ := obj i s.heap st b hb
    rw [upd_ne (Nat.ne_of_lt (Nat.lt_of_lt_of_le (Heap.lt_size ho) hT))]
    exact (hf b hb).1
  done := by
    intro X hP hw hK hc i pins s σ H E I hf st hg
    obtain ⟨fp', Pt, St, Mid, n, W, hst⟩ := done X hP hw hK hc i pins s σ H I hf st hg
    subst hP hw hK
    exact W.done s _ E hst fun h' tk k => ⟨rfl, I.turnedL (ch := wr) k fun b hb => hf b (hsub b hb)⟩
  self := self

/-! ### enumerate, zip over sources -/
def IteS (K : PySem.W.Frag) (src : Src) : It :=
  ⟨fun i H => ∃ (xs : List V) (x : V), src.sq K H xs ∧ xs[i]? = some x,
    fun i H v H' => ∃ T x, v = .ref T ∧ H T = none ∧ H' = upd H T (.tup [.int (i : Nat), x]) ∧ ∀ xs, src.sq K H xs → xs[i]? = some x,
    fun i H => ∃ xs : List V, src.sq K H xs ∧ xs.length = i⟩
theorem turn_enumS {elts : List Expr} {kk : Nat} {tpos : Pos} {e it : Addr} (hei : e ≠ it) (hae : src.a ≠ e) (hai : src.a ≠ it) :
    Turn P w K (.Tuple elts kk tpos) (IteS K src) [e, it] e (fun i h => (∃ old, IsEnum h e it ((i : Nat) : Int) old) ∧ src.it h it i) := by
  have ne : e ∉ [it, src.a] := fun z => by
    rcases List.mem_cons.mp z with z | z
    · exact hei z
    · exact hae (List.mem_singleton.mp z).symm
  refine turn_gen (wr := [e, it]) (by simp) (fun b hb => hb) (fun i h st b hb => ?_) (fun i h h' st k => ?_) ?_ ?_ ?_
  · obtain ⟨⟨old, he⟩, hi⟩ := st
    have e' : b = e ∨ b = it := by simpa using hb
    rcases e' with z | z
    · rw [z]; exact ⟨_, he, fun v q => nomatch q⟩
    · rw [z]; exact src_obj hi
  · obtain ⟨⟨old, he⟩, hi⟩ := st
    exact ⟨⟨old, k e (by simp) _ he⟩, src_at (fun o q => k it (by simp) o q) hi⟩
  · intro X hP hw hK hc i pins s σ H I hf st hg
    subst hP hw hK
    obtain ⟨⟨old, he⟩, hi⟩ := st
    obtain ⟨xs, x, hq, hx⟩ := hg
    obtain ⟨its, rv, p⟩ := src_inv I hq
    have D := src_draws (P := X.prog) (w := X.w) (A := X.A.in1) (show X.A.in1.handled = none from I.ok.hd hc) hai its.toArray
    refine ⟨_, _, _, _, _, WalksT.enumerateD D e hei ne (by simp), ?_, ⟨⟨old, he⟩, hi, p⟩, fun h ⟨st1, st2, _⟩ => ⟨st1, st2⟩, fun vals ⟨t, u, hu, ev⟩ => ?_⟩
    · rw [List.size_toArray, ← rv.length]; exact (List.getElem?_eq_some_iff.mp hx).1
    · subst ev
      refine ⟨[.int (i : Nat), x], .cons ⟨t, rfl⟩ (.cons ?_ .nil), (by show 2 ≤ sizeLine; decide), fun T hT => ⟨T, x, rfl, hT, rfl, fun ys hy => by rw [src_inj I hy hq]; exact hx⟩⟩
      obtain ⟨u', hu', ru⟩ := rv.get hx
      have hu : its.toArray[i]? = some u := hu
      rw [List.getElem?_toArray, hu'] at hu
      cases hu
      exact ru
  · intro X hP hw hK hc i pins s σ H I hf st hg
    subst hP hw hK
    obtain ⟨⟨old, he⟩, hi⟩ := st
    obtain ⟨xs, hq, hx⟩ := hg
    obtain ⟨its, rv, p⟩ := src_inv I hq
    have D := src_draws (P := X.prog) (w := X.w) (A := X.A.in1) (show X.A.in1.handled = none from I.ok.hd hc) hai its.toArray
    have en : its.toArray.size = i := by rw [List.size_toArray, ← rv.length]; exact hx
    exact ⟨_, _, _, _, its.toArray.size, WalksT.enumerateD D e hei ne (by simp), by rw [en]; exact ⟨⟨old, he⟩, hi, p⟩⟩
  · exact fun A i s Q E st h => let ⟨⟨_, he⟩, _⟩ := st; wpAny_pyIter_enum he h

def Itz2 (K : PySem.W.Frag) (s1 s2 : Src) : It :=
  ⟨fun i H => ∃ (xs ys : List V) (x y : V), s1.sq K H xs ∧ s2.sq K H ys ∧ xs[i]? = some x ∧ ys[i]? = some y,
    fun i H v H' => ∃ T x y, v = .ref T ∧ H T = none ∧ H' = upd H T (.tup [x, y]) ∧ (∀ xs, s1.sq K H xs → xs[i]? = some x) ∧ ∀ ys, s2.sq K H ys → ys[i]? = some y,
    fun i H => ∃ xs ys : List V, s1.sq K H xs ∧ s2.sq K H ys ∧ min xs.length ys.length = i⟩
theorem vals_get {xs : List V} {its : List Value} {i : Nat} {x : V} {u : Value} (rv : Vals xs its) (hx : xs[i]? = some x) (hu : its.toArray[i]? = some u) : RelV x u := by
  obtain ⟨u', hu', ru⟩ := rv.get hx
  rw [List.getElem?_toArray, hu'] at hu
  cases hu
  exact ru
theorem turn_zip2 {elts : List Expr} {kk : Nat} {tpos : Pos} {s1 s2 : Src} {z TI TO i1 i2 : Addr} (S : ZipSep2 z TI TO i1 i2 [i1, s1.a] [i2, s2.a]) (n1 : s1.a ≠ i1) (n2 : s2.a ≠ i2) :
    Turn P w K (.Tuple elts kk tpos) (Itz2 K s1 s2) [z, TI, TO, i1, i2] z (fun i h => IsZip h z TI TO .none ∧ IsTupOf2 h TI (.ref i1) (.ref i2) ∧ (∃ a1 a2, IsTupOf2 h TO a1 a2) ∧ s1.it h i1 i ∧ s2.it h i2 i) := by
  refine turn_gen (wr := [z, TO, i1, i2]) (by simp) (fun b hb => ?_) (fun i h st b hb => ?_) (fun i h h' st k => ?_) ?_ ?_ ?_
  · have e' : b = z ∨ b = TO ∨ b = i1 ∨ b = i2 := by simpa using hb
    rcases e' with q | q | q | q <;> (rw [q]; simp)
  · obtain ⟨hz, hTI, ⟨x, y, hTO⟩, h1, h2⟩ := st
    have e' : b = z ∨ b = TI ∨ b = TO ∨ b = i1 ∨ b = i2 := by simpa using hb
    rcases e' with q | q | q | q | q
    · rw [q]; exact ⟨_, hz, fun v q => nomatch q⟩
    · rw [q]; exact ⟨_, hTI, fun v q => nomatch q⟩
    · rw [q]; exact ⟨_, hTO, fun v q => nomatch q⟩
    · rw [q]; exact src_obj h1
    · rw [q]; exact src_obj h2
  · obtain ⟨hz, hTI, ⟨x, y, hTO⟩, h1, h2⟩ := st
    exact ⟨k z (by simp) _ hz, k TI (by simp) _ hTI, ⟨x, y, k TO (by simp) _ hTO⟩, src_at (fun o q => k i1 (by simp) o q) h1, src_at (fun o q => k i2 (by simp) o q) h2⟩
  · intro X hP hw hK hc i pins s σ H I hf st hg
    subst hP hw hK
    obtain ⟨hz, hTI, hTO, h1, h2⟩ := st
    obtain ⟨xs, ys, x, y, hqx, hqy, hx, hy⟩ := hg
    obtain ⟨its, rv, p⟩ := src_inv I hqx
    obtain ⟨its2, rv2, p2⟩ := src_inv I hqy
    have D := src_draws (P := X.prog) (w := X.w) (A := X.A.in1) (show X.A.in1.handled = none from I.ok.hd hc) n1 its.toArray
    have D2 := src_draws (P := X.prog) (w := X.w) (A := X.A.in1) (show X.A.in1.handled = none from I.ok.hd hc) n2 its2.toArray
    refine ⟨_, _, _, _, _, WalksT.zipD2 S D D2, ?_, ⟨hz, hTI, hTO, ⟨h1, p⟩, h2, p2⟩, fun h ⟨st1, st2, st3, st4, st5⟩ => ⟨st1, st2, st3, st4.1, st5.1⟩, fun vals ⟨u, u2, hu, hu2, ev⟩ => ?_⟩
    · rw [List.size_toArray, List.size_toArray, ← rv.length, ← rv2.length]
      have l1 := (List.getElem?_eq_some_iff.mp hx).1
      have l2 := (List.getElem?_eq_some_iff.mp hy).1
      omega
    · subst ev
      exact ⟨[x, y], .cons (vals_get rv hx hu) (.cons (vals_get rv2 hy hu2) .nil), (by show 2 ≤ sizeLine; decide), fun T hT => ⟨T, x, y, rfl, hT, rfl, fun ws hw => by rw [src_inj I hw hqx]; exact hx, fun ws hw => by rw [src_inj I hw hqy]; exact hy⟩⟩
  · intro X hP hw hK hc i pins s σ H I hf st hg
    subst hP hw hK
    obtain ⟨hz, hTI, hTO, h1, h2⟩ := st
    obtain ⟨xs, ys, hqx, hqy, hx⟩ := hg
    obtain ⟨its, rv, p⟩ := src_inv I hqx
    obtain ⟨its2, rv2, p2⟩ := src_inv I hqy
    have D := src_draws (P := X.prog) (w := X.w) (A := X.A.in1) (show X.A.in1.handled = none from I.ok.hd hc) n1 its.toArray
    have D2 := src_draws (P := X.prog) (w := X.w) (A := X.A.in1) (show X.A.in1.handled = none from I.ok.hd hc) n2 its2.toArray
    have en : min its.toArray.size its2.toArray.size = i := by rw [List.size_toArray, List.size_toArray, ← rv.length, ← rv2.length]; exact hx
    exact ⟨_, _, _, _, _, WalksT.zipD2 S D D2, by rw [en]; exact ⟨hz, hTI, hTO, ⟨h1, p⟩, h2, p2⟩⟩
  · exact fun A i s Q E st h => wpAny_pyIter_zip st.1 h
def Itz3 (K : PySem.W.Frag) (s1 s2 s3 : Src) : It :=
  ⟨fun i H => ∃ (xs ys zs : List V) (x y z : V), s1.sq K H xs ∧ s2.sq K H ys ∧ s3.sq K H zs ∧ xs[i]? = some x ∧ ys[i]? = some y ∧ zs[i]? = some z,
    fun i H v H' => ∃ T x y z, v = .ref T ∧ H T = none ∧ H' = upd H T (.tup [x, y, z]) ∧ (∀ xs, s1.sq K H xs → xs[i]? = some x) ∧ (∀ ys, s2.sq K H ys → ys[i]? = some y) ∧ ∀ zs, s3.sq K H zs → zs[i]? = some z,
    fun i H => ∃ xs ys zs : List V, s1.sq K H xs ∧ s2.sq K H ys ∧ s3.sq K H zs ∧ min (min xs.length ys.length) zs.length = i⟩
theorem turn_zip3 {elts : List Expr} {kk : Nat} {tpos : Pos} {s1 s2 s3 : Src} {z TI TO i1 i2 i3 : Addr} (S : ZipSep3 z TI TO i1 i2 i3 [i1, s1.a] [i2, s2.a] [i3, s3.a]) (n1 : s1.a ≠ i1) (n2 : s2.a ≠ i2) (n3 : s3.a ≠ i3) :
    Turn P w K (.Tuple elts kk tpos) (Itz3 K s1 s2 s3) [z, TI, TO, i1, i2, i3] z (fun i h => IsZip h z TI TO .none ∧ IsTupOf3 h TI (.ref i1) (.ref i2) (.ref i3) ∧ (∃ a1 a2 a3, IsTupOf3 h TO a1 a2 a3) ∧ s1.it h i1 i ∧ s2.it h i2 i ∧ s3.it h i3 i) := by
  refine turn_gen (wr := [z, TO, i1, i2, i3]) (by simp) (fun b hb => ?_) (fun i h st b hb => ?_) (fun i h h' st k => ?_) ?_ ?_ ?_
  · have e' : b = z ∨ b = TO ∨ b = i1 ∨ b = i2 ∨ b = i3 := by simpa using hb
    rcases e' with q | q | q | q | q <;> (rw [q]; simp)
  · obtain ⟨hz, hTI, ⟨x, y, y', hTO⟩, h1, h2, h3⟩ := st
    have e' : b = z ∨ b = TI ∨ b = TO ∨ b = i1 ∨ b = i2 ∨ b = i3 := by simpa using hb
    rcases e' with q | q | q | q | q | q
    · rw [q]; exact ⟨_, hz, fun v q => nomatch q⟩
    · rw [q]; exact ⟨_, hTI, fun v q => nomatch q⟩
    · rw [q]; exact ⟨_, hTO, fun v q => nomatch q⟩
    · rw [q]; exact src_obj h1
    · rw [q]; exact src_obj h2
    · rw [q]; exact src_obj h3
  · obtain ⟨hz, hTI, ⟨x, y, y', hTO⟩, h1, h2, h3⟩ := st
    exact ⟨k z (by simp) _ hz, k TI (by simp) _ hTI, ⟨x, y, y', k TO (by simp) _ hTO⟩, src_at (fun o q => k i1 (by simp) o q) h1, src_at (fun o q => k i2 (by simp) o q) h2, src_at (fun o q => k i3 (by simp) o q) h3⟩
  · intro X hP hw hK hc i pins s σ H I hf st hg
    subst hP hw hK
    obtain ⟨hz, hTI, hTO, h1, h2, h3⟩ := st
    obtain ⟨xs, ys, zs, x, y, v, hqx, hqy, hqz, hx, hy, hv⟩ := hg
    obtain ⟨its, rv, p⟩ := src_inv I hqx
    obtain ⟨its2, rv2, p2⟩ := src_inv I hqy
    obtain ⟨its3, rv3, p3⟩ := src_inv I hqz
    have D := src_draws (P := X.prog) (w := X.w) (A := X.A.in1) (show X.A.in1.handled = none from I.ok.hd hc) n1 its.toArray
    have D2 := src_draws (P := X.prog) (w := X.w) (A := X.A.in1) (show X.A.in1.handled = none from I.ok.hd hc) n2 its2.toArray
    have D3 := src_draws (P := X.prog) (w := X.w) (A := X.A.in1) (show X.A.in1.handled = none from I.ok.hd hc) n3 its3.toArray
    refine ⟨_, _, _, _, _, WalksT.zipD3 S D D2 D3, ?_, ⟨hz, hTI, hTO, ⟨h1, p⟩, ⟨h2, p2⟩, h3, p3⟩, fun h ⟨st1, st2, st3, st4, st5, st6⟩ => ⟨st1, st2, st3, st4.1, st5.1, st6.1⟩, fun vals ⟨u, u2, u3, hu, hu2, hu3, ev⟩ => ?_⟩
    · rw [List.size_toArray, List.size_toArray, List.size_toArray, ← rv.length, ← rv2.length, ← rv3.length]
      have l1 := (List.getElem?_eq_some_iff.mp hx).1
      have l2 := (List.getElem?_eq_some_iff.mp hy).1
      have l3 := (List.getElem?_eq_some_iff.mp hv).1
      omega
    · subst ev
      exact ⟨[x, y, v], .cons (vals_get rv hx hu) (.cons (vals_get rv2 hy hu2) (.cons (vals_get rv3 hv hu3) .nil)), (by show 3 ≤ sizeLine; decide), fun T hT => ⟨T, x, y, v, rfl, hT, rfl, fun ws hw => by rw [src_inj I hw hqx]; exact hx, fun ws hw => by rw [src_inj I hw hqy]; exact hy, fun ws hw => by rw [src_inj I hw hqz]; exact hv⟩⟩
  · intro X hP hw hK hc i pins s σ H I hf st hg
    subst hP hw hK
    obtain ⟨hz, hTI, hTO, h1, h2, h3⟩ := st
    obtain ⟨xs, ys, zs, hqx, hqy, hqz, hx⟩ := hg
    obtain ⟨its, rv, p⟩ := src_inv I hqx
    obtain ⟨its2, rv2, p2⟩ := src_inv I hqy
    obtain ⟨its3, rv3, p3⟩ := src_inv I hqz
    have D := src_draws (P := X.prog) (w := X.w) (A := X.A.in1) (show X.A.in1.handled = none from I.ok.hd hc) n1 its.toArray
    have D2 := src_draws (P := X.prog) (w := X.w) (A := X.A.in1) (show X.A.in1.handled = none from I.ok.hd hc) n2 its2.toArray
    have D3 := src_draws (P := X.prog) (w := X.w) (A := X.A.in1) (show X.A.in1.handled = none from I.ok.hd hc) n3 its3.toArray
    have en : min (min its.toArray.size its2.toArray.size) its3.toArray.size = i := by rw [List.size_toArray, List.size_toArray, List.size_toArray, ← rv.length, ← rv2.length, ← rv3.length]; exact hx
    exact ⟨_, _, _, _, _, WalksT.zipD3 S D D2 D3, by rw [en]; exact ⟨hz, hTI, hTO, ⟨h1, p⟩, ⟨h2, p2⟩, h3, p3⟩⟩
  · exact fun A i s Q E st h => wpAny_pyIter_zip st.1 h

/-! ### how they begin -/
set_option maxHeartbeats 1000000 in
theorem meets_enum_new1 {v : Value} {o : Obj} {H : Heap → Prop} (B : Begins v o H) :
    Meets (Builtin.«enumerate.__new__» ⟨[.type "enumerate", v], []⟩) (fun _ R s => H s.heap ∧
      R (.ok (.ret (.ref (s.heap.push o).objs.size))) { s with heap := (s.heap.push o).push { cls := .type "enumerate", data := .fields #[.none, .bool false, .ref s.heap.objs.size, rawInt 0, .none, .none] } }) :=
  .of_wp fun prog w A R s h => by
    obtain ⟨hp, g, d, tk, os⟩ := s; obtain ⟨h1, h⟩ := h
    have hsub := sub_enumerate
    have q1 : ∀ {A' : Around} {E : Value → Shared → Prop} {Q : Value → Shared → Prop}, Q (.ref hp.objs.size) ⟨hp.push o, g, d, tk, os⟩ → wpAny (model prog w) A' (pyIter v) Q E ⟨hp, g, d, tk, os⟩ :=
      fun q => B.iter prog w _ _ ⟨hp, g, d, tk, os⟩ _ h1 q
    wp_walk using q1
    refine wpAny_stack_any fun st => wpAny_pure ?_
    split
    · rename_i c _ _ _ _ _
      cases (c == Value.type "enumerate")
      · wp_walk using q1
        exact ⟨_, rfl, h⟩
      · wp_walk using q1
        exact ⟨_, rfl, h⟩
    · wp_walk using q1
      exact ⟨_, rfl, h⟩
theorem enum_begins1 {A : Around} {E : Value → Shared → Prop} {v : Value} {o : Obj} {H : Heap → Prop} {Q : Value → Shared → Prop} (B : Begins v o H) (h1 : H s.heap)
    (h : ∀ h', IsEnum h' (s.heap.objs.size + 1) s.heap.objs.size 0 .none → h'.get? s.heap.objs.size = some o → h'.objs.size = s.heap.objs.size + 2 →
      (∀ b o, s.heap.get? b = some o → h'.get? b = some o) → Q (.ref (s.heap.objs.size + 1)) { s with heap := h' }) :
    wpAny (model P w) A (call (.type "enumerate") [v]) Q E s := by
  refine callType_new F.called_enumerate (by decide) (F.typeCall_enumerate_1 _) (F.newCall_enumerate_1 _) (fun obj => F.args_object_init_2 obj _) F.entry_enumerate_new
    (meets_enum_new1 B) ⟨h1, ?_⟩
  have hz : (s.heap.push o).objs.size = s.heap.objs.size + 1 := Heap.size_push ..
  show _ ∧ _
  rw [hz]
  have he : IsEnum ((s.heap.push o).push { cls := .type "enumerate", data := .fields #[.none, .bool false, .ref s.heap.objs.size, rawInt 0, .none, .none] }) (s.heap.objs.size + 1) s.heap.objs.size 0 .none := by
    have := Heap.get?_push_size (s.heap.push o) (o := { cls := .type "enumerate", data := .fields #[.none, .bool false, .ref s.heap.objs.size, rawInt 0, .none, .none] }) rfl
    rw [hz] at this; exact this
  refine ⟨⟨_, he, rfl⟩, h _ he (Heap.get?_push_of_some _ (Heap.get?_push_size _ B.free)) (by rw [Heap.size_push, hz]) fun b o x => Heap.get?_push_of_some _ (Heap.get?_push_of_some _ x)⟩
end
end DL
set_option Elab.async false
set_option linter.all false
set_option maxRecDepth 100000
set_option maxHeartbeats 400000
namespace DL
open PySem L2

/-! ### enumerate(..), zip(..) as what is walked -/
def iSrc1 (K : PySem.W.Frag) (mk : Src → It) (ta : TA) : TI := fun σ H R => ta σ H fun vs H1 => ∃ src xs, vs = [.ref src.a] ∧ src.sq K H1 xs ∧ R (mk src) H1
def iSrc2 (K : PySem.W.Frag) (ta : TA) : TI := fun σ H R => ta σ H fun vs H1 => ∃ s1 s2 xs ys, vs = [.ref s1.a, .ref s2.a] ∧ s1.sq K H1 xs ∧ s2.sq K H1 ys ∧ R (Itz2 K s1 s2) H1
def iSrc3 (K : PySem.W.Frag) (ta : TA) : TI := fun σ H R => ta σ H fun vs H1 => ∃ s1 s2 s3 xs ys zs, vs = [.ref s1.a, .ref s2.a, .ref s3.a] ∧ s1.sq K H1 xs ∧ s2.sq K H1 ys ∧ s3.sq K H1 zs ∧ R (Itz3 K s1 s2 s3) H1
section
variable {X : Cx} {p pos tpos : Pos} {elts : List Expr} {kk : Nat}
theorem pi_enumS {e : Expr} {ta : TA} (hg : Gl X "enumerate") (hm : X.mg "enumerate" = none) (ha : PA X [e] ta) (hs : starEach [e] X.env = [(false, eval e X.env)] := by rfl) :
    PI X (.Tuple elts kk tpos) (.Call (.Name "enumerate" p) [e] [] pos) (iSrc1 X.K (IteS X.K) ta) := by
  refine ⟨fun pins s σ H R I h => ?_⟩
  refine PyProof.Rows.Call_ (ld_blt I hg hm PyProof.Rows.boot_enumerate (PyProof.Rows.callWith_type1 (thn (ha.run pos pins s σ H _ I h) fun us s1 ⟨vs, H1, I1, r1, q1⟩ => ?_) hs rfl))
  obtain ⟨src, xs, ex, hq, q⟩ := q1
  subst ex
  cases r1 with
  | cons r rr =>
    cases rr
    cases r
    obtain ⟨its, rv, p'⟩ := src_inv I1 hq
    refine enum_begins1 (src_begins its.toArray) p' fun h' he hit hsz hk => wpAny_pyIter_enum he ?_
    have I2 : Inv X pins σ H1 { s1 with heap := h' } := I1.kept (t' := s1.toks) hk
    have lt := src_lt p'
    refine ⟨s1.heap.objs.size + 1, [s1.heap.objs.size + 1, s1.heap.objs.size], _, _, H1, rfl, I2, turn_enumS (e := s1.heap.objs.size + 1) (it := s1.heap.objs.size) (Nat.succ_ne_self _) (Nat.ne_of_lt (Nat.lt_succ_of_lt lt)) (Nat.ne_of_lt lt), ⟨⟨.none, he⟩, src_it0 hit⟩, fun b hb => ?_, q⟩
    have hle : s1.heap.objs.size ≤ b := by
      have e' : b = s1.heap.objs.size + 1 ∨ b = s1.heap.objs.size := by simpa using hb
      rcases e' with z | z
      · rw [z]; exact Nat.le_succ _
      · rw [z]; exact Nat.le_refl _
    exact I1.fpOk hle (I1.hok.fresh hle)
theorem lt1 {n a : Nat} (h : a < n) : ∀ b ∈ [a], b < n := fun b hb => by
  have e := List.mem_singleton.mp hb
  omega
theorem pi_zip2S {e e2 : Expr} {ta : TA} (hg : Gl X "zip") (hm : X.mg "zip" = none) (ha : PA X [e, e2] ta)
    (hs : starEach [e, e2] X.env = (false, eval e X.env) :: starEach [e2] X.env := by rfl) (hpl : (backTo pos (starEach [e2] X.env)).any (·.1) = false := by rfl) :
    PI X (.Tuple elts kk tpos) (.Call (.Name "zip" p) [e, e2] [] pos) (iSrc2 X.K ta) := by
  refine ⟨fun pins s σ H R I h => ?_⟩
  refine PyProof.Rows.Call_ (ld_blt I hg hm PyProof.Rows.boot_zip (PyProof.Rows.callWith_type1 (thn (ha.run pos pins s σ H _ I h) fun us s1 ⟨vs, H1, I1, r1, q1⟩ => ?_) hs hpl))
  obtain ⟨src, src2, xs, ys, ex, hq, hq2, q⟩ := q1
  subst ex
  obtain ⟨u1, u2, rfl, r1, r2⟩ := vals2 r1
  cases r1
  cases r2
  obtain ⟨its, rv, p1⟩ := src_inv I1 hq
  obtain ⟨its2, rv2, p2⟩ := src_inv I1 hq2
  refine zip_begins2 (src_begins its.toArray) (src_begins its2.toArray) p1 p2 fun h' hz hTI hTO h1 h2 hsz hk => wpAny_pyIter_zip hz ?_
  have I2 : Inv X pins σ H1 { s1 with heap := h' } := I1.kept (t' := s1.toks) hk
  refine ⟨s1.heap.objs.size + 4, [s1.heap.objs.size + 4, s1.heap.objs.size + 2, s1.heap.objs.size + 3, s1.heap.objs.size, s1.heap.objs.size + 1], _, _, H1, rfl, I2,
    turn_zip2 (zip_sep2 (lt1 (src_lt p1)) (lt1 (src_lt p2))) (Nat.ne_of_lt (src_lt p1)) (Nat.ne_of_lt (Nat.lt_succ_of_lt (src_lt p2))), ⟨hz, hTI, ⟨_, _, hTO⟩, src_it0 h1, src_it0 h2⟩, fun c hcm => ?_, q⟩
  have e' : c = s1.heap.objs.size + 4 ∨ c = s1.heap.objs.size + 2 ∨ c = s1.heap.objs.size + 3 ∨ c = s1.heap.objs.size ∨ c = s1.heap.objs.size + 1 := by simpa using hcm
  have hle : s1.heap.objs.size ≤ c := by
    rcases e' with z | z | z | z | z
    · rw [z]; exact Nat.le_add_right _ _
    · rw [z]; exact Nat.le_add_right _ _
    · rw [z]; exact Nat.le_add_right _ _
    · rw [z]; exact Nat.le_refl _
    · rw [z]; exact Nat.le_add_right _ _
  exact I1.fpOk hle (I1.hok.fresh hle)
theorem pi_zip3S {e e2 e3 : Expr} {ta : TA} (hg : Gl X "zip") (hm : X.mg "zip" = none) (ha : PA X [e, e2, e3] ta)
    (hs : starEach [e, e2, e3] X.env = (false, eval e X.env) :: starEach [e2, e3] X.env := by rfl) (hpl : (backTo pos (starEach [e2, e3] X.env)).any (·.1) = false := by rfl) :
    PI X (.Tuple elts kk tpos) (.Call (.Name "zip" p) [e, e2, e3] [] pos) (iSrc3 X.K ta) := by
  refine ⟨fun pins s σ H R I h => ?_⟩
  refine PyProof.Rows.Call_ (ld_blt I hg hm PyProof.Rows.boot_zip (PyProof.Rows.callWith_type1 (thn (ha.run pos pins s σ H _ I h) fun us s1 ⟨vs, H1, I1, r1, q1⟩ => ?_) hs hpl))
  obtain ⟨src, src2, src3, xs, ys, zs, ex, hq, hq2, hq3, q⟩ := q1
  subst ex
  obtain ⟨u1, u2, u3, rfl, r1, r2, r3⟩ : ∃ u1 u2 u3, us = [u1, u2, u3] ∧ RelV (.ref src.a) u1 ∧ RelV (.ref src2.a) u2 ∧ RelV (.ref src3.a) u3 := by
    cases r1 with
    | cons a r => cases r with
      | cons b r => cases r with
        | cons c r => cases r; exact ⟨_, _, _, rfl, a, b, c⟩
  cases r1
  cases r2
  cases r3
  obtain ⟨its, rv, p1⟩ := src_inv I1 hq
  obtain ⟨its2, rv2, p2⟩ := src_inv I1 hq2
  obtain ⟨its3, rv3, p3⟩ := src_inv I1 hq3
  refine zip_begins3 (src_begins its.toArray) (src_begins its2.toArray) (src_begins its3.toArray) p1 p2 p3 fun h' hz hTI hTO h1 h2 h3 hsz hk => wpAny_pyIter_zip hz ?_
  have I2 : Inv X pins σ H1 { s1 with heap := h' } := I1.kept (t' := s1.toks) hk
  refine ⟨s1.heap.objs.size + 5, [s1.heap.objs.size + 5, s1.heap.objs.size + 3, s1.heap.objs.size + 4, s1.heap.objs.size, s1.heap.objs.size + 1, s1.heap.objs.size + 2], _, _, H1, rfl, I2,
    turn_zip3 (zip_sep3 (lt1 (src_lt p1)) (lt1 (src_lt p2)) (lt1 (src_lt p3))) (Nat.ne_of_lt (src_lt p1)) (Nat.ne_of_lt (Nat.lt_succ_of_lt (src_lt p2))) (Nat.ne_of_lt (Nat.lt_succ_of_lt (Nat.lt_succ_of_lt (src_lt p3)))), ⟨hz, hTI, ⟨_, _, _, hTO⟩, src_it0 h1, src_it0 h2, src_it0 h3⟩, fun c hcm => ?_, q⟩
  have e' : c = s1.heap.objs.size + 5 ∨ c = s1.heap.objs.size + 3 ∨ c = s1.heap.objs.size + 4 ∨ c = s1.heap.objs.size ∨ c = s1.heap.objs.size + 1 ∨ c = s1.heap.objs.size + 2 := by simpa using hcm
  have hle : s1.heap.objs.size ≤ c := by
    rcases e' with z | z | z | z | z | z
    · rw [z]; exact Nat.le_add_right _ _
    · rw [z]; exact Nat.le_add_right _ _
    · rw [z]; exact Nat.le_add_right _ _
    · rw [z]; exact Nat.le_refl _
    · rw [z]; exact Nat.le_add_right _ _
    · rw [z]; exact Nat.le_add_right _ _
  exact I1.fpOk hle (I1.hok.fresh hle)
end

/-! ### over data -/
def zipD (xs ys : List D) : List D := List.zipWith (fun x y => PyData.tuple [x, y]) xs ys
def zip3D : List D → List D → List D → List D
  | x :: xs, y :: ys, z :: zs => .tuple [x, y, z] :: zip3D xs ys zs
  | _, _, _ => []
theorem zipD_len {xs ys : List D} : (zipD xs ys).length = min xs.length ys.length := by simp [zipD]
theorem zip3D_len : ∀ {xs ys zs : List D}, (zip3D xs ys zs).length = min (min xs.length ys.length) zs.length
  | [], _, _ => by simp [zip3D]
  | _ :: _, [], _ => by simp [zip3D]
  | _ :: _, _ :: _, [] => by simp [zip3D]
  | _ :: xs, _ :: ys, _ :: zs => by
    show (zip3D xs ys zs).length + 1 = _
    rw [zip3D_len]
    simp only [List.length_cons]
    omega
theorem zipD_get {xs ys : List D} {i : Nat} {d e : D} (h : xs[i]? = some d) (h2 : ys[i]? = some e) : (zipD xs ys)[i]? = some (.tuple [d, e]) := by
  simp [zipD, List.getElem?_zipWith, h, h2]
theorem zip3D_get : ∀ {xs ys zs : List D} {i : Nat} {d e f : D}, xs[i]? = some d → ys[i]? = some e → zs[i]? = some f → (zip3D xs ys zs)[i]? = some (.tuple [d, e, f])
  | [], _, _, i, _, _, _, h, _, _ => by simp at h
  | _ :: _, [], _, i, _, _, _, _, h, _ => by simp at h
  | _ :: _, _ :: _, [], i, _, _, _, _, _, h => by simp at h
  | x :: xs, y :: ys, z :: zs, 0, d, e, f, h1, h2, h3 => by
    simp at h1 h2 h3
    subst h1 h2 h3
    rfl
  | x :: xs, y :: ys, z :: zs, i + 1, d, e, f, h1, h2, h3 => by
    show (zip3D xs ys zs)[i]? = _
    exact zip3D_get (by simpa using h1) (by simpa using h2) (by simpa using h3)
/-- a new tuple at each turn -/
theorem tupD {F H : Hp} {K : PySem.W.Frag} {T : Addr} {vs : List V} {ds : List D} (s : Same F H) (h : H T = none) (hx : DqAll K F vs ds) :
    ∃ F', Same F F' ∧ Same F' (upd H T (.tup vs)) ∧ Same H (upd H T (.tup vs)) ∧ Nw F F' H ∧ Dq K F' (.ref T) (.tuple ds) := by
  have hF := s.free h
  refine ⟨upd F T (.tup vs), upd_same_of hF, fun b u hb => ?_, upd_same_of h, fun a h1 h2 => ?_, .tup (SqT.of upd_same) (dpAll_mono (upd_same_of hF) _ _ hx)⟩
  · by_cases z : b = T
    · subst z; rw [upd_same] at hb ⊢; exact hb
    · rw [upd_ne z] at hb ⊢; exact s _ _ hb
  · by_cases z : a = T
    · subst z; exact ⟨h, fun o e => by rw [upd_same] at e; cases e; exact nt_tup⟩
    · rw [upd_ne z] at h2; exact absurd h1 h2
section
variable {K : PySem.W.Frag} {src s1 s2 s3 : Src} {xs ys zs : List D}
def SrcG (K : PySem.W.Frag) (src : Src) (xs : List D) (F H : Hp) : Prop := ∃ vs, src.sq K H vs ∧ DqAll K F vs xs
theorem walkD_enumS : WalkD K (IteS K src) (enumD xs) (SrcG K src xs) where
  go := fun i F H hi _ ⟨vs, h1, h2⟩ => ⟨vs, vs[i]'(by rw [h2.len]; rw [enumD_len] at hi; exact hi), h1, by rw [enumD_len] at hi; simp [h2.len, hi]⟩
  stop := fun F H _ ⟨vs, h1, h2⟩ => ⟨vs, h1, by rw [enumD_len]; exact h2.len⟩
  yld := fun i F H x H' hi s ⟨vs, h1, h2⟩ ⟨T, u, e1, e2, e3, y⟩ => by
    subst e1 e3
    obtain ⟨d, h3, h4⟩ := h2.getV (y vs h1)
    obtain ⟨F', q1, q2, q3, q4, q5⟩ := tupD s e2 (.cons (.int (i : Nat)) (.cons h4 .nil))
    exact ⟨F', _, enumD_get h3, q1, q2, q3, q4, q5⟩
theorem get_some {α : Type} {l : List α} {i : Nat} (h : i < l.length) : ∃ x, l[i]? = some x := ⟨l[i], by simp [h]⟩
theorem walkD_zip2 : WalkD K (Itz2 K s1 s2) (zipD xs ys) (fun F H => SrcG K s1 xs F H ∧ SrcG K s2 ys F H) where
  go := fun i F H hi _ ⟨⟨vs, h1, h2⟩, ⟨ws, h3, h4⟩⟩ => by
    rw [zipD_len] at hi
    obtain ⟨v, hv⟩ := get_some (l := vs) (i := i) (by rw [h2.len]; omega)
    obtain ⟨w, hw⟩ := get_some (l := ws) (i := i) (by rw [h4.len]; omega)
    exact ⟨vs, ws, v, w, h1, h3, hv, hw⟩
  stop := fun F H _ ⟨⟨vs, h1, h2⟩, ⟨ws, h3, h4⟩⟩ => ⟨vs, ws, h1, h3, by rw [zipD_len, h2.len, h4.len]⟩
  yld := fun i F H x H' hi s ⟨⟨vs, h1, h2⟩, ⟨ws, h3, h4⟩⟩ ⟨T, u, u2, e1, e2, e3, y, y2⟩ => by
    subst e1 e3
    obtain ⟨d, g3, g4⟩ := h2.getV (y vs h1)
    obtain ⟨e, g5, g6⟩ := h4.getV (y2 ws h3)
    obtain ⟨F', q1, q2, q3, q4, q5⟩ := tupD s e2 (.cons g4 (.cons g6 .nil))
    exact ⟨F', _, zipD_get g3 g5, q1, q2, q3, q4, q5⟩
theorem walkD_zip3 : WalkD K (Itz3 K s1 s2 s3) (zip3D xs ys zs) (fun F H => SrcG K s1 xs F H ∧ SrcG K s2 ys F H ∧ SrcG K s3 zs F H) where
  go := fun i F H hi _ ⟨⟨vs, h1, h2⟩, ⟨ws, h3, h4⟩, ⟨us, h5, h6⟩⟩ => by
    rw [zip3D_len] at hi
    obtain ⟨v, hv⟩ := get_some (l := vs) (i := i) (by rw [h2.len]; omega)
    obtain ⟨w, hw⟩ := get_some (l := ws) (i := i) (by rw [h4.len]; omega)
    obtain ⟨u, hu⟩ := get_some (l := us) (i := i) (by rw [h6.len]; omega)
    exact ⟨vs, ws, us, v, w, u, h1, h3, h5, hv, hw, hu⟩
  stop := fun F H _ ⟨⟨vs, h1, h2⟩, ⟨ws, h3, h4⟩, ⟨us, h5, h6⟩⟩ => ⟨vs, ws, us, h1, h3, h5, by rw [zip3D_len, h2.len, h4.len, h6.len]⟩
  yld := fun i F H x H' hi s ⟨⟨vs, h1, h2⟩, ⟨ws, h3, h4⟩, ⟨us, h5, h6⟩⟩ ⟨T, u, u2, u3, e1, e2, e3, y, y2, y3⟩ => by
    subst e1 e3
    obtain ⟨d, g3, g4⟩ := h2.getV (y vs h1)
    obtain ⟨e, g5, g6⟩ := h4.getV (y2 ws h3)
    obtain ⟨f, g7, g8⟩ := h6.getV (y3 us h5)
    obtain ⟨F', q1, q2, q3, q4, q5⟩ := tupD s e2 (.cons g4 (.cons g6 (.cons g8 .nil)))
    exact ⟨F', _, zip3D_get g3 g5 g7, q1, q2, q3, q4, q5⟩
end

/-! ### for: what is walked is frozen -/
theorem src_frz {K : PySem.W.Frag} {F H : Hp} {v : V} {d : D} {k : List D → Prop} (s : Same F H) (p : Dq K F v d) (h : seqW d k) : ∃ (src : Src) (xs : List D), v = .ref src.a ∧ k xs ∧ ∀ F2 H2, Same F F2 → Same F2 H2 → SrcG K src xs F2 H2 := by
  cases d with
  | list xs =>
    cases p with
    | lst h3 h4 => exact ⟨⟨false, _⟩, xs, rfl, h, fun F2 H2 x1 x2 => ⟨_, x2.seq (x1.seq h3), dpAll_mono x1 _ _ h4⟩⟩
  | tuple xs =>
    cases p with
    | tup h3 h4 => exact ⟨⟨true, _⟩, xs, rfl, h, fun F2 H2 x1 x2 => ⟨_, Same.sqT x2 (Same.sqT x1 h3), dpAll_mono x1 _ _ h4⟩⟩
  | _ => exact (show False from h).elim
def seq1 (ds : List D) (k : List D → Prop) : Prop := match ds with
  | [d] => seqW d k
  | _ => False
def seq2 (ds : List D) (k : List D → List D → Prop) : Prop := match ds with
  | [d, e] => seqW d fun xs => seqW e fun ys => k xs ys
  | _ => False
def seq3 (ds : List D) (k : List D → List D → List D → Prop) : Prop := match ds with
  | [d, e, f] => seqW d fun xs => seqW e fun ys => seqW f fun zs => k xs ys zs
  | _ => False
def diEnum (t : DTA) : DTI := fun τ q => t τ fun es τ1 => frzs es τ1 fun ds τ2 => seq1 ds fun xs => q (enumD xs) τ2
def diZip2 (t : DTA) : DTI := fun τ q => t τ fun es τ1 => frzs es τ1 fun ds τ2 => seq2 ds fun xs ys => q (zipD xs ys) τ2
def diZip3 (t : DTA) : DTI := fun τ q => t τ fun es τ1 => frzs es τ1 fun ds τ2 => seq3 ds fun xs ys zs => q (zip3D xs ys zs) τ2
section
variable {X : Cx} {ta : DTA} {p pos tpos : Pos} {elts : List Expr} {kk : Nat}
theorem di_enum {e : Expr} (hg : Gl X "enumerate") (hm : X.mg "enumerate" = none) (ha : DA X [e] ta) (hs : starEach [e] X.env = [(false, eval e X.env)] := by rfl) : DI X (.Tuple elts kk tpos) (.Call (.Name "enumerate" p) [e] [] pos) (diEnum ta) := by
  refine pi_imp (pi_enumS hg hm ha hs) fun σ H Rr ⟨Z, F, τ, q, r, ht, k⟩ => ?_
  refine ⟨Z, F, τ, _, r, ht, fun F1 τ1 H1 ws r1 g1 e1 h1 => ?_⟩
  obtain ⟨F2, τ2, ds, r2, g2, p2, h2, s2, _⟩ := frzs_ok r1 g1 e1 h1
  revert p2 h2
  generalize ws.map (·.2) = vs
  intro p2 h2
  cases p2 with
  | nil => exact (show False from h2).elim
  | cons d1 p2 =>
    cases p2 with
    | cons _ _ => exact (show False from h2).elim
    | nil =>
      obtain ⟨src, xs, rfl, h3, G⟩ := src_frz r2.sub d1 h2
      obtain ⟨us, hq, _⟩ := G F2 H1 (Same.refl _) r2.sub
      exact ⟨src, us, rfl, hq, k F2 τ2 H1 _ _ _ r2 g2 walkD_enumS G h3⟩
theorem di_zip2 {e e2 : Expr} (hg : Gl X "zip") (hm : X.mg "zip" = none) (ha : DA X [e, e2] ta) (hs : starEach [e, e2] X.env = (false, eval e X.env) :: starEach [e2] X.env := by rfl) (hpl : (backTo pos (starEach [e2] X.env)).any (·.1) = false := by rfl) :
    DI X (.Tuple elts kk tpos) (.Call (.Name "zip" p) [e, e2] [] pos) (diZip2 ta) := by
  refine pi_imp (pi_zip2S hg hm ha hs hpl) fun σ H Rr ⟨Z, F, τ, q, r, ht, k⟩ => ?_
  refine ⟨Z, F, τ, _, r, ht, fun F1 τ1 H1 ws r1 g1 e1 h1 => ?_⟩
  obtain ⟨F2, τ2, ds, r2, g2, p2, h2, s2, _⟩ := frzs_ok r1 g1 e1 h1
  revert p2 h2
  generalize ws.map (·.2) = vs
  intro p2 h2
  cases p2 with
  | nil => exact (show False from h2).elim
  | cons d1 p2 =>
    cases p2 with
    | nil => exact (show False from h2).elim
    | cons d2 p2 =>
      cases p2 with
      | cons _ _ => exact (show False from h2).elim
      | nil =>
        obtain ⟨src, xs, rfl, h3, G⟩ := src_frz r2.sub d1 h2
        obtain ⟨src2, ys, rfl, h4, G2⟩ := src_frz r2.sub d2 h3
        obtain ⟨us, hq, _⟩ := G F2 H1 (Same.refl _) r2.sub
        obtain ⟨us2, hq2, _⟩ := G2 F2 H1 (Same.refl _) r2.sub
        exact ⟨src, src2, us, us2, rfl, hq, hq2, k F2 τ2 H1 _ _ _ r2 g2 walkD_zip2 (fun F3 H3 x1 x2 => ⟨G F3 H3 x1 x2, G2 F3 H3 x1 x2⟩) h4⟩
theorem di_zip3 {e e2 e3 : Expr} (hg : Gl X "zip") (hm : X.mg "zip" = none) (ha : DA X [e, e2, e3] ta) (hs : starEach [e, e2, e3] X.env = (false, eval e X.env) :: starEach [e2, e3] X.env := by rfl) (hpl : (backTo pos (starEach [e2, e3] X.env)).any (·.1) = false := by rfl) :
    DI X (.Tuple elts kk tpos) (.Call (.Name "zip" p) [e, e2, e3] [] pos) (diZip3 ta) := by
  refine pi_imp (pi_zip3S hg hm ha hs hpl) fun σ H Rr ⟨Z, F, τ, q, r, ht, k⟩ => ?_
  refine ⟨Z, F, τ, _, r, ht, fun F1 τ1 H1 ws r1 g1 e1 h1 => ?_⟩
  obtain ⟨F2, τ2, ds, r2, g2, p2, h2, s2, _⟩ := frzs_ok r1 g1 e1 h1
  revert p2 h2
  generalize ws.map (·.2) = vs
  intro p2 h2
  cases p2 with
  | nil => exact (show False from h2).elim
  | cons d1 p2 =>
    cases p2 with
    | nil => exact (show False from h2).elim
    | cons d2 p2 =>
      cases p2 with
      | nil => exact (show False from h2).elim
      | cons d3 p2 =>
        cases p2 with
        | cons _ _ => exact (show False from h2).elim
        | nil =>
          obtain ⟨src, xs, rfl, h3, G⟩ := src_frz r2.sub d1 h2
          obtain ⟨src2, ys, rfl, h4, G2⟩ := src_frz r2.sub d2 h3
          obtain ⟨src3, zs, rfl, h5, G3⟩ := src_frz r2.sub d3 h4
          obtain ⟨us, hq, _⟩ := G F2 H1 (Same.refl _) r2.sub
          obtain ⟨us2, hq2, _⟩ := G2 F2 H1 (Same.refl _) r2.sub
          obtain ⟨us3, hq3, _⟩ := G3 F2 H1 (Same.refl _) r2.sub
          exact ⟨src, src2, src3, us, us2, us3, rfl, hq, hq2, hq3, k F2 τ2 H1 _ _ _ r2 g2 walkD_zip3 (fun F3 H3 x1 x2 => ⟨G F3 H3 x1 x2, G2 F3 H3 x1 x2, G3 F3 H3 x1 x2⟩) h5⟩
end

/-! ### comprehensions: nothing is frozen -/
def srcW (τ1 : DSt) (ev : EV) (k : List D → (DSt → Prop) → Prop) : Prop := match ev with
  | .slot i => lstW τ1[i]? fun mk xs => k xs (fun τ2 => τ2[i]? = some (mk xs))
  | .dat d => seqW d fun xs => k xs (fun _ => True)
  | .tmp xs => k xs (fun _ => True)
theorem src_ok {K : PySem.W.Frag} {Z : Fz} {Hb F1 H1 : Hp} {τ1 : DSt} {σ : L2.St} {ev : EV} {v : V} {k : List D → (DSt → Prop) → Prop} (r1 : R K Z F1 τ1 σ H1) (e1 : EVR K Z Hb F1 H1 τ1 σ ev v) (h1 : srcW τ1 ev k) :
    ∃ (src : Src) (xs : List D) (stay : DSt → Prop), v = .ref src.a ∧ k xs stay ∧ (∃ vs, src.sq K H1 vs) ∧
      ∀ F2 τ2 σ2 H2, R K Z F2 τ2 σ2 H2 → Sub2 σ2 σ → Same F1 F2 → (∀ a o, H1 a = some o → NT o → ¬ Own τ1 σ a → H2 a = some o) → stay τ2 → SrcG K src xs F2 H2 := by
  cases ev with
  | dat d =>
    have p2 : Dq K F1 v d := e1
    cases d with
    | list xs =>
      cases p2 with
      | lst h3 h4 => exact ⟨⟨false, _⟩, xs, _, rfl, h1, ⟨_, r1.sub.seq h3⟩, fun F3 τ3 σ3 H3 r3 _ x1 _ _ => ⟨_, r3.sub.seq (x1.seq h3), dpAll_mono x1 _ _ h4⟩⟩
    | tuple xs =>
      cases p2 with
      | tup h3 h4 => exact ⟨⟨true, _⟩, xs, _, rfl, h1, ⟨_, Same.sqT r1.sub h3⟩, fun F3 τ3 σ3 H3 r3 _ x1 _ _ => ⟨_, Same.sqT r3.sub (Same.sqT x1 h3), dpAll_mono x1 _ _ h4⟩⟩
    | _ => exact (show False from h1).elim
  | tmp xs =>
    obtain ⟨a, vs, e0, q1, q2, q3, q4, q5, q6⟩ := e1
    subst e0
    exact ⟨⟨false, a⟩, xs, _, rfl, h1, ⟨vs, SqL.of q1⟩, fun F3 τ3 σ3 H3 r3 _ x1 x2 _ => ⟨vs, SqL.of (x2 a _ q1 nt_lst q5), dpAll_mono x1 _ _ q6⟩⟩
  | slot i =>
    have h1 : lstW τ1[i]? fun mk xs => k xs (fun τ2 => τ2[i]? = some (mk xs)) := h1
    obtain ⟨mk, xs, hm, ho, h1⟩ := lstW_of h1
    obtain ⟨a, vs, q0, q1, q2, q3⟩ := slot_lst r1 hm ho
    have z := e1.1
    rw [q0] at z
    cases z
    exact ⟨⟨false, a⟩, xs, _, rfl, h1, ⟨vs, SqL.of q1⟩, fun F3 τ3 σ3 H3 r3 sb x1 x2 st => by
      obtain ⟨a', vs', z0, z1, z2, z3⟩ := slot_lst r3 hm st
      have z4 := sb i _ z0
      rw [q0] at z4
      cases z4
      exact ⟨vs', SqL.of z1, z3⟩⟩
def dcEnum (t : DTA) : DTC := fun τ q => t τ fun es τ1 => match es with
  | [e] => srcW τ1 e fun xs stay => q (enumD xs) stay τ1
  | _ => False
def dcZip2 (t : DTA) : DTC := fun τ q => t τ fun es τ1 => match es with
  | [e, e2] => srcW τ1 e fun xs stay => srcW τ1 e2 fun ys stay2 => q (zipD xs ys) (fun τ => stay τ ∧ stay2 τ) τ1
  | _ => False
def dcZip3 (t : DTA) : DTC := fun τ q => t τ fun es τ1 => match es with
  | [e, e2, e3] => srcW τ1 e fun xs stay => srcW τ1 e2 fun ys stay2 => srcW τ1 e3 fun zs stay3 => q (zip3D xs ys zs) (fun τ => stay τ ∧ stay2 τ ∧ stay3 τ) τ1
  | _ => False
section
variable {X : Cx} {ta : DTA} {p pos tpos : Pos} {elts : List Expr} {kk : Nat}
theorem dc_enum {e : Expr} (hg : Gl X "enumerate") (hm : X.mg "enumerate" = none) (ha : DA X [e] ta) (hs : starEach [e] X.env = [(false, eval e X.env)] := by rfl) : DC X (.Tuple elts kk tpos) (.Call (.Name "enumerate" p) [e] [] pos) (dcEnum ta) := by
  refine pi_imp (pi_enumS hg hm ha hs) fun σ H Rr ⟨Z, F, τ, q, r, ht, k⟩ => ?_
  refine ⟨Z, F, τ, _, r, ht, fun F1 τ1 H1 ws r1 g1 e1 h1 => ?_⟩
  match ws, e1, h1 with
  | [(ev, v)], e1, h1 =>
    obtain ⟨src, xs, stay, e0, h2, ⟨vs, hq⟩, G⟩ := src_ok r1 (e1.1 _ List.mem_cons_self) h1
    have e0 : v = .ref src.a := e0
    subst e0
    exact ⟨src, vs, rfl, hq, k F1 τ1 H1 _ _ stay _ r1 g1 walkD_enumS (fun F2 τ2 σ2 H2 a b c d e => G F2 τ2 σ2 H2 a b c d e) h2⟩
theorem dc_zip2 {e e2 : Expr} (hg : Gl X "zip") (hm : X.mg "zip" = none) (ha : DA X [e, e2] ta) (hs : starEach [e, e2] X.env = (false, eval e X.env) :: starEach [e2] X.env := by rfl) (hpl : (backTo pos (starEach [e2] X.env)).any (·.1) = false := by rfl) :
    DC X (.Tuple elts kk tpos) (.Call (.Name "zip" p) [e, e2] [] pos) (dcZip2 ta) := by
  refine pi_imp (pi_zip2S hg hm ha hs hpl) fun σ H Rr ⟨Z, F, τ, q, r, ht, k⟩ => ?_
  refine ⟨Z, F, τ, _, r, ht, fun F1 τ1 H1 ws r1 g1 e1 h1 => ?_⟩
  match ws, e1, h1 with
  | [(ev, v), (ev2, v2)], e1, h1 =>
    obtain ⟨src, xs, stay, e0, h2, ⟨vs, hq⟩, G⟩ := src_ok r1 (e1.1 _ List.mem_cons_self) h1
    obtain ⟨src2, ys, stay2, e02, h3, ⟨vs2, hq2⟩, G2⟩ := src_ok r1 (e1.1 _ (List.mem_cons_of_mem _ List.mem_cons_self)) h2
    have e0 : v = .ref src.a := e0
    have e02 : v2 = .ref src2.a := e02
    subst e0 e02
    exact ⟨src, src2, vs, vs2, rfl, hq, hq2, k F1 τ1 H1 _ _ _ _ r1 g1 walkD_zip2 (fun F2 τ2 σ2 H2 a b c d e => ⟨G F2 τ2 σ2 H2 a b c d e.1, G2 F2 τ2 σ2 H2 a b c d e.2⟩) h3⟩
theorem dc_zip3 {e e2 e3 : Expr} (hg : Gl X "zip") (hm : X.mg "zip" = none) (ha : DA X [e, e2, e3] ta) (hs : starEach [e, e2, e3] X.env = (false, eval e X.env) :: starEach [e2, e3] X.env := by rfl) (hpl : (backTo pos (starEach [e2, e3] X.env)).any (·.1) = false := by rfl) :
    DC X (.Tuple elts kk tpos) (.Call (.Name "zip" p) [e, e2, e3] [] pos) (dcZip3 ta) := by
  refine pi_imp (pi_zip3S hg hm ha hs hpl) fun σ H Rr ⟨Z, F, τ, q, r, ht, k⟩ => ?_
  refine ⟨Z, F, τ, _, r, ht, fun F1 τ1 H1 ws r1 g1 e1 h1 => ?_⟩
  match ws, e1, h1 with
  | [(ev, v), (ev2, v2), (ev3, v3)], e1, h1 =>
    obtain ⟨src, xs, stay, e0, h2, ⟨vs, hq⟩, G⟩ := src_ok r1 (e1.1 _ List.mem_cons_self) h1
    obtain ⟨src2, ys, stay2, e02, h3, ⟨vs2, hq2⟩, G2⟩ := src_ok r1 (e1.1 _ (List.mem_cons_of_mem _ List.mem_cons_self)) h2
    obtain ⟨src3, zs, stay3, e03, h4, ⟨vs3, hq3⟩, G3⟩ := src_ok r1 (e1.1 _ (List.mem_cons_of_mem _ (List.mem_cons_of_mem _ List.mem_cons_self))) h3
    have e0 : v = .ref src.a := e0
    have e02 : v2 = .ref src2.a := e02
    have e03 : v3 = .ref src3.a := e03
    subst e0 e02 e03
    exact ⟨src, src2, src3, vs, vs2, vs3, rfl, hq, hq2, hq3, k F1 τ1 H1 _ _ _ _ r1 g1 walkD_zip3 (fun F2 τ2 σ2 H2 a b c d e => ⟨G F2 τ2 σ2 H2 a b c d e.1, G2 F2 τ2 σ2 H2 a b c d e.2.1, G3 F2 τ2 σ2 H2 a b c d e.2.2⟩) h4⟩
end
end DL
set_option Elab.async false
set_option linter.all false
set_option maxRecDepth 100000
set_option maxHeartbeats 400000
namespace DL
open PySem L2

/-! ### the law's end -/
/-- what a law promises: on a list of at most 63 ints it gives True -/
def lawSp : DSp := fun as q => ∃ ns : List Int, as = [.dat (.list (ns.map PyData.int))] ∧ ns.length ≤ 63 ∧ q (.dat (.bool true)) []
theorem ints_dq {K : PySem.W.Frag} {F : Hp} : ∀ ns : List Int, DqAll K F (ns.map V.int) (ns.map PyData.int)
  | [] => .nil
  | _ :: r => .cons (.int _) (ints_dq r)
/-- what the law holds: the script, the tables; nothing else is tracked -/
def scriptHp (K : PySem.W.Frag) (a : Addr) (ob : Obj) (xs : List V) : Hp := fun b => if b = a then (if (K.lookup a).isSome = true then none else some (.frz ob (.lst xs))) else if b ∈ (lamC K).map (·.2) then some (.tbl #[]) else none
theorem scriptHp_off {K : PySem.W.Frag} {a : Addr} {ob : Obj} {xs : List V} {b : Addr} (h : b ≠ a) (h2 : b ∉ (lamC K).map (·.2)) : scriptHp K a ob xs b = none := (if_neg h).trans (if_neg h2)
theorem scriptHp_tab {K : PySem.W.Frag} {a : Addr} {ob : Obj} {xs : List V} {b : Addr} (h : b ≠ a) (h2 : b ∈ (lamC K).map (·.2)) : scriptHp K a ob xs b = some (.tbl #[]) := (if_neg h).trans (if_pos h2)
theorem scriptHp_some {K : PySem.W.Frag} {a : Addr} {ob : Obj} {xs : List V} {b : Addr} {u : HO} (h : scriptHp K a ob xs b = some u) : (b = a ∧ K.lookup a = none ∧ u = .frz ob (.lst xs)) ∨ (b ≠ a ∧ b ∈ (lamC K).map (·.2) ∧ u = .tbl #[]) := by
  by_cases z : b = a
  · subst z
    unfold scriptHp at h
    rw [if_pos rfl] at h
    cases e : K.lookup b with
    | none =>
      rw [e, if_neg (by simp)] at h
      cases h
      exact .inl ⟨rfl, rfl, rfl⟩
    | some o => rw [e] at h; cases h
  · by_cases z2 : b ∈ (lamC K).map (·.2)
    · rw [scriptHp_tab z z2] at h; cases h
      exact .inr ⟨z, z2, rfl⟩
    · rw [scriptHp_off z z2] at h; cases h
/-- what a lambda asks of the top -/
def LamB (K : PySem.W.Frag) (mg : Str → Option Value) (base : Heap) : Prop := ∀ p ∈ lamC K, LamX.TabB base mg p.1 p.2
section
variable {P : Program} {w : World} {K : PySem.W.Frag} {mg mb : Str → Option Value} {k : Nat} {fa a : Addr} {fd : FuncData} {x : Str} {s₁ : Shared} {vs : List Value} {ns : List Int}
theorem law_end (KX : K.In s₁.heap) (hns : s₁.heap.Ns mainGlobals mg) (hb : s₁.heap.Ns builtinsNs mb) (hbb : ∀ x : Str, x ≠ "__name__" → mb x = bootBuiltins x) (hlim : s₁.heap.NoLimit) (hg : s₁.gens = #[])
    (hT : ∀ p ∈ lamC K, s₁.heap.get? p.2 = some { cls := .none, data := .fields #[] }) (nT : ∀ p ∈ lamC K, K.lookup p.2 = none) (C : ∀ p ∈ lamC K, PySem.W.CodeHd s₁.heap p.1 p.2)
    (hbm : ∃ (bm : Addr) (ob : Obj), mg "__builtins__" = some (.ref bm) ∧ bm ≠ builtinsNs ∧ s₁.heap.get? bm = some ob ∧ ob.cls = .type "module" ∧ ob.dict = some builtinsNs ∧ ob.data = .plain)
    (ha : s₁.heap.get? a = some { cls := .type "list", data := .seq vs.toArray }) (hi : PyProof.Rows.IntsAre vs ns) (hl : ns.length ≤ 63) (hr : Room k callerA)
    (F : ∀ base : Heap, K.In base → base.Ns mainGlobals mg → LamB K mg base → FnG P w K mg base k fa fd [x] (toSp K lawSp)) (hbind : ∀ (s : Shared) (u : Value), BindsTo s fd ⟨[u], []⟩ [(x, u)]) :
    codeAny (model P w) callerA (.call (.ref fa) ⟨[.ref a], []⟩) (fun r s' => r = .ok (.ret (.bool true)) ∧ OldK s₁.heap s'.heap ∧ s'.os = s₁.os ∧ PyProof.Rows.AllBare s'.gens) s₁ := by
  have hz : ns.length ≤ sizeLine := Nat.le_trans hl (by decide)
  let H : Hp := scriptHp K a { cls := .type "list", data := .seq vs.toArray } (ns.map V.int)
  have rv := vals_ints hi
  have isT : ∀ b : Addr, b ∈ (lamC K).map (·.2) → s₁.heap.get? b = some { cls := .none, data := .fields #[] } ∧ K.lookup b = none := fun b hb => by
    obtain ⟨p, hp, e⟩ := List.mem_map.mp hb
    rw [← e]
    exact ⟨hT p hp, nT p hp⟩
  have aT : a ∉ (lamC K).map (·.2) := fun z => by
    have q := (isT a z).1
    rw [ha] at q
    have z' : Data.seq vs.toArray _ = Data.fields #[] := congrArg Obj.data (Option.some.inj q)
    cases z'
  have memT : ∀ p ∈ lamC K, p.2 ∈ (lamC K).map (·.2) := fun p hp => List.mem_map.mpr ⟨p, hp, rfl⟩
  have sq : SqL K H a (ns.map V.int) := by
    cases e : K.lookup a with
    | none => exact .inl (.inr ⟨{ cls := .type "list", data := .seq vs.toArray }, by show scriptHp K a _ _ a = _; unfold scriptHp; rw [if_pos rfl, e]; rfl⟩)
    | some o =>
      have e2 := KX a o e
      rw [ha] at e2
      cases e2
      exact .inr ⟨_, vs.toArray, _, e, rfl, rfl, rfl, by rw [List.size_toArray, hi.length]; exact hz, by simpa using rv⟩
  have okH : HOk P w H s₁.heap := fun b u hu => by
    rcases scriptHp_some hu with ⟨rfl, _, rfl⟩ | ⟨_, z, rfl⟩
    · exact ⟨ha, by rw [List.length_map]; exact hz, vs, _, rv, ha⟩
    · exact (isT b z).1
  have off : ∀ {b : Addr} {o : Obj}, s₁.heap.get? b = some o → (∀ vs n, o.data ≠ .seq vs n) → o.data ≠ .fields #[] → H b = none := fun {b o} e h1 h2 => none_of fun z => by
    obtain ⟨u, z⟩ := ne_some z
    rcases scriptHp_some z with ⟨rfl, _, _⟩ | ⟨_, y, _⟩
    · rw [ha] at e
      cases e
      exact h1 _ _ rfl
    · rw [(isT b y).1] at e
      cases e
      exact h2 rfl
  have offD : ∀ {b : Addr} {o : Obj} {es : Array DictEntry} {ep : Nat}, s₁.heap.get? b = some o → o.data = .dict es ep → H b = none := fun {b o es ep} e d => by
    refine off e (fun vs n z => ?_) fun z => ?_
    · rw [d] at z; cases z
    · rw [d] at z; cases z
  have nsT : ∀ {b : Addr} {m : Str → Option Value}, s₁.heap.Ns b m → (hidT s₁.heap H).Ns b m := fun {b m} ⟨o, es, ep, e, d, r⟩ => ⟨o, es, ep, hidT_get e (offD e d), d, r⟩
  have kT : K.In (hidT s₁.heap H) := fun b o e => hidT_get (KX b o e) (none_of fun z => by
    obtain ⟨u, z⟩ := ne_some z
    rcases scriptHp_some z with ⟨rfl, z2, _⟩ | ⟨_, y, _⟩
    · rw [e] at z2; cases z2
    · rw [(isT b y).2] at e; cases e)
  have M : Mod K mg (hidT s₁.heap H) := ⟨kT, nsT hns, ⟨mb, nsT hb, hbb⟩, hlim.imp fun mc h => ⟨nsT h.1, h.2⟩⟩
  have TB : LamB K mg (hidT s₁.heap H) := fun p hp => by
    have hTp := hT p hp
    refine ⟨?_, ?_, fun z => ?_⟩
    · obtain ⟨o, us, file, tf, flags, tg, inF, text, tt, e1, r1, r2, r3, r4, r5, r6, r7, r8, hne⟩ := C p hp
      refine ⟨o, us, file, tf, flags, tg, inF, text, tt, hidT_get e1 (off e1 (fun vs n z => ?_) fun z => ?_), r1, r2, r3, r4, r5, r6, r7, r8, hne⟩
      · rw [r2] at z
        cases z
      · rw [r2] at z
        cases z
        simp at r3
    · obtain ⟨bm, ob, b1, b2, b3, b4, b5, b6⟩ := hbm
      have nG : bm ≠ mainGlobals := fun q => by
        obtain ⟨o, es, ep, e, hd, _⟩ := hns
        rw [q, e] at b3
        cases b3
        rw [hd] at b6
        cases b6
      have nP : bm ≠ p.2 := fun q => by
        rw [q, hTp] at b3
        cases b3
        cases b6
      refine ⟨bm, ob, b1, b2, nG, nP, hidT_get b3 (off b3 (fun vs n z => ?_) fun z => ?_), b4, b5, b6⟩
      · rw [b6] at z
        cases z
      · rw [b6] at z
        cases z
    · obtain ⟨o, es, ep, e, hd, _⟩ := hns
      rw [z, hTp] at e
      cases e
      cases hd
  have noF : ∀ {b : Addr}, b ∉ frs ([] : List Env) := fun {b} z => absurd (show b ∈ ([] : List Addr) from z) (by simp)
  have e0 : Env0 P w K mg (hidT s₁.heap H) callerA [] s₁ H := ⟨rfl, M, fun b o e => of_hidT e, Nat.le_of_eq (hidT_size _ _), trivial, fun b hb => absurd hb noF, okH, .of_eq hg⟩
  have tb : LamX.Tabs (lamT K) H := fun p hp => by
    obtain ⟨q, hq, e⟩ := lamT_C hp
    refine LamX.TabS.nil (scriptHp_tab (fun z => aT (by rw [← z, ← e]; exact memT q hq)) (by rw [← e]; exact memT q hq))
  have sp : toSp K lawSp [.ref a] H (fun v _ => v = .bl true) EN := by
    refine ⟨fun b => if b = a then H a else none, [.dat (.list (ns.map PyData.int))], fun r _ => r = .dat (.bool true), ⟨tb, fun b o z => ?_⟩, fun b o z => ?_, .cons (.lst (sq.imp (fun z => ?_) id) (ints_dq ns)) .nil, (fun b hb => nomatch hb), ⟨ns, rfl, hl, rfl⟩, fun F' H' r v ys _ _ _ _ _ _ _ nr hq => ?_⟩
    · by_cases y : b = a
      · subst y
        have z : H b = some o := (if_pos rfl).symm.trans z
        rcases scriptHp_some z with ⟨_, _, rfl⟩ | ⟨y, _, _⟩
        · exact fun _ z => by cases z
        · exact absurd rfl y
      · exact absurd ((if_neg y).symm.trans z) (fun z => by cases z)
    · by_cases y : b = a
      · subst y
        exact (if_pos rfl).symm.trans z
      · exact absurd ((if_neg y).symm.trans z) (fun z => by cases z)
    · exact z.imp (fun z => (if_pos rfl).trans z) fun ⟨o, z⟩ => ⟨o, (if_pos rfl).trans z⟩
    · subst hq
      cases (show Dq K F' v (.bool true) from nr)
      rfl
  refine codeAny_mono ((F _ kT (nsT hns) TB).run callerA [] s₁ H ⟨[.ref a], []⟩ [.ref a] [.ref a] _ ⟨hr, rfl⟩ e0 (hbind s₁ (.ref a)) (.cons rfl .nil) sp) fun r s' h => ?_
  cases r with
  | error e => exact h.elim
  | ok fl =>
    cases fl with
    | ret u =>
      obtain ⟨v, H', os, bare, un, ok', rv', hq⟩ := h
      have hq : v = .bl true := hq
      subst hq
      cases (show u = Value.bool true from rv')
      have key : ∀ b o, b ∉ (lamC K).map (·.2) → s₁.heap.get? b = some o → s'.heap.get? b = some o := fun b o nb e => by
        cases q : H b with
        | none => exact un.keep b o e q noF (by simp)
        | some u =>
          rcases scriptHp_some q with ⟨rfl, _, rfl⟩ | ⟨_, y, _⟩
          · obtain ⟨e2, _⟩ := ok' _ _ (un.frzs _ _ _ q)
            exact e2.trans (ha.symm.trans e)
          · exact absurd y nb
      have grown : ∀ p ∈ lamC K, ∃ more : Array Value, s'.heap.get? p.2 = some { cls := .none, data := .fields more } := fun p hp => by
        obtain ⟨more, z⟩ := un.tbls p.2 #[] (scriptHp_tab (fun z => aT (by rw [← z]; exact memT p hp)) (memT p hp))
        exact ⟨_, ok' p.2 _ z⟩
      refine ⟨rfl, ⟨fun b o e => ?_, fun b o e => ?_⟩, os, bare⟩
      · by_cases hb : b ∈ (lamC K).map (·.2)
        · obtain ⟨p, hp, ep⟩ := List.mem_map.mp hb
          obtain ⟨more, hm⟩ := grown p hp
          rw [← ep] at e ⊢
          rw [hT p hp] at e
          cases e
          exact .inr (.inl ⟨((C p hp).tab (hT p hp)).isCodeTable, rfl, #[], more, rfl, by rw [Array.empty_append]; exact hm⟩)
        · exact .inl (key b o hb e)
      · by_cases hb : b ∈ (lamC K).map (·.2)
        · obtain ⟨p, hp, ep⟩ := List.mem_map.mp hb
          obtain ⟨more, hm⟩ := grown p hp
          rw [← ep]
          exact ⟨_, hm⟩
        · exact ⟨o, key b o hb e⟩
    | _ => exact False.elim h
/-- what the top must hold of the lambdas' defs -/
def lamOkB (q : Program) (K : PySem.W.Frag) : Bool := lamDefs.all fun p => (PyProof.Rows.recsOf q).any (fun e => e.name == p.1) && (match codOf K p.1 with
  | some (_, P) => (K.lookup P).isNone
  | none => false)
theorem codOf_is {h : Heap} {x : Str} {c P a' c' P' : Addr} {o : Obj} {fd' : FuncData} (X : K.In h) (G : h.Ns mainGlobals mg) (e : codOf K x = some (c, P)) (h1 : mg x = some (.ref a')) (h2 : h.get? a' = some o) (h3 : o.data = .func fd') (h4 : fd'.code = .ref c')
    (h6 : h.TableAt c' P' #[]) : c = c' ∧ P = P' := by
  unfold codOf at e
  split at e
  · rename_i a q
    have z := PySem.W.mg_of X G q
    rw [h1] at z
    cases z
    split at e
    · rename_i q2
      have z := X _ _ q2
      rw [h2] at z
      cases z
      cases h3
      split at e
      · rename_i c1 q3
        rw [h4] at q3
        cases q3
        split at e
        · rename_i q4
          have z := X _ _ q4
          obtain ⟨⟨oc, vc, e1, _, e3, e4⟩, _⟩ := h6
          rw [e1] at z
          cases z
          cases e3
          split at e
          · rename_i P1 q5
            have q5 : _ = some (Value.ref P1) := q5
            rw [e4] at q5
            cases q5
            cases e
            exact ⟨rfl, rfl⟩
          · cases e
        · cases e
      · cases e
    · cases e
  · cases e
theorem law_walk {l : PySem.W.OpenLaw} {q : Program} {loose : List Str} {XP : (Str → Option Value) → Heap → Prop} {YP : World → Heap → Prop} {d : DefRec} {K : Params → PySem.W.Frag} (hn : l.most = some 63) (hdf : d.params.defaults = []) (hr : Room k callerA)
    (hY : ∀ (w : World) (h : Heap), YP w h → (K w.params).In h) (hlam : ∀ ps, lamOkB q (K ps) = true)
    (F : ∀ (w : World) (mg : Str → Option Value) (fa : Addr) (h : Heap), (K w.params).In h → h.Ns mainGlobals mg → mg d.name = some (.ref fa) →
      ∃ fd : FuncData, (∀ (s : Shared) (u : Value), BindsTo s fd ⟨[u], []⟩ [(x, u)]) ∧ ∀ base : Heap, (K w.params).In base → base.Ns mainGlobals mg → LamB (K w.params) mg base → FnG l.prog w (K w.params) mg base k fa fd [x] (toSp (K w.params) lawSp)) :
    PySem.W.WalkO q loose XP YP l.row.toRowW d [] (fun f vs => PySem.call f vs) := by
  refine Att.attach_call hn hdf fun w s₀ s₁ mg mb fa o pm cd doc a vs ns G Y ho hd hcd hmg hobj hints hlen hg => ?_
  have KX := hY w _ Y
  obtain ⟨fd, hb, hF⟩ := F w mg fa _ KX G.T.g hmg
  have facts : ∀ p ∈ lamC (K w.params), s₁.heap.get? p.2 = some { cls := .none, data := .fields #[] } ∧ (K w.params).lookup p.2 = none ∧ PySem.W.CodeHd s₁.heap p.1 p.2 := fun p hp => by
    obtain ⟨dn, hdn, e⟩ := List.mem_filterMap.mp hp
    have z := List.all_eq_true.mp (hlam w.params) dn hdn
    rw [Bool.and_eq_true, e] at z
    obtain ⟨z1, z2⟩ := z
    obtain ⟨dL, hm, hn1⟩ := List.any_eq_true.mp z1
    obtain ⟨a', o', fd', c', P', h1, h2, h3, h4, h5, h6⟩ := G.T.tab dL hm
    rw [show dL.name = dn.1 from beq_iff_eq.mp hn1] at h1
    obtain ⟨y1, y2⟩ := codOf_is KX G.T.g (c := p.1) (P := p.2) e h1 h2 h3 h4 h6
    rw [y1, y2]
    refine ⟨h6.2, ?_, PySem.W.CodeHd.of h5 h6⟩
    rw [← y2]
    exact Option.isNone_iff_eq_none.mp z2
  exact law_end KX G.T.g G.T.b G.T.builtins G.T.nolimit hg (fun p hp => (facts p hp).1) (fun p hp => (facts p hp).2.1) (fun p hp => (facts p hp).2.2) G.T.bmain hobj hints hlen hr hF hb
end
end DL
set_option Elab.async false
set_option linter.all false
set_option maxRecDepth 100000
set_option maxHeartbeats 400000
namespace DL
open PySem L2

/-! ### callees by name -/
structure CalG (P : Program) (w : World) (K : PySem.W.Frag) (mg : Str → Option Value) (base : Heap) (k : Nat) (x : Str) (S : DSp) : Prop where
  ex : ∃ (f : Addr) (fd : FuncData) (ps : List Str), FnG P w K mg base k f fd ps (toSp K S) ∧ mg x = some (.ref f) ∧ PySem.W.keepIn K (.ref f) = true ∧ Binds K fd ps []
section
variable {P : Program} {w : World} {K : PySem.W.Frag} {mg : Str → Option Value} {base : Heap}
theorem cal_mk {k : Nat} {x qual : Str} {st : Stmt} {f : Addr} {fd : FuncData} {ps : List Str} {S : DSp} (Fn : Fun K x qual st f fd) (hm : mg x = some (.ref f)) (F : FnG P w K mg base k f fd ps (toSp K S)) (hb : Binds K fd ps []) : CalG P w K mg base k x S :=
  ⟨f, fd, ps, F, hm, Fn.kp, hb⟩
end
section
variable {X : Cx} {j k : Nat} {S : DSp} {x : Str} {p pos : Pos} {e : Expr} {es : List Expr} {ta : DTA}
theorem de_callC {ms : List Bool} (C : CalG X.prog X.w X.K X.mg X.base j x S) (hr : RoomG k X.A) (hj : j ≤ k) (hg : Gl X x) (ha : DA X (e :: es) ta) (hdb : (x == ("__debug__" : Str)) = false := by decide) (he : starEach (e :: es) X.env = (false, eval e X.env) :: starEach es X.env := by rfl) (hpl : (backTo pos (starEach es X.env)).any (·.1) = false := by rfl) :
    DE X (.Call (.Name x p) (e :: es) [] pos) (dCall ms S ta) := by
  obtain ⟨f, fd, ps, F, hm, hk, hb⟩ := C.ex
  exact de_call F (hr.mono hj) hg hm hk hb ha hdb he hpl
theorem de_callIoC {i : Nat} {ms : List Bool} (C : CalG X.prog X.w X.K X.mg X.base j x S) (hr : RoomG k X.A) (hj : j ≤ k) (hg : Gl X x) (ha : DA X (e :: es) ta) (hdb : (x == ("__debug__" : Str)) = false := by decide) (he : starEach (e :: es) X.env = (false, eval e X.env) :: starEach es X.env := by rfl) (hpl : (backTo pos (starEach es X.env)).any (·.1) = false := by rfl) :
    DE X (.Call (.Name x p) (e :: es) [] pos) (dCallIo i ms S ta) := by
  obtain ⟨f, fd, ps, F, hm, hk, hb⟩ := C.ex
  exact de_callIo F (hr.mono hj) hg hm hk hb ha hdb he hpl
theorem de_gI {x : Str} {i : Int} {pos : Pos} (hm : ∃ t, X.mg x = some (.int i t)) (hg : Gl X x) (hd : (x == ("__debug__" : Str)) = false := by decide) : DE X (.Name x pos) (dC (.int i)) := let ⟨_, h⟩ := hm; de_globI hg h hd
theorem de_gS {x : Str} {i : Str} {pos : Pos} (hm : ∃ t, X.mg x = some (.str i t)) (hg : Gl X x) (hd : (x == ("__debug__" : Str)) = false := by decide) : DE X (.Name x pos) (dC (.str i)) := let ⟨_, h⟩ := hm; de_globS hg h hd

theorem de_lcV {elt tg iter : Expr} {ifs : List Expr} {scope : Scope} {vs : List Nat} {pos : Pos} {t : DTC} {is : List Nat} {g : DTG} {tt : DTT} {te : DTE} (own : List (Str × Nat)) (hc : X.calm = true) (hN : X.N.Nodup) (hi : DC X tg iter t) (ok : BlkOk X.N X.env.scope scope own)
    (hg : ∀ (s : Shared) (H : Hp) (C : Addr) (cl : List (Str × Addr)) (fp : List Addr), DG (X.blk s H scope (compEnvC scope cl C X.env) fp) tg is g) (ht : ∀ (s : Shared) (H : Hp) (C : Addr) (cl : List (Str × Addr)) (fp : List Addr), PTsD (X.blk s H scope (compEnvC scope cl C X.env) fp) ifs tt)
    (he : ∀ (s : Shared) (H : Hp) (C : Addr) (cl : List (Str × Addr)) (fp : List Addr), DE (X.blk s H scope (compEnvC scope cl C X.env) fp) elt te) (hvs : own.map (·.2) = vs := by rfl) (hv : ∀ i ∈ is, i ∈ vs := by decide) (hs : ∀ x, foldedSetIterable iter X.env x = pure x := by intro _; rfl) :
    DE X (.ListComp elt [⟨tg, iter, ifs, 0⟩] scope pos) (dLc t g tt te vs) := by
  subst hvs
  exact de_lc hc hN hi ok hg ht he hv hs
theorem ds_setLcV {i : Nat} {y : Str} {py : Pos} {elt tg iter : Expr} {ifs : List Expr} {scope : Scope} {vs : List Nat} {pos spos : Pos} {t : DTC} {is : List Nat} {g : DTG} {tt : DTT} {te : DTE} (own : List (Str × Nat)) (hc : X.calm = true) (hN : X.N.Nodup) (hy : X.N[i]? = some y) (hyl : X.env.scope.names.lookup y = some .local)
    (hsw : swapsWith (.ListComp elt [⟨tg, iter, ifs, 0⟩] scope pos) (some (.Name y py)) spos.line X.env = pure true) (hi : DC X tg iter t) (ok : BlkOk X.N X.env.scope scope own)
    (hg : ∀ (s : Shared) (H : Hp) (C : Addr) (cl : List (Str × Addr)) (fp : List Addr), DG (X.blk s H scope (compEnvC scope cl C X.env) fp) tg is g) (ht : ∀ (s : Shared) (H : Hp) (C : Addr) (cl : List (Str × Addr)) (fp : List Addr), PTsD (X.blk s H scope (compEnvC scope cl C X.env) fp) ifs tt)
    (he : ∀ (s : Shared) (H : Hp) (C : Addr) (cl : List (Str × Addr)) (fp : List Addr), DE (X.blk s H scope (compEnvC scope cl C X.env) fp) elt te) (hvs : own.map (·.2) = vs := by rfl) (hv : ∀ i ∈ is, i ∈ vs := by decide) (hs : ∀ x, foldedSetIterable iter X.env x = pure x := by intro _; rfl) :
    DS X (.Assign [.Name y py] (.ListComp elt [⟨tg, iter, ifs, 0⟩] scope pos) spos) (dSet i (dLc t g tt te vs)) := by
  subst hvs
  exact ds_setLc hc hN hy hyl hsw hi ok hg ht he hv hs
theorem ds_par3 {i j l : Nat} {x y z : Str} {a b c : Expr} {ta : DTA} {px py pz pt pos : Pos} {kt k2 pt2} (hc : X.calm = true) (hN : X.N.Nodup) (hi : X.N[i]? = some x) (hj : X.N[j]? = some y) (hl : X.N[l]? = some z) (hij : i ≠ j) (hil : i ≠ l) (hjl : j ≠ l)
    (hx : X.env.scope.names.lookup x = some .local) (hy : X.env.scope.names.lookup y = some .local) (hz : X.env.scope.names.lookup z = some .local) (ha : DA X [a, b, c] ta)
    (hw : swappedStores [.Tuple [.Name x px, .Name y py, .Name z pz] kt pt] (.Tuple [a, b, c] k2 pt2) X.env = pure (some [x, y, z]))
    (hs : swapsWithSole [.Tuple [.Name x px, .Name y py, .Name z pz] kt pt] (.Tuple [a, b, c] k2 pt2) pos.line X.env = pure false := by rfl) :
    DS X (.Assign [.Tuple [.Name x px, .Name y py, .Name z pz] kt pt] (.Tuple [a, b, c] k2 pt2) pos) (dPar [i, j, l] ta) := by
  refine ps_imp (ps_par3 hc hN hi hj hl hij hil hjl hx hy hz ha hw hs) fun D σ H ⟨Z, F, τ, E, r, h, k⟩ => ?_
  refine ⟨Z, F, τ, _, r, h, fun F1 τ1 H1 ws r1 g1 e1 h1 => ?_⟩
  obtain ⟨hl, _, h1⟩ := h1
  match ws, e1, h1, hl with
  | [(e, v), (e', v'), (e'', v'')], e1, h1, _ =>
    exact ⟨v, v', v'', rfl, store_evs (ws := [(e, v), (e', v'), (e'', v'')]) (is := [i, j, l]) (Q := D.nx) r1 e1 h1 k.nx⟩
end
end DL
set_option Elab.async false
set_option linter.all false
set_option maxRecDepth 100000
set_option maxHeartbeats 400000
namespace DL
open PySem L2

/-! ### what repr can show -/
mutual
def leafOk (k : Nat) : D → Bool
  | .none => true
  | .bool _ => true
  | .int i => decide (i.natAbs.log2 < k)
  | .str x => x.cps.toList.all fun c => decide (c < 16 ^ 8)
  | .list xs => leafOkAll k xs
  | .tuple xs => leafOkAll k xs
  | .dict _ => false
def leafOkAll (k : Nat) : List D → Bool
  | [] => true
  | x :: xs => leafOk k x && leafOkAll k xs
end
theorem int_len {i : Int} {k : Nat} (hk : 0 < k) (h : i.natAbs.log2 < k) : (PyData.shown (.int i)).length ≤ k + 1 := by
  have e : (PyData.shown (.int i)) = Str.ofString (toString i) := by unfold PyData.shown; rfl
  rw [e]
  rw [PySem.ofString_length]
  exact int_text_length_le hk h
mutual
theorem leaf_ok {k : Nat} (hk : 0 < k) (hk2 : k ≤ 1920) : ∀ d : D, leafOk k d = true → d.leavesShort (k + 1) = true ∧ d.showable = true ∧ d.hasDict = false
  | .none, _ => ⟨by simp only [PyData.leavesShort], by simp only [PyData.showable], by simp only [PyData.hasDict]⟩
  | .bool _, _ => ⟨by simp only [PyData.leavesShort], by simp only [PyData.showable], by simp only [PyData.hasDict]⟩
  | .int i, h => by
    have h : i.natAbs.log2 < k := by simpa only [leafOk, decide_eq_true_eq] using h
    exact ⟨by simp only [PyData.leavesShort, decide_eq_true_eq]; exact int_len hk h, by simp only [PyData.showable, decide_eq_true_eq]; omega, by simp only [PyData.hasDict]⟩
  | .str x, h => ⟨by simpa only [PyData.leavesShort, leafOk] using h, by simp only [PyData.showable], by simp only [PyData.hasDict]⟩
  | .list xs, h => by
    obtain ⟨h1, h2, h3⟩ := leaf_all hk hk2 xs (by simpa only [leafOk] using h)
    exact ⟨by simpa only [PyData.leavesShort] using h1, by simpa only [PyData.showable] using h2, by simpa only [PyData.hasDict] using h3⟩
  | .tuple xs, h => by
    obtain ⟨h1, h2, h3⟩ := leaf_all hk hk2 xs (by simpa only [leafOk] using h)
    exact ⟨by simpa only [PyData.leavesShort] using h1, by simpa only [PyData.showable] using h2, by simpa only [PyData.hasDict] using h3⟩
  | .dict _, h => by simp only [leafOk] at h; cases h
theorem leaf_all {k : Nat} (hk : 0 < k) (hk2 : k ≤ 1920) : ∀ ds : List D, leafOkAll k ds = true → PyData.leavesShortAll (k + 1) ds = true ∧ PyData.showableAll ds = true ∧ PyData.hasDictAll ds = false
  | [], _ => ⟨by simp only [PyData.leavesShortAll], by simp only [PyData.showableAll], by simp only [PyData.hasDictAll]⟩
  | d :: ds, h => by
    have h : leafOk k d = true ∧ leafOkAll k ds = true := by simpa only [leafOkAll, Bool.and_eq_true] using h
    obtain ⟨a1, a2, a3⟩ := leaf_ok hk hk2 d h.1
    obtain ⟨b1, b2, b3⟩ := leaf_all hk hk2 ds h.2
    exact ⟨by simp only [PyData.leavesShortAll, a1, b1, Bool.and_self], by simp only [PyData.showableAll, a2, b2, Bool.and_self], by simp only [PyData.hasDictAll, a3, b3, Bool.or_self]⟩
end
theorem reprOk_of (k : Nat) {d : D} (h : leafOk k d = true) (hb : (k + 3) * d.bulk + (k + 1) ≤ 16777216) (hd : d.depth ≤ 8) (hk : 8 ≤ k := by decide) (hk2 : k ≤ 1920 := by decide) : reprOk d := by
  obtain ⟨h1, h2, h3⟩ := leaf_ok (by omega) hk2 d h
  refine ⟨h2, h3, ?_, hd⟩
  have h4 := PyData.shown_le_bulk (k + 1) (by omega) d h1
  have e : k + 1 + 2 = k + 3 := rfl
  rw [e] at h4
  rw [sizeLine_eq]
  omega
theorem leaf_ints {k : Nat} {ns : List Int} (h : ∀ n ∈ ns, n.natAbs.log2 < k) : leafOkAll k (ns.map PyData.int) = true := by
  induction ns with
  | nil => simp only [List.map_nil, leafOkAll]
  | cons n ns ih =>
    simp only [List.map_cons, leafOkAll, leafOk, ih fun m hm => h m (List.mem_cons_of_mem _ hm), Bool.and_true, decide_eq_true_eq]
    exact h n List.mem_cons_self
theorem bulk_ints (ns : List Int) : PyData.bulkAll (ns.map PyData.int) = ns.length := by
  induction ns with
  | nil => simp only [List.map_nil, PyData.bulkAll, List.length_nil]
  | cons n ns ih =>
    simp only [List.map_cons, PyData.bulkAll, PyData.bulk, ih, List.length_cons]
    omega
theorem depth_ints (ns : List Int) : PyData.depthAll (ns.map PyData.int) = 0 := by
  induction ns with
  | nil => simp only [List.map_nil, PyData.depthAll]
  | cons n ns ih => simp only [List.map_cons, PyData.depthAll, PyData.depth, ih]; rfl

/-! ### bounds by bits -/
def Bd (n : Nat) (x : Int) : Prop := x.natAbs < 2 ^ n
theorem Bd.log {n : Nat} {x : Int} (h : Bd n x) (hn : 0 < n) : x.natAbs.log2 < n := by
  by_cases z : x.natAbs = 0
  · rw [z]; exact hn
  · exact (Nat.log2_lt z).mpr h
theorem Bd.mono {m n : Nat} {x : Int} (h : Bd m x) (hn : m ≤ n) : Bd n x := Nat.lt_of_lt_of_le h (Nat.pow_le_pow_right (by decide) hn)
theorem Bd.mul {m n : Nat} {x y : Int} (h : Bd m x) (h2 : Bd n y) : Bd (m + n) (x * y) := by
  unfold Bd
  rw [Int.natAbs_mul, Nat.pow_add]
  exact Nat.mul_lt_mul'' h h2
theorem Bd.of_le {n : Nat} {x y : Int} (h : Bd n y) (h0 : 0 ≤ x) (h1 : x ≤ y) : Bd n x := by
  unfold Bd at h ⊢
  omega
theorem mulOk_of {m n : Nat} {x y : Int} (h : Bd m x) (h2 : Bd n y) (hm : 0 < m := by decide) (hn : 0 < n := by decide) (hs : m + n ≤ 1000000 := by decide) : mulOk x y := .inr (by
  have := h.log hm
  have := h2.log hn
  unfold CMulW
  omega)
theorem divOk_of {n : Nat} {y : Int} (h0 : 0 < y) (h : Bd n y) (hn : 0 < n := by decide) (hs : n ≤ 9000 := by decide) : divOk y := .inr ⟨h0, by
  have := h.log hn
  omega⟩
theorem rangeD_zero {a : Int} : rangeD a 0 = [] := by unfold rangeD; rfl
theorem rangeD_succ {a : Int} {n : Nat} : rangeD a (n + 1) = .int a :: rangeD (a + 1) n := by
  unfold rangeD
  rw [List.range_succ_eq_map, List.map_cons, List.map_map]
  congr 1
  · simp
  · exact List.map_congr_left fun i _ => (by
      show PyData.int (a + ((i + 1 : Nat) : Int)) = PyData.int (a + 1 + (i : Int))
      congr 1
      omega)
theorem rangeD_len {a : Int} {n : Nat} : (rangeD a n).length = n := by unfold rangeD; simp
theorem sz2 : 2 ≤ sizeLine := by decide
theorem sz3 : 3 ≤ sizeLine := by decide
theorem Bd.nat {n x : Nat} (h : x < 2 ^ n) : Bd n ((x : Nat) : Int) := by unfold Bd; simpa using h
end DL
set_option Elab.async false
set_option linter.all false
set_option maxRecDepth 100000
set_option maxHeartbeats 400000
namespace DL
open PySem L2

/-! ### the library's rules over data: sorted, min, max, in -/
open PySem.W in
@[irreducible] def sortD (xs : List D) : List D := xs.mergeSort (dataLe false fun d => d)
def alikeD (xs : List D) : Prop := (∀ d ∈ xs, ∀ d' ∈ xs, PySem.W.alike d d' = true) ∧ PySem.W.Sortable xs ∧ ∀ d ∈ xs, d.depth ≤ 8
section
variable {X : Cx} {K : PySem.W.Frag} {F H : Hp} {pins : List (Addr × Obj)} {σ : L2.St} {s : Shared}
theorem each_of {R : Value → V × D → Prop} : ∀ {vs : List V} {us : List Value} {ds : List D}, Vals vs us → DqAll K F vs ds → (∀ v u d, RelV v u → Dq K F v d → R u (v, d)) → PySem.W.EachIs R us (vs.zip ds)
  | _, _, _, .nil, .nil, _ => .nil
  | _, _, _, .cons r t, .cons h q, k => .cons (k _ _ _ r h) (each_of t q k)
theorem of_each : ∀ {us : List Value} {bs : List (V × D)}, PySem.W.EachIs (fun u p => RelV p.1 u ∧ Dq K F p.1 p.2) us bs → Vals (bs.map (·.1)) us ∧ DqAll K F (bs.map (·.1)) (bs.map (·.2))
  | _, _, .nil => ⟨.nil, .nil⟩
  | _, _, .cons h t => by
    obtain ⟨h1, h2⟩ := of_each t
    exact ⟨.cons h.1 h1, .cons h.2 h2⟩
theorem zip_snd : ∀ {vs : List V} {ds : List D}, vs.length = ds.length → (vs.zip ds).map (·.2) = ds
  | [], [], _ => rfl
  | [], _ :: _, h => by simp at h
  | _ :: _, [], h => by simp at h
  | _ :: vs, _ :: ds, h => by
    rw [List.zip_cons_cons, List.map_cons, zip_snd (by simpa using h)]
theorem sort_zip (bs : List (V × D)) : (bs.mergeSort (PySem.W.dataLe false fun p : V × D => p.2)).map (·.2) = sortD (bs.map (·.2)) := by
  unfold sortD
  exact List.map_mergeSort fun a _ b _ => rfl
def sortedB1 : B1 := fun d q => match d with
  | .list xs => (xs.length ≤ 1000000 ∧ alikeD xs) ∧ q (.tmp (sortD xs))
  | _ => False
def sortedB : BN := one sortedB1
theorem cr_sortD {k : Nat} (hr : RoomG k X.A) : CallR X (.builtin "sorted") (fun vs H Q => ∃ (F : Hp) (a : Addr) (ws : List V) (ds : List D), vs = [V.ref a] ∧ Same F H ∧ SqL X.K H a ws ∧ DqAll X.K F ws ds ∧ ds.length ≤ 1000000 ∧ alikeD ds ∧
    ∀ (es : List V) p, DqAll X.K F es (sortD ds) → H p = none → Q (.ref p) (upd H p (.lst es))) := by
  intro pins s σ H vs us Q I r h
  obtain ⟨F, a, ws, ds, rfl, sF, hs, hd, hl, ⟨h1, h2, h3⟩, q⟩ := h
  obtain ⟨its, rv, hl', hz⟩ := I.list hs
  rw [Vals.ref1 r]
  have hlen := hd.len
  have ez := zip_snd hlen
  have hu := hr.room.units
  refine PySem.W.sorted_data (enc := fun p : V × D => p.2) (R := fun u p => RelV p.1 u ∧ Dq X.K F p.1 p.2) hl'.isList (each_of rv hd fun v u d a b => ⟨a, b⟩) (each_of rv hd fun v u d a b => Dp.reads I d v u (Dq.dp d v (dp_mono sF d v b)) a)
    (by rw [ez]; exact h1) (by rw [ez]; exact h2) (by rw [List.length_zip, hlen, Nat.min_self]; rw [sizeLine_eq]; omega) (fun b hb => ?_) fun out hol ho => ?_
  · have hm : b.2 ∈ ds := by rw [← ez]; exact List.mem_map_of_mem hb
    have := h3 _ hm
    omega
  · obtain ⟨g1, g2⟩ := of_each ho
    rw [sort_zip, ez] at g2
    obtain ⟨ep, he'⟩ := PyProof.Rows.sortedAll_at s.heap its out.toArray
    have hlen2 : ((ws.zip ds).mergeSort (PySem.W.dataLe false fun p : V × D => p.2)).length ≤ sizeLine := by
      rw [List.length_mergeSort, List.length_zip, hlen, Nat.min_self, sizeLine_eq]; omega
    exact ⟨.ref _, upd H (s.heap.objs.size + 1) (.lst (((ws.zip ds).mergeSort (PySem.W.dataLe false fun p : V × D => p.2)).map (·.1))), I.laid (t' := s.toks) (fun _ _ => PyProof.Rows.sortedAll_old) (Nat.le_succ _) ⟨by rw [List.length_map]; exact hlen2, out, ep, g1, he'⟩, rfl, q _ _ g2 (I.hok.fresh (Nat.le_succ _))⟩
theorem cb_sorted {k : Nat} (hr : RoomG k X.A) : CallR X (.builtin "sorted") (liftON X.K sortedB) := by
  refine CallR.imp (cr_sortD hr) fun xs H Q h => ?_
  obtain ⟨v, F, d, q, rfl, s, v0, hb, P⟩ := one_of h
  clear h
  have h := hb
  cases d with
  | list ys =>
    obtain ⟨a, vs, e, h1, h2⟩ := v0.list s
    subst e
    exact ⟨F, a, vs, ys, rfl, s, h1, h2, h.1.1, h.1.2, fun es p g hp => P.lst s hp g h.2⟩
  | _ => exact (show False from h).elim

/-! ### min, max of alike data -/
def alikeM (xs : List D) : Prop := PySem.W.AlikeAll xs ∧ PyData.depthAll xs ≤ 8
@[irreducible] def minOf (x : D) (xs : List D) : D := PySem.W.minD x xs
@[irreducible] def maxOf (x : D) (xs : List D) : D := PySem.W.maxD x xs
def mm1 (f : D → List D → D) : B1 := fun d q => match d with
  | .list (x :: xs) => alikeM (x :: xs) ∧ q (.dat (f x xs))
  | .tuple (x :: xs) => alikeM (x :: xs) ∧ q (.dat (f x xs))
  | _ => False
def min1B : BN := one (mm1 minOf)
def max1B : BN := one (mm1 maxOf)
theorem pick {vs : List V} {us : List Value} {ds : List D} {i : Nat} {u : Value} {h' : Heap} {d' : D} {bs : List Addr} (I : Inv X pins σ H s) (sF : Same F H) (rv : Vals vs us) (hd : DqAll X.K F vs ds) (hu : us.toArray[i]? = some u) (kp : ∀ b o, s.heap.get? b = some o → h'.get? b = some o) (r : Reads h' u d' bs) :
    ∃ v, RelV v u ∧ Dq X.K F v d' := by
  have hi : i < us.length := by
    rw [List.getElem?_toArray] at hu
    exact (List.getElem?_eq_some_iff.mp hu).1
  have hi2 : i < vs.length := by rw [rv.length]; exact hi
  have hv : vs[i]? = some vs[i] := List.getElem?_eq_getElem hi2
  have ru := vals_get rv hv hu
  obtain ⟨d, hdi, hq⟩ := hd.getV hv
  obtain ⟨as, rr⟩ := Dp.reads I d _ u (Dq.dp d _ (dp_mono sF d _ hq)) ru
  have e := (PyProof.Rows.reads_det (fun _ _ e _ => e) (PyProof.Rows.Reads.keeps kp rr) r).1
  subst e
  exact ⟨_, ru, hq⟩
theorem cr_mm {k : Nat} (hc : X.calm = true) (hr : RoomG k X.A) (mx : Bool) : CallR X (.builtin (if mx = true then "max" else "min")) (fun vs H Q => ∃ (F : Hp) (a : Addr) (ws : List V) (x : D) (xs : List D), vs = [V.ref a] ∧ Same F H ∧ (SqL X.K H a ws ∨ SqT X.K H a ws) ∧ DqAll X.K F ws (x :: xs) ∧ alikeM (x :: xs) ∧
    ∀ v, Dq X.K F v (if mx = true then maxOf x xs else minOf x xs) → Q v H) := by
  intro pins s σ H vs us Q I r h
  obtain ⟨F, a, ws, x, xs, rfl, sF, hs, hd, ⟨h1, h2⟩, q⟩ := h
  rw [Vals.ref1 r]
  have hu := hr.room.units
  have hh := I.ok.hd hc
  cases mx with
  | true =>
    have em : maxOf x xs = PySem.W.maxD x xs := by unfold maxOf; rfl
    rw [if_pos rfl, em] at q
    rw [if_pos rfl]
    rcases hs with hs | hs
    · obtain ⟨its, rv, hl', hz⟩ := I.list hs
      obtain ⟨as, ra⟩ := Dp.readsAll I (x :: xs) ws its (DqAll.dp _ _ (dpAll_mono sF _ _ hd)) rv
      refine PySem.W.max_list_data hh hl'.isList (by simpa using ra) h1 (by omega) fun i v h' tk bs hi hrd hk => ?_
      obtain ⟨w, ru, hq⟩ := pick I sF rv hd hi hk hrd
      exact ⟨w, H, I.kept hk, ru, q w hq⟩
    · obtain ⟨its, rv, hl', hz⟩ := I.tuple hs
      obtain ⟨as, ra⟩ := Dp.readsAll I (x :: xs) ws its (DqAll.dp _ _ (dpAll_mono sF _ _ hd)) rv
      refine PySem.W.max_tuple_data hh hl' (by simpa using ra) h1 (by omega) fun i v h' tk bs hi hrd hk => ?_
      obtain ⟨w, ru, hq⟩ := pick I sF rv hd hi hk hrd
      exact ⟨w, H, I.kept hk, ru, q w hq⟩
  | false =>
    have em : minOf x xs = PySem.W.minD x xs := by unfold minOf; rfl
    rw [if_neg Bool.false_ne_true, em] at q
    rw [if_neg Bool.false_ne_true]
    rcases hs with hs | hs
    · obtain ⟨its, rv, hl', hz⟩ := I.list hs
      obtain ⟨as, ra⟩ := Dp.readsAll I (x :: xs) ws its (DqAll.dp _ _ (dpAll_mono sF _ _ hd)) rv
      refine PySem.W.min_list_data hh hl'.isList (by simpa using ra) h1 (by omega) fun i v h' tk bs hi hrd hk => ?_
      obtain ⟨w, ru, hq⟩ := pick I sF rv hd hi hk hrd
      exact ⟨w, H, I.kept hk, ru, q w hq⟩
    · obtain ⟨its, rv, hl', hz⟩ := I.tuple hs
      obtain ⟨as, ra⟩ := Dp.readsAll I (x :: xs) ws its (DqAll.dp _ _ (dpAll_mono sF _ _ hd)) rv
      refine PySem.W.min_tuple_data hh hl' (by simpa using ra) h1 (by omega) fun i v h' tk bs hi hrd hk => ?_
      obtain ⟨w, ru, hq⟩ := pick I sF rv hd hi hk hrd
      exact ⟨w, H, I.kept hk, ru, q w hq⟩
theorem mm_of {mx : Bool} {xs : List V} {Q : VK} (h : liftON X.K (one (mm1 (if mx = true then maxOf else minOf))) xs H Q) : ∃ (F : Hp) (a : Addr) (ws : List V) (x : D) (ys : List D), xs = [V.ref a] ∧ Same F H ∧ (SqL X.K H a ws ∨ SqT X.K H a ws) ∧ DqAll X.K F ws (x :: ys) ∧ alikeM (x :: ys) ∧
    ∀ v, Dq X.K F v (if mx = true then maxOf x ys else minOf x ys) → Q v H := by
  obtain ⟨v, F, d, q, rfl, s, v0, hb, P⟩ := one_of h
  clear h
  have h := hb
  have fin : ∀ (x : D) (ys : List D), q (.dat ((if mx = true then maxOf else minOf) x ys)) → ∀ v, Dq X.K F v (if mx = true then maxOf x ys else minOf x ys) → Q v H := fun x ys hq v hv => by
    cases mx with
    | true => exact P.dat s hv hq
    | false => exact P.dat s hv hq
  cases d with
  | list ys =>
    cases ys with
    | nil => exact (show False from h).elim
    | cons y ys =>
      obtain ⟨a, vs, e, h1, h2⟩ := v0.list s
      exact ⟨F, a, vs, y, ys, by rw [e], s, .inl h1, h2, h.1, fin y ys h.2⟩
  | tuple ys =>
    cases ys with
    | nil => exact (show False from h).elim
    | cons y ys =>
      obtain ⟨a, vs, e, h1, h2⟩ := v0.tuple s
      exact ⟨F, a, vs, y, ys, by rw [e], s, .inr h1, h2, h.1, fin y ys h.2⟩
  | _ => exact (show False from h).elim
theorem cb_min1 {k : Nat} (hc : X.calm = true) (hr : RoomG k X.A) : CallR X (.builtin "min") (liftON X.K min1B) :=
  CallR.imp (cr_mm hc hr false) fun xs H Q h => mm_of (mx := false) h
theorem cb_max1 {k : Nat} (hc : X.calm = true) (hr : RoomG k X.A) : CallR X (.builtin "max") (liftON X.K max1B) :=
  CallR.imp (cr_mm hc hr true) fun xs H Q h => mm_of (mx := true) h

/-! ### in, not in -/
@[irreducible] def anyEq (xs : List D) (d : D) : Bool := xs.any fun y => PyData.eqv y d
def inW (a b : D) (q : Bool → Prop) : Prop := match b with
  | .list xs => (PyData.plainAll xs = true ∧ a.plain = true ∧ a.depth ≤ 8) ∧ q (anyEq xs a)
  | .tuple xs => (PyData.plainAll xs = true ∧ a.plain = true ∧ a.depth ≤ 8) ∧ q (anyEq xs a)
  | _ => False
def inB : B2 := fun a b q => inW a b fun k => q (.dat (.bool k))
def notInB : B2 := fun a b q => inW a b fun k => q (.dat (.bool (!k)))
theorem op_inD {k : Nat} (hr : RoomG k X.A) (neg : Bool) : OpR X (compareOp (if neg = true then .NotIn else .In)) (fun x y H Q => ∃ (F : Hp) (a b : D), Same F H ∧ ValR X.K F H x a ∧ ValR X.K F H y b ∧ inW a b fun k => Q (.bl (if neg = true then !k else k)) H) := by
  intro pins s σ H x y v u Q I rx ry h
  obtain ⟨F, a, b, sF, ha, hb, h⟩ := h
  have hu := hr.room.units
  obtain ⟨as, ra⟩ := Dp.reads I a x v (ha.dp sF) rx
  obtain ⟨bs, rb⟩ := Dp.reads I b y u (hb.dp sF) ry
  have em : ∀ xs : List D, anyEq xs a = xs.any fun y => PyData.eqv y a := fun xs => by unfold anyEq; rfl
  cases b with
  | list xs =>
    obtain ⟨⟨h1, h2, h3⟩, h⟩ := h
    rw [em] at h
    cases neg with
    | true => exact SeqAt.notIn_list_data rb ra h1 h2 (by omega) ⟨.bl _, H, I, rfl, h⟩
    | false => exact SeqAt.in_list_data rb ra h1 h2 (by omega) ⟨.bl _, H, I, rfl, h⟩
  | tuple xs =>
    obtain ⟨⟨h1, h2, h3⟩, h⟩ := h
    rw [em] at h
    cases neg with
    | true => exact SeqAt.notIn_tuple_data rb ra h1 h2 (by omega) ⟨.bl _, H, I, rfl, h⟩
    | false => exact SeqAt.in_tuple_data rb ra h1 h2 (by omega) ⟨.bl _, H, I, rfl, h⟩
  | _ => exact (show False from h).elim
theorem inW_mono {a b : D} {q q' : Bool → Prop} (h : inW a b q) (i : ∀ k, q k → q' k) : inW a b q' := by
  cases b with
  | list xs => exact ⟨h.1, i _ h.2⟩
  | tuple xs => exact ⟨h.1, i _ h.2⟩
  | _ => exact h
theorem co_in {k : Nat} (hr : RoomG k X.A) : OpR X (compareOp .In) (liftO2 X.K inB) :=
  OpR.imp (op_inD hr false) fun x y H Q ⟨F, d1, d2, q, s, v1, v2, h, P⟩ => ⟨F, d1, d2, s, v1, v2, inW_mono h fun k hk => P.dat s (.bl _) hk⟩
theorem co_notin {k : Nat} (hr : RoomG k X.A) : OpR X (compareOp .NotIn) (liftO2 X.K notInB) :=
  OpR.imp (op_inD hr true) fun x y H Q ⟨F, d1, d2, q, s, v1, v2, h, P⟩ => ⟨F, d1, d2, s, v1, v2, inW_mono h fun k hk => P.dat s (.bl _) hk⟩
end
end DL
set_option Elab.async false
set_option linter.all false
set_option maxRecDepth 100000
set_option maxHeartbeats 400000
namespace DL
open PySem L2

/-! ### sorted of anything that can be collected -/
section
variable {P : Program} {w : World} {A : Around} {E : Value → Shared → Prop} {s : Shared} {β : Type} {bs : List β} {enc : β → PyData} {R : Value → β → Prop}
/-- what a collecting leaves -/
def ColOk (P : Program) (w : World) (A : Around) (s : Shared) (v : Value) (C : List Value → Prop) : Prop := ∀ (A' : Around) (E' : Value → Shared → Prop) (Q' : List Value → Shared → Prop), A'.handled = A.handled →
  (∀ s' out, (∀ b o, s.heap.get? b = some o → s'.heap.get? b = some o) → s.heap.objs.size ≤ s'.heap.objs.size → s'.gens = s.gens → s'.os = s.os → C out → Q' out s') → wpAny (model P w) A' (collect v) Q' E' s
theorem col_tup {t : Addr} {items : Array Value} (ht : s.heap.IsTuple t items) (hz : items.size ≤ sizeLine) : ColOk P w A s (.ref t) fun out => out = items.toList := by
  intro A' E' Q' _ hQ
  obtain ⟨o, ho, hc, n, hd⟩ := ht
  have new : (s.heap.push (PyProof.Rows.seqObj "list" #[] 0)).get? s.heap.objs.size = some (PyProof.Rows.seqObj "list" #[] 0) := Heap.get?_push_size _ rfl
  have old : ∀ b u, s.heap.get? b = some u → ((s.heap.push (PyProof.Rows.seqObj "list" #[] 0)).update s.heap.objs.size (Obj.mapSeq (· ++ items))).get? b = some u := fun b u e =>
    (Heap.get?_update_other _ _ (Nat.ne_of_gt (Heap.lt_size e))).trans (Heap.get?_push_of_some _ e)
  have at_ := PyProof.Rows.get?_update_seq (h := s.heap.push (PyProof.Rows.seqObj "list" #[] 0)) new (· ++ items)
  have fin : wpAny (model P w) A' (do
      let o ← load s.heap.objs.size
      match o.data with
      | .seq xs _ => pure xs.toList
      | _ => unsupported "internal:collect") Q' E' { s with heap := (s.heap.push (PyProof.Rows.seqObj "list" #[] 0)).update s.heap.objs.size (Obj.mapSeq (· ++ items)) } := by
    refine wpAny_bind (wpAny_load at_ (wpAny_pure ?_))
    refine hQ _ _ old ?_ rfl rfl (by simp)
    show s.heap.objs.size ≤ (Heap.update _ _ _).objs.size
    rw [Heap.size_update, Heap.size_push]
    exact Nat.le_succ _
  unfold collect
  refine wpAny_bind (wpAny_runValue (codeAny_builtin PyProof.Rows.entry_proto_collect' ?_))
  show wpAny _ _ (do again (.builtin "list.__iadd__" ⟨[← newList [], .ref t], []⟩)) _ _ s
  refine wpAny_bind (wpAny_newList (wpAny_pure ⟨Code.quiet_builtin _ (by decide +kernel), codeAny_builtin PyProof.Rows.entry_list_iadd' ?_⟩))
  refine wpAny_mono (wpAny_extend_seq (A := A') (R := fun r s' => r = .ok (.ret (.ref s.heap.objs.size)) ∧ s' = { s with heap := (s.heap.push (PyProof.Rows.seqObj "list" #[] 0)).update s.heap.objs.size (Obj.mapSeq (· ++ items)) })
    (s := { s with heap := s.heap.push (PyProof.Rows.seqObj "list" #[] 0) }) s.heap.objs.size t (.ref s.heap.objs.size) 0 (.inr rfl) new (Heap.get?_push_of_some _ ho) hc hd ⟨rfl, rfl⟩ (hsz := hz)) (fun f s' h => ?_) (fun e s' h => ?_)
  · cases f with
    | done f =>
      obtain ⟨e, rfl⟩ := h
      cases e
      exact fin
    | again c => exact ⟨h.1, codeAny_mono h.2 fun r s2 hr => by obtain ⟨rfl, rfl⟩ := hr; exact fin⟩
  · exact absurd h.1 (by simp)
open PySem.W PyProof.Rows in
theorem sorted_col {v : Value} {C : List Value → Prop} {Q : Value → Shared → Prop} (hcol : ColOk P w A s v C) (hC : ∀ out, C out → ∃ bs : List β, PySem.W.EachIs R out bs ∧ PySem.W.EachIs (fun v b => ∃ as, Reads s.heap v (enc b) as) out bs ∧ PySem.W.AllAlike (bs.map enc) ∧ PySem.W.Sortable (bs.map enc) ∧ bs.length ≤ sizeLine ∧ (∀ b, b ∈ bs → A.units + 2 + (enc b).depth < cLine) ∧
      ∀ out' a c s', out'.length = bs.length → PySem.W.EachIs R out' (bs.mergeSort (PySem.W.dataLe false enc)) → s.heap.objs.size ≤ a → (∀ b o, s.heap.get? b = some o → s'.heap.get? b = some o) → s'.gens = s.gens → s'.os = s.os → s'.heap.get? a = some (seqObj "list" (List.toArray out') c) → Q (.ref a) s') :
    wpAny (model P w) A (call (.builtin "sorted") [v]) Q E s := by
  refine call_function_entry_kw kind_sorted plain_sorted entry_sorted (args_sorted1 _) ?_
  unfold Builtin.«sorted»
  refine wpAny_bind (m := checkCount "sorted" 1 1 _) (wpAny_pure ?_)
  refine wpAny_bind (hcol _ _ _ rfl fun s1 vs k1 z1 g1 o1 hc => ?_)
  obtain ⟨bs, e, er, hal, hk, hL, hu, hq⟩ := hC vs hc
  have hLv : vs.length ≤ sizeLine := by rw [e.length]; exact hL
  refine wpAny_bind (wpAny_newList ?_ hLv)
  have hoL : (s1.heap.push (seqObj "list" vs.toArray 0)).get? s1.heap.objs.size = some (seqObj "list" vs.toArray 0) := Heap.get?_push_size _ rfl
  have k2 : ∀ b o, s.heap.get? b = some o → (sortingHeap (s1.heap.push (seqObj "list" vs.toArray 0)) s1.heap.objs.size vs).get? b = some o := fun b o q => by
    have q1 := k1 b o q
    exact sortingHeap_old (Nat.ne_of_lt (Heap.lt_size q1)) (Heap.get?_push_of_some _ q1)
  have er' : PySem.W.EachIs (fun v b => ∃ as, Reads (sortingHeap (s1.heap.push (seqObj "list" vs.toArray 0)) s1.heap.objs.size vs) v (enc b) as) vs bs := er.mono fun _ _ ⟨as, r⟩ => ⟨as, PyProof.Rows.Reads.keeps k2 r⟩
  have S : SortsAt P w A.in1.in1 { s1 with heap := sortingHeap (s1.heap.push (seqObj "list" vs.toArray 0)) s1.heap.objs.size vs } (dataKind (sortingHeap (s1.heap.push (seqObj "list" vs.toArray 0)) s1.heap.objs.size vs) (bs.map enc)) vs :=
    SortsAt.data (s := { s1 with heap := sortingHeap (s1.heap.push (seqObj "list" vs.toArray 0)) s1.heap.objs.size vs }) (each_map (R := fun v d => ∃ as, Reads (sortingHeap (s1.heap.push (seqObj "list" vs.toArray 0)) s1.heap.objs.size vs) v d as) enc er') hal hk (bound_map hu)
  refine wpAny_bind (wpAny_holding (wpAny_call_entry_kw slot_list_sort ⟨_, hoL, rfl⟩ entry_list_sort ?_ (args_list_sort _)))
  show wpAny (model P w) A.in1.in1 (Builtin.«list.sort» ⟨[.ref s1.heap.objs.size], []⟩) _ _ _
  refine list_sort_vals (s := { s1 with heap := s1.heap.push (seqObj "list" vs.toArray 0) }) hoL S hLv ⟨_, rfl, wpAny_pure ⟨_, rfl, ?_⟩⟩
  obtain ⟨c, hc2⟩ := sortedHeap_at (out := (sortVals (dataKind (sortingHeap (s1.heap.push (seqObj "list" vs.toArray 0)) s1.heap.objs.size vs) (bs.map enc)) false vs vs).toArray) hoL
  refine hq _ s1.heap.objs.size c _ ?_ (sortVals_data false e er' hal) z1 (fun b o q => ?_) g1 o1 hc2
  · rw [sortVals_length false rfl]; exact e.length
  · have q1 := k1 b o q
    have hlt := Heap.lt_size q1
    show (sortedHeap _ _ _ _).get? b = some o
    rw [sortedHeap_old (Nat.ne_of_lt hlt) (by rw [Heap.size_push]; exact Nat.lt_succ_of_lt hlt)]
    exact Heap.get?_push_of_some _ q1
end
section
variable {X : Cx}
/-- sorted of a list or a tuple -/
def sortedB2 : B1 := fun d q => match d with
  | .list xs => (xs.length ≤ 1000000 ∧ alikeD xs) ∧ q (.tmp (sortD xs))
  | .tuple xs => (xs.length ≤ 1000000 ∧ alikeD xs) ∧ q (.tmp (sortD xs))
  | _ => False
def sortedSB : BN := one sortedB2
theorem cr_sortDT {k : Nat} (hr : RoomG k X.A) : CallR X (.builtin "sorted") (fun vs H Q => ∃ (F : Hp) (a : Addr) (ws : List V) (ds : List D), vs = [V.ref a] ∧ Same F H ∧ SqT X.K H a ws ∧ DqAll X.K F ws ds ∧ ds.length ≤ 1000000 ∧ alikeD ds ∧
    ∀ (es : List V) p, DqAll X.K F es (sortD ds) → H p = none → Q (.ref p) (upd H p (.lst es))) := by
  intro pins s σ H vs us Q I r h
  obtain ⟨F, a, ws, ds, rfl, sF, hs, hd, hl, ⟨h1, h2, h3⟩, q⟩ := h
  obtain ⟨its, rv, hl', hz⟩ := I.tuple hs
  rw [Vals.ref1 r]
  have hlen := hd.len
  have ez := zip_snd hlen
  have hu := hr.room.units
  refine sorted_col (β := V × D) (R := fun u p => RelV p.1 u ∧ Dq X.K F p.1 p.2) (enc := fun p : V × D => p.2) (col_tup (show s.heap.IsTuple a its.toArray from hl') (by rw [List.size_toArray, ← rv.length]; exact hz)) fun out ho => ?_
  have ho : out = its := by simpa using ho
  subst ho
  refine ⟨ws.zip ds, each_of rv hd fun v u d a b => ⟨a, b⟩, each_of rv hd fun v u d a b => Dp.reads I d v u (Dq.dp d v (dp_mono sF d v b)) a, by rw [ez]; exact h1, by rw [ez]; exact h2,
    by rw [List.length_zip, hlen, Nat.min_self, sizeLine_eq]; omega, fun b hb => ?_, fun out' p c s' hol ho hp kp hg hos hget => ?_⟩
  · have hm : b.2 ∈ ds := by rw [← ez]; exact List.mem_map_of_mem hb
    have := h3 _ hm
    omega
  · obtain ⟨g1, g2⟩ := of_each ho
    rw [sort_zip, ez] at g2
    have hlen2 : ((ws.zip ds).mergeSort (PySem.W.dataLe false fun p : V × D => p.2)).length ≤ sizeLine := by
      rw [List.length_mergeSort, List.length_zip, hlen, Nat.min_self, sizeLine_eq]; omega
    have hn : H p = none := I.hok.fresh hp
    have J := I.call' (s' := s') (ch := []) hos (Un.laid kp hp hn) (I.hok.laid kp hp (show ObjOk X.prog X.w _ _ p (.lst (((ws.zip ds).mergeSort (PySem.W.dataLe false fun p : V × D => p.2)).map (·.1))) from ⟨by rw [List.length_map]; exact hlen2, out', c, g1, hget⟩)) (by rw [hg]; exact I.bare) (fun _ z => nomatch z)
    exact ⟨.ref p, _, J, rfl, q _ p g2 hn⟩
theorem CallR.or' {f : Value} {r r' : List V → Hp → VK → Prop} (h : CallR X f r) (h' : CallR X f r') : CallR X f fun xs H Q => r xs H Q ∨ r' xs H Q :=
  fun pins s σ H xs us Q I rx q => q.elim (h pins s σ H xs us Q I rx) (h' pins s σ H xs us Q I rx)
theorem cb_sortedS {k : Nat} (hr : RoomG k X.A) : CallR X (.builtin "sorted") (liftON X.K sortedSB) := by
  refine CallR.imp (CallR.or' (cr_sortD hr) (cr_sortDT hr)) fun xs H Q h => ?_
  obtain ⟨v, F, d, q, rfl, s, v0, hb, P⟩ := one_of h
  clear h
  have h := hb
  cases d with
  | list ys =>
    obtain ⟨a, vs, e, h1, h2⟩ := v0.list s
    subst e
    exact .inl ⟨F, a, vs, ys, rfl, s, h1, h2, h.1.1, h.1.2, fun es p g hp => P.lst s hp g h.2⟩
  | tuple ys =>
    obtain ⟨a, vs, e, h1, h2⟩ := v0.tuple s
    subst e
    exact .inr ⟨F, a, vs, ys, rfl, s, h1, h2, h.1.1, h.1.2, fun es p g hp => P.lst s hp g h.2⟩
  | _ => exact (show False from h).elim

/-! ### any, all by the items' truth -/
@[irreducible] def truthyD (d : D) : Bool := d.truthy
def anyTB1 : B1 := fun d q => match d with
  | .list xs => (PyData.plainAll xs = true ∧ ∀ x ∈ xs, x.fits63) ∧ q (.dat (.bool (xs.any truthyD)))
  | .tuple xs => (PyData.plainAll xs = true ∧ ∀ x ∈ xs, x.fits63) ∧ q (.dat (.bool (xs.any truthyD)))
  | _ => False
def anyTB : BN := one anyTB1
theorem truthy_eq (xs : List D) : xs.any truthyD = xs.any PyData.truthy := by
  congr 1
  funext d
  unfold truthyD
  rfl
theorem cr_anyT (hc : X.calm = true) : CallR X (.builtin "any") (fun vs H Q => ∃ (F : Hp) (a : Addr) (ws : List V) (ds : List D), vs = [V.ref a] ∧ Same F H ∧ (SqL X.K H a ws ∨ SqT X.K H a ws) ∧ DqAll X.K F ws ds ∧ PyData.plainAll ds = true ∧ (∀ x ∈ ds, x.fits63) ∧ Q (.bl (ds.any truthyD)) H) := by
  intro pins s σ H vs us Q I r h
  obtain ⟨F, a, ws, ds, rfl, sF, hs, hd, h1, h2, q⟩ := h
  rw [Vals.ref1 r]
  rw [truthy_eq] at q
  rcases hs with hs | hs
  · obtain ⟨its, rv, hl', hz⟩ := I.list hs
    obtain ⟨as, ra⟩ := Dp.readsAll I ds ws its (DqAll.dp _ _ (dpAll_mono sF _ _ hd)) rv
    exact PySem.W.any_list_data (I.ok.hd hc) hl'.isList (by simpa using ra) h1 h2 fun h' tk hk => ⟨.bl _, H, I.kept hk, rfl, q⟩
  · obtain ⟨its, rv, hl', hz⟩ := I.tuple hs
    obtain ⟨as, ra⟩ := Dp.readsAll I ds ws its (DqAll.dp _ _ (dpAll_mono sF _ _ hd)) rv
    exact PySem.W.any_tuple_data (I.ok.hd hc) hl' (by simpa using ra) h1 h2 fun h' tk hk => ⟨.bl _, H, I.kept hk, rfl, q⟩
theorem cb_anyT (hc : X.calm = true) : CallR X (.builtin "any") (liftON X.K anyTB) := by
  refine CallR.imp (cr_anyT hc) fun xs H Q h => ?_
  obtain ⟨v, F, d, q, rfl, s, v0, hb, P⟩ := one_of h
  clear h
  have h := hb
  cases d with
  | list ys =>
    obtain ⟨a, vs, e, h1, h2⟩ := v0.list s
    exact ⟨F, a, vs, ys, by rw [e], s, .inl h1, h2, h.1.1, h.1.2, P.dat s (.bl _) h.2⟩
  | tuple ys =>
    obtain ⟨a, vs, e, h1, h2⟩ := v0.tuple s
    exact ⟨F, a, vs, ys, by rw [e], s, .inr h1, h2, h.1.1, h.1.2, P.dat s (.bl _) h.2⟩
  | _ => exact (show False from h).elim
end
end DL
set_option Elab.async false
set_option linter.all false
set_option maxRecDepth 100000
set_option maxHeartbeats 400000
namespace DL
open PySem L2

/-! ### sorted(xs, key=lambda x: x[c]) -/
section
variable {prog : Program} {w : World} {A : Around} {s : Shared}
open PyProof.Rows in
theorem lam_item {f c' t : Addr} {q x : Str} {params : Arguments} {scope : Scope} {pm ctv : Value} {c : Int} {kd : Nat} {p1 p2 p3 : Pos} {items : Array Value} {j : Nat} {y : Value} {Q : Value → Shared → Prop} {E : Value → Shared → Prop}
    (hlim : s.heap.NoLimit) (hd : (x == ("__debug__" : Str)) = false) (hroom : A.depth < recursionLimit) (hk : scope.kind = .function) (hco : scope.isCoroutine = false) (hgen : scope.isGenerator = false) (hn : scope.names = [(x, .local)])
    (hf : s.heap.get? f = some (PySem.W.kla_obj "<lambda>" q params (.Subscript (.Name x p1) (.Constant (.int c) kd p2) p3) scope (cloFrom [] scope.names []) pm c' ctv))
    (hcd : s.heap.CodeRec (.ref c') q)
    (hbind : bindArgs (PySem.W.kla_fn "<lambda>" q params (.Subscript (.Name x p1) (.Constant (.int c) kd p2) p3) scope (cloFrom [] scope.names []) pm (.ref c') ctv) ⟨[.ref t], []⟩ = pure [(x, .ref t)])
    (ht : IsTup s.heap t items) (h0 : 0 ≤ c) (h1 : c < 2 ^ 63) (hj : seqIndex? c items.size = some j) (hy : items[j]? = some y)
    (h : ∀ h' tk, (∀ b o, s.heap.get? b = some o → h'.get? b = some o) → Q y { s with heap := h', toks := tk }) :
    wpAny (model prog w) A (call (.ref f) [.ref t]) Q E s := by
  have rc : codeAny (model prog w) A (.call (.ref f) ⟨[.ref t], []⟩) (fun r s' => ∃ h' tk, r = .ok (.ret y) ∧ s' = { s with heap := h', toks := tk } ∧ ∀ b o, s.heap.get? b = some o → h'.get? b = some o) s := by
    refine PySem.W.kla_callFunE hroom hf rfl hco hgen rfl hcd ?_
    rw [hbind]
    refine wpAny_pure (wpAny_newFunctionEnv (fun y hy => by rw [hn] at hy; simp at hy; rw [hy]; exact fun z => by cases z) (fun y hy => ?_) (fun h₁ hns hsb => ⟨hlim.fresh _ hsb, ?_⟩) hk)
    · rw [List.mem_singleton.mp hy, hn]
      exact List.lookup_cons_self
    · have kp : ∀ b o, s.heap.get? b = some o → h₁.get? b = some o := fun b o e => hsb.extBut b o (Nat.ne_of_lt (Heap.lt_size e)) (Heap.get?_push_of_some _ e)
      refine PySem.W.kla_codeExpr (wpAny_Subscript_Constant_late (wpAny_Name (wpAny_loadName_local (v := .ref t) hk ?_ hns ?_ ?_) hd) (by intro _ _; rfl))
      · show scope.names.lookup x = some .local
        rw [hn]
        exact List.lookup_cons_self
      · show (([(x, Value.ref t)] : List (Str × Value)).reverse).lookup x = some (.ref t)
        exact List.lookup_cons_self
      · refine wpAny_Constant_int ⟨"tuple", _, slot_tuple_getitem.lookup, ?_, ?_⟩
        · exact (ht.keeps kp).typeIs
        · exact getItem_tuple (ht.keeps kp) (by omega) h1 hj hy ⟨h₁, _, rfl, rfl, kp⟩
  refine wpAny_call (codeAny_mono rc fun r s' hq => ?_)
  obtain ⟨h', tk, rfl, rfl, kp⟩ := hq
  exact h h' tk kp
end

section
variable {X : Cx} {pins : List (Addr × Obj)} {σ : L2.St} {H : Hp} {s : Shared}
theorem dm_upd {G : Hp} {a b : Addr} {o : HO} (h : G b ≠ none) : upd G a o b ≠ none := by
  by_cases z : b = a
  · subst z; rw [upd_same]; exact fun z => by cases z
  · rw [upd_ne z]; exact h
/-- a lambda is made; what stood, stands, tables of code objects too, perhaps longer -/
theorem lam_mk {T : List (Addr × Str)} {c P : Addr} {params : Arguments} {body : Expr} {scope : Scope} {pos : Pos} {E : Value → Shared → Prop} {Q : Value → Shared → Prop} {qn : Str} (hqn : qn = X.env.qual ++ "<lambda>") (I : Inv X pins σ H s) (B : LamX.TabB X.base X.mg c P) (ec : X.env.code = .ref c)
    (mT : (P, qn) ∈ T) (uT : ∀ p ∈ T, p.1 = P → p.2 = qn) (hT : LamX.Tabs T H) (dfl : defaultsOf params X.env = ([], [])) (fr : ∀ y ∈ scope.names, y.2 = .free → ∃ c, X.env.cells.lookup y.1 = some c)
    (done : ∀ (f c' : Addr) (pm ctv : Value) (H1 : Hp) (s' : Shared), Inv X pins σ H1 s' → LamX.ExtN H H1 → (∀ b, H b ≠ none → H1 b ≠ none) → LamX.Tabs T H1 →
      s'.heap.get? f = some (PySem.W.kla_obj "<lambda>" qn params body scope (cloFrom X.env.cells scope.names []) pm c' ctv) → H1 c' = some (LamX.CodeO c' qn) → Q (.ref f) s') :
    wpAny (model X.prog X.w) X.A (eval (.Lambda params body scope pos) X.env) Q E s := by
  subst hqn
  obtain ⟨ps, tP, tr, al⟩ := hT _ mT
  have hb2 := B.bm.keeps I.bk
  have gP2 := I.hok P _ tP
  refine PySem.W.kla_eval dfl ?_
  rcases q : codeAmong pos ps.toList with _ | cv
  · refine PySem.W.kla_makeFunction (mg := X.mg) (P := P) (closure_ok fr) I.ok.glob (I.mod.glob.keeps I.bk) ec (B.code.keeps I.bk) gP2 tr q B.gP hb2 fun c' ctv h' tk ex ge lt ⟨c2, oc, vs, t, z, g1, g2, g3⟩ gt => ?_
    cases z
    have n1 : H c' = none := I.hok.fresh ge
    have nP : P ≠ c' := fun z => by rw [z, n1] at tP; cases tP
    have J := LamX.inv_table (t' := tk) (q := X.env.qual ++ "<lambda>") (more := #[PySem.rawInt pos.line, PySem.rawInt pos.col, .ref c']) (h' := h'.push (PySem.W.kla_obj "<lambda>" (X.env.qual ++ "<lambda>") params body scope (cloFrom X.env.cells scope.names []) ((X.mg "__name__").getD .none) c' ctv)) I tP
      (fun b o nb e => Heap.get?_push_of_some _ (ex b o nb e)) (Heap.get?_push_of_some _ gt) ge ⟨oc, vs, t, Heap.get?_push_of_some _ g1, g2, g3⟩
    have ext : LamX.ExtN H (upd (upd H P (.tbl (ps ++ #[PySem.rawInt pos.line, PySem.rawInt pos.col, .ref c']))) c' (LamX.CodeO c' (X.env.qual ++ "<lambda>"))) := fun b o e nt => by
      have y1 : b ≠ c' := fun z => by rw [z, n1] at e; cases e
      have y2 : b ≠ P := fun z => by rw [z, tP] at e; exact nt ps (Option.some.inj e).symm
      rw [upd_ne y1, upd_ne y2, e]
    refine done _ c' _ ctv _ _ J ext (fun b hb => dm_upd (dm_upd hb)) (fun p hp => ?_) (Heap.get?_push_size _ rfl) upd_same
    have eL : (ps ++ #[PySem.rawInt pos.line, PySem.rawInt pos.col, .ref c']).toList = ps.toList ++ [PySem.rawInt pos.line, PySem.rawInt pos.col, .ref c'] := by simp
    by_cases eP : p.1 = P
    · rw [uT p hp eP, eP]
      refine ⟨_, (upd_ne nP).trans upd_same, by rw [eL]; exact PySem.TriplesOk_snoc _ _ _ _ tr, fun p' cv hcv => ?_⟩
      rw [eL] at hcv
      refine (LamX.among_app _ tr hcv).elim (fun z => ?_) fun z => ⟨c', z, upd_same⟩
      obtain ⟨c0, u1, u2⟩ := al p' cv z
      exact ⟨c0, u1, ext _ _ u2 LamX.codeO_ne⟩
    · obtain ⟨ps', u1, u2, u3⟩ := hT p hp
      have y : p.1 ≠ c' := fun z => by rw [z, n1] at u1; cases u1
      refine ⟨ps', by rw [upd_ne y, upd_ne eP, u1], u2, fun p' cv hcv => ?_⟩
      obtain ⟨c0, v1, v2⟩ := u3 p' cv hcv
      exact ⟨c0, v1, ext _ _ v2 LamX.codeO_ne⟩
  · obtain ⟨c', z, hc⟩ := al pos cv q
    subst z
    refine PySem.W.kla_makeFunctionHit (mg := X.mg) (P := P) (closure_ok fr) I.ok.glob (I.mod.glob.keeps I.bk) ec (B.code.keeps I.bk) gP2 tr q hb2 fun ctv h' tk ex _ => ?_
    exact done _ c' _ ctv H _ (I.kept fun b o e => Heap.get?_push_of_some _ (ex b o e)) (LamX.ExtN.refl H) (fun _ hb => hb) hT (Heap.get?_push_size _ rfl) hc
end

/-- the item c of a tuple -/
def itemD (c : Int) : D → D
  | .tuple xs => (atI xs c).getD .none
  | _ => .none
@[irreducible] def sortKeyD (c : Int) (xs : List D) : List D := xs.mergeSort (PySem.W.dataLe false (itemD c))
theorem sortKey_zip (c : Int) (bs : List (V × D)) : (bs.mergeSort (PySem.W.dataLe false fun p : V × D => itemD c p.2)).map (·.2) = sortKeyD c (bs.map (·.2)) := by
  unfold sortKeyD
  exact List.map_mergeSort fun a _ b _ => rfl
/-- the items are tuples with an int at c -/
def keyOk (c : Int) (ds : List D) : Prop := ds.length ≤ 1000000 ∧ ∀ d ∈ ds, ∃ xs i, d = .tuple xs ∧ atI xs c = some (.int i)
section
variable {P : Program} {w : World} {A : Around} {E : Value → Shared → Prop} {s : Shared} {β : Type} {bs : List β} {R : Value → β → Prop}
open PySem.W PyProof.Rows in
theorem sorted_key_col {v f : Value} {k : β → PyData} {kw : List (Str × Value)} {C : List Value → Prop} {Q : Value → Shared → Prop} (hcol : ColOk P w A s v C) (ha1 : argsOk "sorted" ⟨[v], kw⟩) (ha2 : ∀ x, argsOk "list.sort" ⟨[.ref x], kw⟩) (ht : ∀ x, Builtin.«list.sort» ⟨[.ref x], kw⟩ = ksk_tree x f false)
    (hC : ∀ out, C out → ∃ bs : List β, PySem.W.EachIs R out bs ∧ PySem.W.AllAlike (bs.map k) ∧ PySem.W.Sortable (bs.map k) ∧ bs.length ≤ sizeLine ∧ (∀ b, b ∈ bs → A.units + 2 + (k b).depth < cLine) ∧
      (∀ (v : Value) (x : β), R v x → x ∈ bs → ∀ (s1 : Shared), (∀ b o, s.heap.get? b = some o → s1.heap.get? b = some o) →
        wpAny (model P w) A.in1.in1 (call f [v]) (KeyPure (k x) s1) (fun _ _ => False) s1) ∧
      ∀ out' a c s', out'.length = bs.length → PySem.W.EachIs R out' (bs.mergeSort (PySem.W.dataLe false k)) → s.heap.objs.size ≤ a → (∀ b o, s.heap.get? b = some o → s'.heap.get? b = some o) → s'.gens = s.gens → s'.os = s.os → s'.heap.get? a = some (seqObj "list" (List.toArray out') c) → Q (.ref a) s') :
    wpAny (model P w) A (call (.builtin "sorted") [v] kw) Q E s := by
  refine call_function_entry_kw kind_sorted plain_sorted entry_sorted ha1 ?_
  unfold Builtin.«sorted»
  refine wpAny_bind (m := checkCount "sorted" 1 1 _) (wpAny_pure ?_)
  refine wpAny_bind (hcol _ _ _ rfl fun s1 vs k1 z1 g1 o1 hc => ?_)
  obtain ⟨bs, e, hal, hk, hL, hu, turn, hq⟩ := hC vs hc
  have hLv : vs.length ≤ sizeLine := by rw [e.length]; exact hL
  refine wpAny_bind (wpAny_newList ?_ hLv)
  have hoL : (s1.heap.push (seqObj "list" vs.toArray 0)).get? s1.heap.objs.size = some (seqObj "list" vs.toArray 0) := Heap.get?_push_size _ rfl
  have k2 : ∀ b o, s.heap.get? b = some o → (s1.heap.push (seqObj "list" vs.toArray 0)).get? b = some o := fun b o q => Heap.get?_push_of_some _ (k1 b o q)
  have up : ∀ {g : Heap}, KeepsBut s1.heap.objs.size (s1.heap.push (seqObj "list" vs.toArray 0)) g → ∀ b o, s.heap.get? b = some o → g.get? b = some o := fun {g} kp b o q =>
    kp b o (Nat.ne_of_lt (Heap.lt_size (k1 b o q))) (k2 b o q)
  refine wpAny_bind (wpAny_holding (wpAny_call_entry_kw slot_list_sort ⟨_, hoL, rfl⟩ entry_list_sort ?_ (ha2 _)))
  show wpAny (model P w) A.in1.in1 (Builtin.«list.sort» ⟨[.ref s1.heap.objs.size], kw⟩) _ _ _
  rw [ht]
  refine keyH_tree (kz := bs.map k) (s := { s1 with heap := s1.heap.push (seqObj "list" vs.toArray 0) }) hoL (by rw [List.length_map]; exact e.length.symm) hLv hal hk (bound_map (A := A.in1.in1) hu)
    (keyH_turns (s := { s1 with heap := s1.heap.push (seqObj "list" vs.toArray 0) }) e fun v x hR hx h tk kp => turn v x hR hx _ (up kp)) fun h' tk out c kp hD ko => ⟨_, rfl, wpAny_pure ⟨_, rfl, ?_⟩⟩
  exact hq out _ c _ ((ko.length (by rw [List.length_map]; exact e.length.symm)).trans e.length) (keyedOut_each k ko e) z1 (up kp) g1 o1 hD
end
theorem alike_ints : ∀ {ds : List D}, (∀ d ∈ ds, ∃ i, d = PyData.int i) → PySem.W.AllAlike ds ∧ PySem.W.Sortable ds := fun {ds} h => by
  refine ⟨fun d hd d' hd' => ?_, .inr fun d hd => ?_⟩
  · obtain ⟨i, rfl⟩ := h d hd
    obtain ⟨j, rfl⟩ := h d' hd'
    rfl
  · obtain ⟨i, rfl⟩ := h d hd
    exact ⟨(fun z => by cases z), fun xs z => by cases z⟩
theorem ExtN.sqT {K : PySem.W.Frag} {H H' : Hp} {a : Addr} {xs : List V} (e : LamX.ExtN H H') (h : SqT K H a xs) : SqT K H' a xs := by
  rcases h with (h | ⟨o, h⟩) | h
  · exact .inl (.inl (e _ _ h nt_tup))
  · exact .inl (.inr ⟨o, e _ _ h fun ps z => by cases z⟩)
  · exact .inr h
section
variable {X : Cx} {e : Expr} {te : TE} {x : Str} {c : Int} {kd k : Nat} {params : Arguments} {scope : Scope} {p p1 p2 p3 lpos kpos pos : Pos}
theorem pe_sortKey {C P : Addr} (hg : Gl X "sorted") (hm : X.mg "sorted" = none) (ha : PE X e te) (TB : LamX.TabB X.base X.mg C P) (hcode : X.env.code = .ref C) (hmT : (P, X.env.qual ++ "<lambda>") ∈ lamT X.K) (hu : ∀ p ∈ lamT X.K, p.1 = P → p.2 = X.env.qual ++ "<lambda>")
    (hdef : defaultsOf params X.env = ([], [])) (hr : RoomG k X.A) (hk : scope.kind = .function) (hco : scope.isCoroutine = false) (hgen : scope.isGenerator = false) (hn : scope.names = [(x, .local)]) (hd : (x == ("__debug__" : Str)) = false)
    (hbind : ∀ (q : Str) (cl : List (Str × Addr)) (pm cv ctv v : Value), bindArgs (PySem.W.kla_fn "<lambda>" q params (.Subscript (.Name x p1) (.Constant (.int c) kd p2) p3) scope cl pm cv ctv) ⟨[v], []⟩ = pure [(x, v)]) (h0 : 0 ≤ c) (h1 : c < 2 ^ 63)
    (hst : starEach [e] X.env = (false, eval e X.env) :: starEach [] X.env := by rfl) (he : backTo pos (starEach [e] X.env) = (false, eval e X.env) :: backTo pos (starEach [] X.env) := by rfl) (hpl : (backTo pos (starEach [e] X.env)).any (·.1) = false := by rfl) :
    PE X (.Call (.Name "sorted" p) [e] [⟨some "key", .Lambda params (.Subscript (.Name x p1) (.Constant (.int c) kd p2) p3) scope lpos, kpos⟩] pos)
      (fun σ H Q => te σ H fun v H1 => ∃ (F : Hp) (a : Addr) (ws : List V) (ds : List D), v = V.ref a ∧ Same F H1 ∧ (∀ a o, F a = some o → NT o) ∧ LamX.Tabs (lamT X.K) H1 ∧ SqT X.K H1 a ws ∧ DqAll X.K F ws ds ∧ keyOk c ds ∧
        ∀ H2 es p, LamX.ExtN H1 H2 → (∀ b, H1 b ≠ none → H2 b ≠ none) → LamX.Tabs (lamT X.K) H2 → DqAll X.K F es (sortKeyD c ds) → H2 p = none → Q (.ref p) (upd H2 p (.lst es))) := by
  refine ⟨fun pins s σ H Q I h => ?_⟩
  refine wpAny_Call_Name_kw (ld_blt I hg hm (by rfl) ?_ (by decide) (by decide))
  have h2 : (tCons te tNil) σ H (fun xs H1 => match xs with
    | [v] => ∃ (F : Hp) (a : Addr) (ws : List V) (ds : List D), v = V.ref a ∧ Same F H1 ∧ (∀ a o, F a = some o → NT o) ∧ LamX.Tabs (lamT X.K) H1 ∧ SqT X.K H1 a ws ∧ DqAll X.K F ws ds ∧ keyOk c ds ∧
        ∀ H2 es p, LamX.ExtN H1 H2 → (∀ b, H1 b ≠ none → H2 b ≠ none) → LamX.Tabs (lamT X.K) H2 → DqAll X.K F es (sortKeyD c ds) → H2 p = none → Q (.ref p) (upd H2 p (.lst es))
    | _ => False) := h
  refine PyProof.Rows.callWith_kw (thn ((pa_cons ha pa_nil hst).run pos pins s σ H _ I h2) fun us s1 ⟨vs, H1, I1, r1, q1⟩ => ?_) he hpl
  obtain ⟨v, rfl, q1⟩ : ∃ v, vs = [v] ∧ ∃ (F : Hp) (a : Addr) (ws : List V) (ds : List D), v = V.ref a ∧ Same F H1 ∧ (∀ a o, F a = some o → NT o) ∧ LamX.Tabs (lamT X.K) H1 ∧ SqT X.K H1 a ws ∧ DqAll X.K F ws ds ∧ keyOk c ds ∧
        ∀ H2 es p, LamX.ExtN H1 H2 → (∀ b, H1 b ≠ none → H2 b ≠ none) → LamX.Tabs (lamT X.K) H2 → DqAll X.K F es (sortKeyD c ds) → H2 p = none → Q (.ref p) (upd H2 p (.lst es)) := by
    match vs, q1 with
    | [v], q1 => exact ⟨v, rfl, q1⟩
    | [], q1 => exact q1.elim
    | _ :: _ :: _, q1 => exact q1.elim
  obtain ⟨F, a, ws, ds, rfl, sF, nF, tb, hs, hq, ⟨hl, hit⟩, q1⟩ := q1
  obtain rfl : us = [Value.ref a] := Vals.ref1 r1
  show wpAny _ _ (evalAll [(do let v ← eval (.Lambda params (.Subscript (.Name x p1) (.Constant (.int c) kd p2) p3) scope lpos) X.env; standAt pos; pure v)]) _ _ s1
  refine wpAny_evalAll_cons (wpAny_bind ?_)
  refine lam_mk (T := lamT X.K) rfl I1 TB hcode hmT hu tb hdef (fun y hy z => by rw [hn] at hy; simp at hy; rw [hy] at z; cases z) fun f c' pm ctv H2 s2 I2 eN dmH T2 hf hcc => ?_
  refine wpAny_bind (wpAny_standAt (wpAny_pure (wpAny_evalAll_nil ?_)))
  have sF2 : Same F H2 := fun b o hb => eN _ _ (sF _ _ hb) (nF _ _ hb)
  have hs2 : SqT X.K H2 a ws := ExtN.sqT eN hs
  obtain ⟨its, rv, hl', hz⟩ := I2.tuple hs2
  have hlen := hq.len
  have ez := zip_snd hlen
  have hun := hr.room.units
  obtain ⟨al1, al2⟩ := alike_ints (ds := (ws.zip ds).map fun p : V × D => itemD c p.2) fun d hd => by
    obtain ⟨p, hp, rfl⟩ := List.mem_map.mp hd
    have hm : p.2 ∈ ds := by rw [← ez]; exact List.mem_map_of_mem hp
    obtain ⟨xs, i, e1, e2⟩ := hit _ hm
    rw [e1]
    exact ⟨i, by show (atI xs c).getD .none = _; rw [e2]; rfl⟩
  show wpAny _ _ (call (.builtin "sorted") [.ref a] [(Str.ofString "key", .ref f)]) _ _ s2
  refine sorted_key_col (β := V × D) (R := fun u p => RelV p.1 u ∧ Dq X.K F p.1 p.2) (k := fun p => itemD c p.2) (col_tup (show s2.heap.IsTuple a its.toArray from hl') (by rw [List.size_toArray, ← rv.length]; exact hz)) (PyProof.Rows.ksk_s1 _ _) (fun _ => PyProof.Rows.ksk_l1 _ _) (fun _ => PyProof.Rows.ksk_t1 _ _) fun out ho => ?_
  have ho : out = its := by simpa using ho
  subst ho
  refine ⟨ws.zip ds, each_of rv hq fun v u d a b => ⟨a, b⟩, al1, al2, by rw [List.length_zip, hlen, Nat.min_self, sizeLine_eq]; omega, fun b hb => ?_, fun v x hR hx s3 kp => ?_, fun out' p c2 s' hol ho hp kp hg hos hget => ?_⟩
  · have hm : b.2 ∈ ds := by rw [← ez]; exact List.mem_map_of_mem hb
    obtain ⟨xs, i, e1, e2⟩ := hit _ hm
    rw [e1]
    show _ + (itemD c (.tuple xs)).depth < _
    have e3 : itemD c (.tuple xs) = .int i := by show (atI xs c).getD .none = _; rw [e2]; rfl
    rw [e3]
    show _ + 0 < _
    omega
  · have hm : x.2 ∈ ds := by rw [← ez]; exact List.mem_map_of_mem hx
    obtain ⟨xs, i, e1, e2⟩ := hit _ hm
    obtain ⟨rx, dx⟩ := hR
    have e3 : itemD c x.2 = .int i := by rw [e1]; show (atI xs c).getD .none = _; rw [e2]; rfl
    rw [e3]
    rw [e1] at dx
    obtain ⟨x1, x2⟩ := x
    have e1 : x2 = .tuple xs := e1
    subst e1
    cases dx with
    | tup hsx hax =>
      rename_i t vs
      obtain rfl : v = Value.ref t := rx
      obtain ⟨its2, rv2, hl2, hz2⟩ := I2.tuple (Same.sqT sF2 hsx)
      obtain ⟨y, hy, hyd⟩ := atI_q hax e2
      cases hyd
      obtain ⟨j, hj, hv, hjl, b1, b2⟩ := atI_get hy
      obtain ⟨uy, huy, ruy⟩ := rv2.get hv
      obtain ⟨tk0, rfl⟩ := ruy
      have ht3 : PyProof.Rows.IsTup s3.heap t its2.toArray := by
        obtain ⟨o, ho, hc, n, hd⟩ := hl2
        exact ⟨o, kp _ _ ho, hc, n, hd⟩
      have ec : cloFrom X.env.cells scope.names [] = cloFrom [] scope.names [] := by rw [hn]; rfl
      rw [ec] at hf
      obtain ⟨⟨oc, cvs, ct, hoc, hdc, hvc⟩, _, _⟩ := I2.hok c' _ hcc
      have hcr : s2.heap.CodeRec (.ref c') (X.env.qual ++ "<lambda>") := ⟨c', oc, cvs, ct, rfl, hoc, hdc, hvc⟩
      refine lam_item (I2.nolimit.keeps kp) hd hr.room.depth hk hco hgen hn (kp _ _ hf) (hcr.keeps kp) (hbind _ _ _ _ _ _) ht3 h0 h1 (by rw [List.size_toArray, ← rv2.length]; exact hj) (by rw [← Array.getElem?_toList]; exact huy) fun h' tk kp' => ?_
      exact ⟨h', tk, rfl, kp', .int _ _⟩
  · obtain ⟨g1, g2⟩ := of_each ho
    rw [sortKey_zip, ez] at g2
    have hlen2 : ((ws.zip ds).mergeSort (PySem.W.dataLe false fun p : V × D => itemD c p.2)).length ≤ sizeLine := by
      rw [List.length_mergeSort, List.length_zip, hlen, Nat.min_self, sizeLine_eq]; omega
    have hn : H2 p = none := I2.hok.fresh hp
    have J := I2.call' (s' := s') (ch := []) hos (Un.laid kp hp hn) (I2.hok.laid kp hp (show ObjOk X.prog X.w _ _ p (.lst (((ws.zip ds).mergeSort (PySem.W.dataLe false fun p : V × D => itemD c p.2)).map (·.1))) from ⟨by rw [List.length_map]; exact hlen2, out', c2, g1, hget⟩)) (by rw [hg]; exact I2.bare) (fun _ z => nomatch z)
    exact ⟨.ref p, _, J, rfl, q1 H2 _ p eN dmH T2 g2 hn⟩
/-- sorted(e, key=lambda x: x[c]) over data -/
def dSortKey (c : Int) (te : DTE) : DTE := fun τ q => te τ fun ev τ1 => match val τ1 ev with
  | .tuple ds => keyOk c ds ∧ q (.tmp (sortKeyD c ds)) τ1
  | _ => False
theorem de_sortKey {te : DTE} {C P : Addr} (hg : Gl X "sorted") (hm : X.mg "sorted" = none) (ha : DE X e te) (TB : LamX.TabB X.base X.mg C P) (hcode : X.env.code = .ref C) (hmT : (P, X.env.qual ++ "<lambda>") ∈ lamT X.K) (hu : ∀ p ∈ lamT X.K, p.1 = P → p.2 = X.env.qual ++ "<lambda>")
    (hr : RoomG k X.A) (hdef : defaultsOf params X.env = ([], [])) (hk : scope.kind = .function) (hco : scope.isCoroutine = false) (hgen : scope.isGenerator = false) (hn : scope.names = [(x, .local)]) (hd : (x == ("__debug__" : Str)) = false)
    (hbind : ∀ (q : Str) (cl : List (Str × Addr)) (pm cv ctv v : Value), bindArgs (PySem.W.kla_fn "<lambda>" q params (.Subscript (.Name x p1) (.Constant (.int c) kd p2) p3) scope cl pm cv ctv) ⟨[v], []⟩ = pure [(x, v)]) (h0 : 0 ≤ c) (h1 : c < 2 ^ 63)
    (hst : starEach [e] X.env = (false, eval e X.env) :: starEach [] X.env := by rfl) (he : backTo pos (starEach [e] X.env) = (false, eval e X.env) :: backTo pos (starEach [] X.env) := by rfl) (hpl : (backTo pos (starEach [e] X.env)).any (·.1) = false := by rfl) :
    DE X (.Call (.Name "sorted" p) [e] [⟨some "key", .Lambda params (.Subscript (.Name x p1) (.Constant (.int c) kd p2) p3) scope lpos, kpos⟩] pos) (dSortKey c te) := by
  refine pe_imp (pe_sortKey hg hm ha TB hcode hmT hu hdef hr hk hco hgen hn hd hbind h0 h1 hst he hpl) fun σ H Q ⟨Z, F, τ, q, r, ht, kk⟩ => ?_
  refine ⟨Z, F, τ, _, r, ht, fun F1 τ1 H1 ev v r1 g1 e1 h1 => ?_⟩
  have V := r1.val e1
  revert h1 V
  cases val τ1 ev with
  | tuple ds =>
    intro h1 V
    obtain ⟨a, ws, rfl, hs, hq⟩ := V.tuple r1.sub
    refine ⟨F1, a, ws, ds, rfl, r1.sub, r1.fnt, r1.tabs, hs, hq, h1.1, fun H2 es p eN dm T2 hes hp => ?_⟩
    have hp1 : H1 p = none := none_of fun z => dm p z hp
    have sF2 : Same F1 H2 := fun b o hb => eN _ _ (r1.sub _ _ hb) (r1.fnt _ _ hb)
    have sU : Same H2 (upd H2 p (.lst es)) := upd_same_of hp
    obtain ⟨r2, g2, e2⟩ := bridgeN (ev := .tmp (sortKeyD c ds)) (v := .ref p) r1 g1 (Same.refl F1) (sF2.trans sU) (fun b o hb nt => sU _ _ (eN _ _ hb nt)) (fun b hb => dm_upd (dm b hb)) (tabs_new T2 hp) (fun b x1 x2 => absurd x1 x2) ⟨p, es, rfl, upd_same, same_none r1.sub hp1, hp1, hes⟩
    exact kk F1 τ1 _ (.tmp (sortKeyD c ds)) (.ref p) r2 g2 e2 h1.2
  | _ => exact fun h1 => h1.elim
end
end DL
set_option Elab.async false
set_option linter.all false
set_option maxRecDepth 100000
set_option maxHeartbeats 3200000
namespace DL
open PySem L2

/-! ### set(l) of a list of ints -/
section
open PySem.Spec PyProof.Rows
variable {P : Program} {w : World} {A : Around} {E : Value → Shared → Prop} {s : Shared}
/-- a set with nothing in it -/
abbrev set0 (w : World) : Obj := { cls := .type "set", dict := none, data := .set #[] 0 (.fresh 0 0 (!w.params.followText "set-order")) }
/-- what set(..) leaves -/
def SetLeft (w : World) (s : Shared) (ns : List Int) (h' : Heap) (c : Nat) : Prop := SetR w h' s.heap.objs.size (fun j => decide (j ∈ ns)) c ∧ c ≤ ns.length ∧ ∀ b o, s.heap.get? b = some o → h'.get? b = some o
theorem set_list_ints {l : Addr} {items : Array Value} (ns : List Int) {Q : Value → Shared → Prop} (calm : A.handled = none) (hl : s.heap.IsList l items) (hit : IntsAre items.toList ns) (hb : ns.length + 1 < scanBound)
    (h : ∀ (h' : Heap) (tk c : Nat), SetLeft w s ns h' c → Q (.ref s.heap.objs.size) { s with heap := h', toks := tk }) : wpAny (model P w) A (call (.type "set") [.ref l]) Q E s := by
  have size : items.size = ns.length := by rw [← IntsAre.length hit, Array.length_toList]
  obtain ⟨c, tl, hmro⟩ := F.called_set.mro
  have made := F.called_set.made; have sub := F.called_set.sub; have nt := F.called_set.notType; have cc := F.called_set.canCreate; have tc := F.typeCall_set_1 (.ref l)
  refine wpAny_call (codeAny_of_tree (show wpAny _ _ (callAny (.type "set") _) _ _ _ from wpAny_pure ⟨Code.quiet_builtin _ (by decide +kernel), codeAny_builtin F.entry_type_call ?_⟩))
  rw [Around.under_plain (weight_type_call_type "set" [.ref l] []) rfl]
  repeat any_goals first | assumption | wp_step
  refine codeAny_mono (code_set_led1 (.ref l) (E := E) (Q₁ := fun v s₁ => v = .ref s.heap.objs.size ∧ s₁ = { s with heap := s.heap.push (set0 w) }) ⟨rfl, rfl⟩) fun r s₁ hr => ?_
  match r, hr with
  | .error e, hr => exact hr
  | .ok (.ret obj), hr =>
    obtain ⟨rfl, rfl⟩ := hr
    have at0 : (s.heap.push (set0 w)).get? s.heap.objs.size = some (set0 w) := Heap.get?_push_size _ rfl
    have ty0 : Shared.TypeIs { s with heap := s.heap.push (set0 w) } (.ref s.heap.objs.size) "set" := ⟨_, at0, rfl⟩
    have lk := F.called_set.init.lookup; have bd := F.called_set.init.bind (.ref s.heap.objs.size)
    repeat any_goals first | assumption | wp_step
    refine codeAny_mono (codeAny_call_builtin (R := wants (fun r s₂ => r = .none ∧ ∃ h' tk c, s₂ = { s with heap := h', toks := tk } ∧ SetLeft w s ns h' c) E) F.called_set.init.plain F.entry_set_init (check_set_init_1 ty0 ?_)) fun r₂ s₂ hr₂ => ?_
    · obtain ⟨⟨oc, od, oda, osl⟩, at1, k1, n1, k2⟩ := hl
      simp only at k1 k2; subst k1 k2
      have at2 : (s.heap.push (set0 w)).get? l = some { cls := .type "list", dict := od, data := .seq items n1, slots := osl } := Heap.get?_push_of_some _ at1
      have il : (s.heap.push (set0 w)).IsList l items := ⟨_, at2, rfl, n1, rfl⟩
      have s1 := F.sub_list_set; have s2 := F.sub_list_frozenset; have ne : (Value.type "list" == Value.type "dict") = false := by decide
      unfold Builtin.«set.__init__» noKeywords Builtin.Frozenset.updateFrom
      generalize hpi : pyIter = PI
      wp_walk
      subst hpi
      refine wpAny_pyIter_list il (wpAny_bind (wpAny_runValue ?_))
      have lS : l < s.heap.objs.size := Heap.lt_size at1
      have sz : (s.heap.push (set0 w)).objs.size = s.heap.objs.size + 1 := Heap.size_push ..
      have calm3 : A.in1.in1.in1.handled = none := by simp [calm]
      refine set_update_ints ((Walks.list calm3 _ l (by rw [sz]; exact Nat.ne_of_lt (Nat.lt_succ_of_lt lS)) items).toS) s.heap.objs.size (by rw [sz]; simp only [List.mem_cons, List.not_mem_nil, or_false, not_or]; exact ⟨Nat.ne_of_lt (Nat.lt_succ_self _), Nat.ne_of_gt lS⟩) ns size hb (fun i v hv => ?_) (items.size - 0) 0 _ (by omega) (Nat.zero_le _) ⟨⟨_, Heap.get?_push_size _ rfl, rfl, rfl⟩, il.push _⟩
        ⟨0, Nat.le_refl 0, setR_new_at (Heap.get?_push_of_some _ at0)⟩ fun s' c' hm hc' hS' => ?_
      · have hi : i < ns.length := by rw [← size]; exact (Array.getElem?_eq_some_iff.mp hv).1
        obtain ⟨t, e⟩ := IntsAre.int_at hit i v (by rw [Array.getElem?_toList]; exact hv)
        exact ⟨ns[i], t, List.getElem?_eq_getElem hi, by rw [e, List.getD_eq_getElem?_getD, List.getElem?_eq_getElem hi]; rfl⟩
      · obtain ⟨h', g2, d', tk', os'⟩ := s'
        obtain rfl : g2 = s.gens := hm.gens
        obtain rfl : d' = s.drawn := hm.drawn
        obtain rfl : os' = s.os := hm.os
        refine wpAny_pure (show wpAny _ _ (ret Value.none) _ _ _ from wpAny_pure ⟨rfl, h', tk', c', rfl, hS', by omega, fun b o e => ?_⟩)
        have b0 : b < s.heap.objs.size := Heap.lt_size e
        exact hm.heap b o (by rw [sz]; simp only [List.mem_cons, List.not_mem_nil, or_false, not_or]; exact ⟨Nat.ne_of_lt b0, Nat.ne_of_lt (Nat.lt_succ_of_lt b0)⟩) (Heap.get?_push_of_some _ (Heap.get?_push_of_some _ e))
    · match r₂, hr₂ with
      | .error e, hr₂ => exact hr₂
      | .ok (.ret r), hr₂ =>
        obtain ⟨rfl, h', tk, c', rfl, hS⟩ := hr₂
        repeat any_goals first | assumption | wp_step
        exact h _ _ _ hS

end
/-! ### sorted(set(..)), len(set(..)) of ints -/
section
open PyProof.Rows
variable {X : Cx}
/-- put into a rising list -/
def insU (x : Int) : List Int → List Int
  | [] => [x]
  | y :: ys => if x < y then x :: y :: ys else if x = y then y :: ys else y :: insU x ys
/-- the ints of a set, rising -/
@[irreducible] def riseD (ns : List Int) : List Int := ns.foldr insU []
/-- an int list that rises and has just these -/
def IsRise (ns ms : List Int) : Prop := ms.Pairwise (· < ·) ∧ ∀ k, k ∈ ms ↔ k ∈ ns
theorem insU_mem {x k : Int} : ∀ {ys : List Int}, k ∈ insU x ys ↔ k = x ∨ k ∈ ys
  | [] => by simp [insU]
  | y :: ys => by
    unfold insU
    split
    · simp
    · split
      · rename_i h; subst h; simp
      · simp only [List.mem_cons, insU_mem (ys := ys)]
        constructor
        · rintro (h | h | h)
          · exact .inr (.inl h)
          · exact .inl h
          · exact .inr (.inr h)
        · rintro (h | h | h)
          · exact .inr (.inl h)
          · exact .inl h
          · exact .inr (.inr h)
theorem insU_rise {x : Int} : ∀ {ys : List Int}, ys.Pairwise (· < ·) → (insU x ys).Pairwise (· < ·)
  | [], _ => by simp [insU]
  | y :: ys, h => by
    have hp := List.pairwise_cons.mp h
    unfold insU
    split
    · rename_i hx
      refine List.pairwise_cons.mpr ⟨fun z hz => ?_, h⟩
      rcases List.mem_cons.mp hz with rfl | hz
      · exact hx
      · exact Int.lt_trans hx (hp.1 z hz)
    · split
      · exact h
      · refine List.pairwise_cons.mpr ⟨fun z hz => ?_, insU_rise hp.2⟩
        rcases insU_mem.mp hz with rfl | hz
        · omega
        · exact hp.1 z hz
theorem riseD_is : ∀ ns : List Int, IsRise ns (riseD ns)
  | [] => by unfold riseD; exact ⟨List.Pairwise.nil, fun k => Iff.rfl⟩
  | x :: ns => by
    have ih := riseD_is ns
    unfold riseD at ih ⊢
    refine ⟨insU_rise ih.1, fun k => ?_⟩
    show k ∈ insU x (List.foldr insU [] ns) ↔ _
    rw [insU_mem, List.mem_cons, ih.2 k]
theorem rise_eq : ∀ {ms ks : List Int}, ms.Pairwise (· < ·) → ks.Pairwise (· < ·) → (∀ k, k ∈ ms ↔ k ∈ ks) → ms = ks
  | [], [], _, _, _ => rfl
  | [], k :: ks, _, _, h => absurd ((h k).mpr List.mem_cons_self) (by simp)
  | m :: ms, [], _, _, h => absurd ((h m).mp List.mem_cons_self) (by simp)
  | m :: ms, k :: ks, h1, h2, h => by
    have p1 := List.pairwise_cons.mp h1
    have p2 := List.pairwise_cons.mp h2
    have e : m = k := by
      rcases List.mem_cons.mp ((h m).mp List.mem_cons_self) with a | a
      · exact a
      · rcases List.mem_cons.mp ((h k).mpr List.mem_cons_self) with b | b
        · exact b.symm
        · have := p2.1 m a
          have := p1.1 k b
          omega
    subst e
    rw [rise_eq p1.2 p2.2 fun z => ?_]
    have hz := h z
    simp only [List.mem_cons] at hz
    constructor
    · intro a
      have := p1.1 z a
      rcases hz.mp (.inr a) with b | b
      · omega
      · exact b
    · intro a
      have := p2.1 z a
      rcases hz.mpr (.inr a) with b | b
      · omega
      · exact b
theorem rise_len : ∀ {ns ms : List Int}, ms.Nodup → (∀ k ∈ ms, k ∈ ns) → ms.length ≤ ns.length
  | ns, [], _, _ => Nat.zero_le _
  | ns, m :: ms, hn, h => by
    have hm := h m List.mem_cons_self
    have hn2 := List.nodup_cons.mp hn
    have ih := rise_len (ns := ns.erase m) (ms := ms) hn2.2 fun k hk => by
      have ne : k ≠ m := fun z => hn2.1 (z ▸ hk)
      exact (List.mem_erase_of_ne ne).mpr (h k (List.mem_cons_of_mem _ hk))
    rw [List.length_erase_of_mem hm] at ih
    have := List.length_pos_of_mem hm
    rw [List.length_cons]
    omega
theorem sqT_ints {K : PySem.W.Frag} {H : Hp} {a : Addr} {vs : List V} {F : Hp} {ns : List Int} (h : DqAll K F vs (ns.map PyData.int)) : vs = ns.map V.int := ints_q h
/-- set(e): the promise, e a list or a tuple of ints -/
def rSetI (K : PySem.W.Frag) (w : World) : List V → Hp → VK → Prop := fun vs H Q => ∃ (a : Addr) (ns : List Int), vs = [V.ref a] ∧ (SqL K H a (ns.map V.int) ∨ SqT K H a (ns.map V.int)) ∧ ns.length < 60 ∧
  ∀ (p : Addr) (c : Nat), H p = none → c ≤ ns.length → Q (.ref p) (upd H p (SetO w p (fun j => decide (j ∈ ns)) c))
theorem cr_setI (hc : X.calm = true) : CallR X (.type "set") (rSetI X.K X.w) := by
  intro pins s σ H vs us Q I r h
  obtain ⟨a, ns, rfl, hs, hl, q⟩ := h
  rw [Vals.ref1 r]
  have sb : ns.length + 1 < scanBound := Nat.lt_trans (show ns.length + 1 < 61 by omega) (by unfold scanBound; omega)
  have fin : ∀ (h' : Heap) (tk c : Nat), SetLeft X.w s ns h' c → EP X pins σ Q (.ref s.heap.objs.size) { s with heap := h', toks := tk } := fun h' tk c ⟨h1, h2, h3⟩ =>
    ⟨.ref _, _, I.laid (t' := tk) h3 (Nat.le_refl _) (setO_new h1), rfl, q _ c (I.hok.fresh (Nat.le_refl _)) h2⟩
  rcases hs with hs | hs
  · obtain ⟨its, rv, pl, hz⟩ := I.list hs
    exact set_list_ints ns (I.ok.hd hc) pl.isList (ints_vals rv) sb fin
  · obtain ⟨its, rv, hl', hz⟩ := I.tuple hs
    exact call_set_tupI ns (I.ok.hd hc) hl' (ints_vals rv) sb fun h' tk c h1 h2 h3 => fin h' tk c ⟨h1, h2, h3⟩
theorem rise_nodup {ms : List Int} (h : ms.Pairwise (· < ·)) : ms.Nodup := h.imp fun h => by omega
theorem nodup_len {ns ms : List Int} (h : ms.Nodup) (e : ∀ k, k ∈ ms ↔ k ∈ ns) : ms.length = (riseD ns).length := by
  have r := riseD_is ns
  have a := rise_len h fun k hk => (r.2 k).mpr ((e k).mp hk)
  have b := rise_len (rise_nodup r.1) fun k hk => (e k).mpr ((r.2 k).mp hk)
  omega
theorem cr_lenSet : CallR X (.builtin "len") (fun vs H Q => ∃ (a : Addr) (ns : List Int) (n : Nat), vs = [V.ref a] ∧ H a = some (SetO X.w a (fun j => decide (j ∈ ns)) n) ∧ Q (.int ((riseD ns).length : Nat)) H) := by
  intro pins s σ H vs us Q I r h
  obtain ⟨a, ns, n, rfl, ha, q⟩ := h
  rw [Vals.ref1 r]
  obtain ⟨o, es, ep, t, ho, hex, hd, g, nd, hm, hb, hf, hn, _⟩ := setO_get I ha
  have el : es.size = (riseD ns).length := by
    have := nodup_len (ns := ns) nd fun k => (hm k).symm.trans (by simp)
    rw [← this, List.length_map, Array.length_toList]
  have fit : (es.size : Int) < 2 ^ 63 := by
    have : es.size < 2 ^ 63 := Nat.lt_of_lt_of_le hb (by unfold scanBound; omega)
    omega
  refine call_len_set ho hex hd hf fit ⟨L2.V.int (es.size : Nat), H, I.tok _, ⟨_, rfl⟩, ?_⟩
  rw [el]; exact q
/-- a list or a tuple of ints -/
def setW (d : D) (k : List Int → Prop) : Prop := match d with
  | .list xs => optW (intsOf xs) fun ns => ns.length < 60 ∧ k ns
  | .tuple xs => optW (intsOf xs) fun ns => ns.length < 60 ∧ k ns
  | _ => False
theorem setW_of {K : PySem.W.Frag} {F H : Hp} {v : V} {d : D} {k : List Int → Prop} (s : Same F H) (vr : ValR K F H v d) (h : setW d k) : ∃ a ns, v = .ref a ∧ (SqL K H a (ns.map V.int) ∨ SqT K H a (ns.map V.int)) ∧ ns.length < 60 ∧ k ns := by
  cases d with
  | list xs =>
    obtain ⟨ns, e, h1, h2⟩ := optW_of h
    obtain ⟨a, vs, rfl, hs, hq⟩ := vr.list s
    rw [intsOf_eq e] at hq
    rw [ints_q hq] at hs
    exact ⟨a, ns, rfl, .inl hs, h1, h2⟩
  | tuple xs =>
    obtain ⟨ns, e, h1, h2⟩ := optW_of h
    obtain ⟨a, vs, rfl, hs, hq⟩ := vr.tuple s
    rw [intsOf_eq e] at hq
    rw [ints_q hq] at hs
    exact ⟨a, ns, rfl, .inr hs, h1, h2⟩
  | _ => exact (show False from h).elim
variable {a : Expr} {ta : DTE} {p p2 q pos : Pos}
def dSortedSet (te : DTE) : DTE := fun τ q => te τ fun ev τ1 => setW (val τ1 ev) fun ns => q (.tmp ((riseD ns).map PyData.int)) τ1
def dLenSet (te : DTE) : DTE := fun τ q => te τ fun ev τ1 => setW (val τ1 ev) fun ns => q (.dat (.int ((riseD ns).length : Nat))) τ1
theorem set0_step {H1 : Hp} {F1 : Hp} {τ1 : DSt} {σ : L2.St} {Z : Fz} {p : Addr} {o : HO} {K : PySem.W.Frag} (nt : NT o) (r1 : R K Z F1 τ1 σ H1) (hp : H1 p = none) : Same H1 (upd H1 p o) ∧ F1 p = none := ⟨upd_same_of hp, same_none r1.sub hp⟩
theorem ints_dqV {K : PySem.W.Frag} {F : Hp} : ∀ ns : List Int, DqAll K F (ns.map V.int) (ns.map PyData.int)
  | [] => .nil
  | n :: ns => .cons (.int n) (ints_dqV ns)
theorem de_sortedSet (hc : X.calm = true) (hg : Gl X "sorted") (hm : X.mg "sorted" = none) (hg2 : Gl X "set") (hm2 : X.mg "set" = none) (ha : DE X a ta)
    (hst : starEach [a] X.env = (false, eval a X.env) :: starEach [] X.env := by rfl) :
    DE X (.Call (.Name "sorted" p) [.Call (.Name "set" p2) [a] [] q] [] pos) (dSortedSet ta) := by
  refine pe_imp (pe_callB (cr_sortedSet hc) hg hm (by rfl) (pa_cons (pe_callTy (cr_setI hc) hg2 hm2 (by rfl) (pa_cons ha pa_nil hst) (he := hst)) pa_nil)) fun σ H Q ⟨Z, F, τ, q, r, ht, k⟩ => ?_
  refine ⟨Z, F, τ, _, r, ht, fun F1 τ1 H1 ev v r1 g1 e1 h1 => ?_⟩
  obtain ⟨a, ns, rfl, hs, hl, hq⟩ := setW_of r1.sub (r1.val e1) h1
  refine ⟨a, ns, rfl, hs, hl, fun p c hp hc' => ?_⟩
  refine ⟨p, _, c, rfl, upd_same, by omega, fun ms p' hms hmem hlen hp' => ?_⟩
  have e : ms = riseD ns := rise_eq hms (riseD_is ns).1 fun k => (hmem k).trans ((by simp : _ ↔ k ∈ ns).trans ((riseD_is ns).2 k).symm)
  have s1 : Same H1 (upd H1 p (SetO X.w p (fun j => decide (j ∈ ns)) c)) := upd_same_of hp
  have s2 := s1.trans (upd_same_of (o := .lst (ms.map V.int)) hp')
  have hp1 : H1 p' = none := s1.free hp'
  have nr : NewR X.K F1 H1 (upd (upd H1 p (SetO X.w p (fun j => decide (j ∈ ns)) c)) p' (.lst (ms.map V.int))) (.tmp ((riseD ns).map PyData.int)) (.ref p') :=
    ⟨p', _, rfl, upd_same, same_none r1.sub hp1, hp1, by rw [← e]; exact ints_dqV ms⟩
  obtain ⟨r2, g2, e2⟩ := bridge r1 g1 (Same.refl F1) (r1.sub.trans s2) s2 (fun b x1 x2 => absurd x1 x2) nr
  exact k F1 τ1 _ _ _ r2 g2 e2 hq
theorem de_lenSet (hc : X.calm = true) (hg : Gl X "len") (hm : X.mg "len" = none) (hg2 : Gl X "set") (hm2 : X.mg "set" = none) (ha : DE X a ta)
    (hst : starEach [a] X.env = (false, eval a X.env) :: starEach [] X.env := by rfl) :
    DE X (.Call (.Name "len" p) [.Call (.Name "set" p2) [a] [] q] [] pos) (dLenSet ta) := by
  refine pe_imp (pe_callB cr_lenSet hg hm (by rfl) (pa_cons (pe_callTy (cr_setI hc) hg2 hm2 (by rfl) (pa_cons ha pa_nil hst) (he := hst)) pa_nil)) fun σ H Q ⟨Z, F, τ, q, r, ht, k⟩ => ?_
  refine ⟨Z, F, τ, _, r, ht, fun F1 τ1 H1 ev v r1 g1 e1 h1 => ?_⟩
  obtain ⟨a, ns, rfl, hs, hl, hq⟩ := setW_of r1.sub (r1.val e1) h1
  refine ⟨a, ns, rfl, hs, hl, fun p c hp hc' => ?_⟩
  refine ⟨p, ns, c, rfl, upd_same, ?_⟩
  have s1 : Same H1 (upd H1 p (SetO X.w p (fun j => decide (j ∈ ns)) c)) := upd_same_of hp
  obtain ⟨r2, g2, e2⟩ := bridge (ev := .dat (.int ((riseD ns).length : Nat))) (v := .int ((riseD ns).length : Nat)) r1 g1 (Same.refl F1) (r1.sub.trans s1) s1 (fun b x1 x2 => absurd x1 x2) (Dq.int _)
  exact k F1 τ1 _ _ _ r2 g2 e2 hq
end
end DL
set_option Elab.async false
set_option linter.all false
set_option maxRecDepth 100000
set_option maxHeartbeats 400000
namespace DL
open PySem L2

/-! ### insert, extend -/
section
variable {X : Cx} {e e2 i : Expr} {te te2 ti : DTE} {ta : DTA} {pos apos cpos : Pos} {x : Str} {j : Nat}
def dIns (j : Nat) (ti te : DTE) : DTE := fun τ q => lstW τ[j]? fun _ _ => ti τ fun ei τ0 => te τ0 fun ev τ1 => frz τ1 ev fun d τ2 => lstW τ2[j]? fun mk xs => match ei with
  | .dat (.int i) => 0 ≤ i ∧ i < 2 ^ 63 ∧ xs.length < sizeLine ∧ q (.dat .none) (τ2.set j (mk (xs.take i.toNat ++ [d] ++ xs.drop i.toNat)))
  | _ => False
theorem de_ins {px : Pos} (ho : PE X (.Name x px) (tVar j)) (hi : DE X i ti) (he : DE X e te)
    (hpe : ∀ {to : TE} {t : TA} {r}, MtR X "list.insert" r → PE X (.Name x px) to → PA X [i, e] t → PE X (.Call (.Attribute (.Name x px) "insert" apos) [i, e] [] cpos) (tBM X.K "list" r to t))
    (hst : starEach [i, e] X.env = (false, eval i X.env) :: starEach [e] X.env := by rfl) (hst2 : starEach [e] X.env = (false, eval e X.env) :: starEach [] X.env := by rfl) :
    DE X (.Call (.Attribute (.Name x px) "insert" apos) [i, e] [] cpos) (dIns j ti te) := by
  refine pe_imp (hpe mt_insert ho (pa_cons hi (pa_cons he pa_nil hst2) hst)) fun σ H Q ⟨Z, F, τ, q, r, ht, k⟩ => ?_
  obtain ⟨mk0, xs0, hm0, ho0, ht⟩ := lstW_of ht
  obtain ⟨a, vs0, hl, hH, _⟩ := slot_lst r hm0 ho0
  refine ⟨_, hl, ty_list hH, Z, F, τ, _, r, ht, fun F0 τ0 H0 ei iv r0 g0 e0 h0 => ?_⟩
  refine ⟨Z, F0, τ0, _, r0, h0, fun F1 τ1 H1 ev v r1 g1 e1 h1 => ?_⟩
  have g01 := g0.trans g1
  obtain ⟨F2, τ2, d, r2, g2, s2, p2, h2, lv2, ow2, nw2⟩ := frz_ok r1 g01 (e1.base g0.dom) h1
  obtain ⟨mk, xs, hm, ho, h3⟩ := lstW_of h2
  obtain ⟨a', vs, q0, q1, q2, q3⟩ := slot_lst r2 hm ho
  rw [hl] at q0
  cases q0
  match ei, e0, h3 with
  | .dat (.int n), e0, h3 =>
    obtain ⟨b1, b2, hz, h3⟩ := h3
    have vi : iv = .int n := by
      have e0 : Dq X.K F0 iv (.int n) := e0
      cases e0
      rfl
    refine ⟨a, vs, n, v, rfl, by rw [vi], q1, by rw [q3.len]; exact hz, b1, b2, ?_⟩
    obtain ⟨r3, g3⟩ := r2.write hm ho hl (DqAll.app (DqAll.app (q3.take n.toNat) (.cons p2 .nil)) (q3.drop n.toNat))
    exact k F2 _ _ (.dat .none) .non r3 (g2.trans g3) .non h3
def dExt (j : Nat) (te : DTE) : DTE := fun τ q => lstW τ[j]? fun _ _ => te τ fun ev τ1 => match ev with
  | .tmp ds => lstW τ1[j]? fun mk xs => xs.length + ds.length ≤ sizeLine ∧ q (.dat .none) (τ1.set j (mk (xs ++ ds)))
  | _ => False
theorem de_ext {px : Pos} (ho : PE X (.Name x px) (tVar j)) (he : DE X e te) (hpe : ∀ {to : TE} {t : TA}, PE X (.Name x px) to → PA X [e] t → PE X (.Call (.Attribute (.Name x px) "extend" apos) [e] [] cpos) (tBM X.K "list" rExtend to t))
    (hst : starEach [e] X.env = (false, eval e X.env) :: starEach [] X.env := by rfl) : DE X (.Call (.Attribute (.Name x px) "extend" apos) [e] [] cpos) (dExt j te) := by
  refine pe_imp (hpe ho (pa_cons he pa_nil hst)) fun σ H Q ⟨Z, F, τ, q, r, ht, k⟩ => ?_
  obtain ⟨mk0, xs0, hm0, ho0, ht⟩ := lstW_of ht
  obtain ⟨a, vs0, hl, hH, _⟩ := slot_lst r hm0 ho0
  refine ⟨_, hl, ty_list hH, Z, F, τ, _, r, ht, fun F1 τ1 H1 ev v r1 g1 e1 h1 => ?_⟩
  match ev, e1, h1 with
  | .tmp ds, e1, h1 =>
    obtain ⟨mk, xs, hm, ho, hz, h3⟩ := lstW_of h1
    obtain ⟨a', vs, q0, q1, q2, q3⟩ := slot_lst r1 hm ho
    rw [hl] at q0
    cases q0
    obtain ⟨b, us, e, y1, y2, y3, y4, y5, y6⟩ := e1
    refine ⟨a, b, vs, us, rfl, by rw [e], q1, y1, by rw [q3.len, y6.len]; exact hz, ?_⟩
    obtain ⟨r3, g3⟩ := r1.write hm ho hl (DqAll.app q3 y6)
    exact k F1 _ _ (.dat .none) .non r3 (g1.trans g3) .non h3
end

/-! ### starred items in a display -/
section
variable {X : Cx} {e : Expr} {es : List Expr} {te : DTE} {ta : DTA} {p pos : Pos}
theorem star_dat {K : PySem.W.Frag} {F : Hp} : ∀ {vs : List V} {xs : List D}, DqAll K F vs xs → ∀ p ∈ (xs.map EV.dat).zip vs, ∃ d, p.1 = .dat d ∧ Dq K F p.2 d
  | _, _, .nil, p, hp => by cases hp
  | _, _, .cons h t, p, hp => by
    rcases List.mem_cons.mp hp with rfl | hp
    · exact ⟨_, rfl, h⟩
    · exact star_dat t p hp
def dStar (te : DTE) (ta : DTA) : DTA := fun τ q => te τ fun ev τ1 => frz τ1 ev fun d τ2 => seqW d fun xs => ta τ2 fun es τ3 => q (xs.map EV.dat ++ es) τ3
theorem da_star (he : DE X e te) (hr : DA X es ta) (hs : starEach (.Starred e p :: es) X.env = (true, eval e X.env) :: starEach es X.env := by rfl) : DA X (.Starred e p :: es) (dStar te ta) := by
  refine pa_imp (StX.pa_star he hr hs) fun σ H Q ⟨Z, F, τ, q, r, ht, k⟩ => ?_
  refine ⟨Z, F, τ, _, r, ht, fun F1 τ1 H1 ev v r1 g1 e1 h1 => ?_⟩
  obtain ⟨F2, τ2, d, r2, g2, s2, p2, h2, lv2, ow2, nw2⟩ := frz_ok r1 g1 e1 h1
  have key : ∃ a vs xs, v = V.ref a ∧ (SqT X.K H1 a vs ∨ SqL X.K H1 a vs) ∧ DqAll X.K F2 vs xs ∧ ta τ2 fun es τ3 => q (xs.map EV.dat ++ es) τ3 := by
    cases p2 with
    | lst hs hd => exact ⟨_, _, _, rfl, .inr (r2.sub.seq hs), hd, h2⟩
    | tup hs hd => exact ⟨_, _, _, rfl, .inl (Same.sqT r2.sub hs), hd, h2⟩
    | _ => exact (show False from h2).elim
  obtain ⟨a, vs, xs, rfl, hs, hd, h3⟩ := key
  refine ⟨a, vs, rfl, hs, Z, F2, τ2, _, r2, h3, fun F3 τ3 H3 ws r3 g3 e3 h4 => ?_⟩
  have hd3 := dpAll_mono g3.f _ _ hd
  have hl := hd3.len
  have ez1 : (((xs.map EV.dat).zip vs) ++ ws).map (·.1) = xs.map EV.dat ++ ws.map (·.1) := by
    rw [List.map_append, List.map_fst_zip (by rw [List.length_map]; omega)]
  have ez2 : (((xs.map EV.dat).zip vs) ++ ws).map (·.2) = vs ++ ws.map (·.2) := by
    rw [List.map_append, List.map_snd_zip (by rw [List.length_map]; omega)]
  have hall := star_dat hd3
  show Q (vs ++ ws.map (·.2)) H3
  rw [← ez2]
  refine k F3 τ3 H3 (((xs.map EV.dat).zip vs) ++ ws) r3 (g2.trans g3) ⟨fun p hp => ?_, ?_⟩ (by rw [ez1]; exact h4)
  · rcases List.mem_append.mp hp with hp | hp
    · obtain ⟨d, e1, e2⟩ := hall p hp
      obtain ⟨p1, p2⟩ := p
      cases e1
      exact e2
    · exact (e3.1 p hp).base g2.dom
  · refine List.pairwise_append.mpr ⟨?_, e3.2, fun p hp u hu xs ys a z1 _ _ _ => ?_⟩
    · refine List.Pairwise.imp_of_mem (R := fun _ _ => True) (fun {p u} hp hu _ xs ys a z1 _ _ _ => ?_) (List.pairwise_of_forall fun _ _ => trivial)
      obtain ⟨d, e1, e2⟩ := hall p hp
      rw [e1] at z1; cases z1
    · obtain ⟨d, e1, e2⟩ := hall p hp
      rw [e1] at z1; cases z1
end

/-! ### stores to several places, what is stored being frozen -/
section
variable {X : Cx} {pos : Pos}
/-- a target of a statement: it may change a list, too -/
def liftW (K : PySem.W.Frag) (g : DTG) : TG := fun v σ H Q => ∃ (Z : Fz) (F : Hp) (τ : DSt) (q : _) (d : D), R K Z F τ σ H ∧ Dq K F v d ∧ g d τ q ∧
  ∀ F' τ' σ' H', R K Z F' τ' σ' H' → Same F F' → q τ' → Q σ' H'
def liftWs (K : PySem.W.Frag) (g : DTGs) : TGs := fun vs σ H Q => ∃ (Z : Fz) (F : Hp) (τ : DSt) (q : _) (ds : List D), R K Z F τ σ H ∧ DqAll K F vs ds ∧ g ds τ q ∧
  ∀ F' τ' σ' H', R K Z F' τ' σ' H' → Same F F' → q τ' → Q σ' H'
abbrev DPW (X : Cx) (tg : Expr) (g : DTG) : Prop := PG X tg (liftW X.K g)
abbrev DPWs (X : Cx) (ts : List Expr) (g : DTGs) : Prop := PGs X ts (liftWs X.K g)
theorem dw_of {tg : Expr} {is : List Nat} {g : DTG} (h : DG X tg is g) : DPW X tg g := pg_imp h fun v σ H Q ⟨Z, F, τ, q, d, r, hd, h, k⟩ => ⟨Z, F, τ, q, d, r, hd, h, fun τ' σ' r' _ h' => k F τ' σ' H r' (Same.refl F) h'⟩
theorem dws_nil : DPWs X [] gdNil := by
  refine pgs_imp pgs_nil fun vs σ H Q ⟨Z, F, τ, q, ds, r, hd, h, k⟩ => ?_
  obtain ⟨rfl, h⟩ := h
  cases hd
  exact ⟨rfl, k F τ σ H r (Same.refl F) h⟩
theorem dws_cons {e : Expr} {es : List Expr} {g : DTG} {gs : DTGs} (h1 : DPW X e g) (h2 : DPWs X es gs)
    (hs : (assignEach (e :: es) X.env).map (·.2) = assign e X.env :: (assignEach es X.env).map (·.2) := by rfl) : DPWs X (e :: es) (gdCons g gs) := by
  refine pgs_imp (pgs_cons h1 h2 hs) fun vs σ H Q ⟨Z, F, τ, q, ds, r, hd, h, k⟩ => ?_
  match ds, h with
  | d :: ds, h =>
    cases hd with
    | cons e1 e2 =>
      refine ⟨_, _, rfl, Z, F, τ, _, d, r, e1, h, fun F1 τ1 σ1 H1 r1 s1 h1 => ?_⟩
      exact ⟨Z, F1, τ1, _, ds, r1, dpAll_mono s1 _ _ e2, h1, fun F2 τ2 σ2 H2 r2 s2 h2 => k F2 τ2 σ2 H2 r2 (s1.trans s2) h2⟩
/-- x[i] as one of several targets -/
def gwIx (j : Nat) (ti : DTE) : DTG := fun d τ q => lstW τ[j]? fun _ _ => ti τ fun ei τ3 => lstW τ3[j]? fun mk xs => match val τ3 ei with
  | .int k => optW (ixN xs.length k) fun n => q (τ3.set j (mk (xs.set n d)))
  | _ => False
theorem dw_ix {i : Expr} {x : Str} {j : Nat} {ti : DTE} {px p2 : Pos} (ho : PE X (.Name x px) (tVar j)) (hi : DE X i ti)
    (ha : ∀ v, assign (.Subscript (.Name x px) i p2) X.env v = (do
      let ov ← holding [v] (eval (.Name x px) X.env)
      let iv ← holding [v, ov] (eval i X.env)
      standAt p2
      holding [v, ov, iv] (setItem ov iv v)
      release [v, ov, iv] []) := by intro _; rfl) : DPW X (.Subscript (.Name x px) i p2) (gwIx j ti) := by
  refine pg_imp (pg_sub ho hi set_list ha) fun v σ H Q ⟨Z, F, τ, q, d, r, hd, h, k⟩ => ?_
  obtain ⟨mk0, xs0, hm0, ho0, h2⟩ := lstW_of h
  obtain ⟨a, vs0, hl, _⟩ := slot_lst r hm0 ho0
  refine ⟨_, hl, Z, F, τ, _, r, h2, fun F3 τ3 H3 ei iv r3 g3 e3 h3 => ?_⟩
  obtain ⟨mk, xs, hm, ho, h3⟩ := lstW_of h3
  obtain ⟨a', vs, q0, q1, q2, q3⟩ := slot_lst r3 hm ho
  rw [hl] at q0
  cases q0
  have vr := r3.val e3
  revert h3 vr
  cases val τ3 ei with
  | int n =>
    intro h3 vr
    obtain ⟨m, hix, h3⟩ := optW_of h3
    refine ⟨a, vs, n, m, rfl, vr.int, q1, by rw [q3.len]; exact hix, ?_⟩
    exact k F3 _ σ _ (r3.write hm ho hl (DqAll.set (dp_mono g3.f _ _ hd) m q3)).1 g3.f h3
  | _ => exact fun h3 => h3.elim
/-- t1, t2, .. = e1, e2, .. -/
def dParW (n : Nat) (gs : DTGs) (t : DTA) : DTS := fun E τ => t τ fun es τ1 => es.length = n ∧ n ≤ sizeLine ∧ frzs es τ1 fun ds τ2 => gs ds τ2 E.nx
theorem ds_parW {n : Nat} {gs : DTGs} {es ts : List Expr} {ta : DTA} {k1 k2 : _} {p1 p2 : Pos} (hc : X.calm = true) (ha : DA X es ta) (hg : DPWs X ts gs)
    (hn : (assignEach ts X.env).length = n := by rfl) (hst : (assignEach ts X.env).findIdx? (·.1) = none := by rfl)
    (hs : swapsWithSole [.Tuple ts k1 p1] (.Tuple es k2 p2) pos.line X.env = pure false := by rfl) (hw : swappedStores [.Tuple ts k1 p1] (.Tuple es k2 p2) X.env = pure none := by rfl)
    (h1 : (assignEach [.Tuple ts k1 p1] X.env).map (·.2) = [assign (.Tuple ts k1 p1) X.env] := by rfl) : DS X (.Assign [.Tuple ts k1 p1] (.Tuple es k2 p2) pos) (dParW n gs ta) := by
  refine ps_imp (ps_asg (pe_tup ha) (pg_tup hc hg hn hst) hs hw h1) fun D σ H ⟨Z, F, τ, E, r, h, k⟩ => ?_
  refine ⟨Z, F, τ, _, r, h, fun F1 τ1 H1 ws r1 g1 e1 h1 => ?_⟩
  obtain ⟨hl, hz, h1⟩ := h1
  rw [List.length_map] at hl
  refine ⟨by rw [List.length_map]; omega, fun p hp => ?_⟩
  have s := upd_same_of (G := H1) (p := p) (o := .tup (ws.map (·.2))) hp
  have g := Gr.more (τ := τ1) (σ := σ) (Same.refl F1) s (fun a x1 x2 => absurd x1 x2)
  have r2 := r1.more (Same.refl F1) (r1.sub.trans s) s (fun a x1 x2 => absurd x1 x2)
  obtain ⟨F3, τ3, ds, r3, g3, p3, h3, s3, _⟩ := frzs_ok r2 (g1.trans g) (⟨fun p hp => (e1.1 p hp).grow g, e1.2⟩ : EVs X.K Z H F1 (upd H1 p (.tup (ws.map (·.2)))) τ1 σ ws) h1
  exact ⟨p, _, rfl, SqT.of upd_same, by rw [List.length_map]; exact hl, Z, F3, τ3, _, ds, r3, p3, h3, fun F' τ' σ' H' r' s' h' => k.nx F' τ' σ' H' r' h'⟩
end
end DL
set_option Elab.async false
set_option linter.all false
set_option maxRecDepth 100000
set_option maxHeartbeats 400000
namespace DL
open PySem L2
/-- what the making of a lambda in a def asks: the def's code object cdv, its table, what is known of it -/
def LamAt (K : PySem.W.Frag) (mg : Str → Option Value) (base : Heap) (qn : Str) (cdv : Value) : Prop := ∃ C P, cdv = .ref C ∧ LamX.TabB base mg C P ∧ (P, qn) ∈ lamT K ∧ ∀ p ∈ lamT K, p.1 = P → p.2 = qn
theorem lamAt_mk {K : PySem.W.Frag} {mg : Str → Option Value} {base : Heap} {x qual qn : Str} {st : Stmt} {f : Addr} {fd : FuncData} {q : Program} (Fn : Fun K x qual st f fd) (ha : PySem.W.nsIn K mainGlobals x = some (some (.ref f))) (hd : (x, qn) ∈ lamDefs) (one : ∀ d ∈ lamDefs, d.2 = qn)
    (ok : lamOkB q K = true) (B : LamB K mg base) : LamAt K mg base qn fd.code := by
  obtain ⟨oc, od, kV, doc, pm, an, cdv, ct, osl, rfl, lk, hcd⟩ := Fn.ex
  have z := List.all_eq_true.mp ok _ hd
  rw [Bool.and_eq_true] at z
  obtain ⟨_, z⟩ := z
  cases e : codOf K x with
  | none => rw [e] at z; cases z
  | some p =>
    obtain ⟨C, P⟩ := p
    have hc : cdv = .ref C := by
      unfold codOf at e
      rw [ha] at e
      dsimp only at e
      rw [lk] at e
      dsimp only at e
      split at e
      · split at e
        · split at e
          · cases e
            rfl
          · cases e
        · cases e
      · cases e
    have hm : (C, P) ∈ lamC K := List.mem_filterMap.mpr ⟨_, hd, e⟩
    have ht : (P, qn) ∈ lamT K := List.mem_filterMap.mpr ⟨_, hd, by dsimp only; rw [e]; rfl⟩
    refine ⟨C, P, hc, B _ hm, ht, fun p hp _ => ?_⟩
    obtain ⟨d, hd2, e2⟩ := List.mem_filterMap.mp hp
    cases e3 : codOf K d.1 with
    | none => rw [e3] at e2; cases e2
    | some c =>
      rw [e3] at e2
      cases e2
      exact one d hd2
section
variable {X : Cx} {a b c : Expr} {ta tb tc : DTE} {pos : Pos}
theorem chain_of {B B' : B2} {σ : St} {H : Hp} {Q : VK} (h : liftE X.K (dChain B B' ta tb tc) σ H Q) : tChain (liftO2 X.K B) (liftO2 X.K B') (liftE X.K ta) (liftE X.K tb) (liftE X.K tc) σ H Q := by
  obtain ⟨Z, F, τ, q, r, ht, k⟩ := h
  refine ⟨Z, F, τ, _, r, ht, fun F1 τ1 H1 ea v r1 g1 e1 h1 => ?_⟩
  refine ⟨Z, F1, τ1, _, r1, h1, fun F2 τ2 H2 eb u r2 g2 e2 h2 => ?_⟩
  refine ⟨F2, _, _, _, r2.sub, r2.val (e1.grow g2), r2.val e2, h2, fun F' H' ev w s1 s2 s3 n nr hq => ?_⟩
  obtain ⟨r3, g3, e3⟩ := bridge r2 (g1.trans g2) s1 s2 s3 n nr
  obtain ⟨kk, e4, hq⟩ := boolW_ok e3 hq
  refine ⟨kk, e4, ?_⟩
  cases kk with
  | false => exact k F' τ2 H' (.dat (.bool false)) (.bl false) r3 g3 (Dq.bl false) hq
  | true =>
    rw [if_pos rfl]
    refine ⟨Z, F', τ2, _, r3, hq, fun F4 τ4 H4 ec w4 r4 g4 e4 h4 => ?_⟩
    refine ⟨F4, _, _, _, r4.sub, r4.val (((e2.grow (Gr.more s1 s3 n))).grow g4), r4.val e4, h4, fun F5 H5 ev5 w5 s1 s2 s3 n nr hq => ?_⟩
    obtain ⟨r5, g5, e5⟩ := bridge r4 (g3.trans g4) s1 s2 s3 n nr
    exact k F5 τ4 H5 ev5 w5 r5 g5 e5 hq
theorem dt_chain {op op' : CmpOp} {B B' : B2} (ho : OpR X (compareOp op) (liftO2 X.K B)) (ho' : OpR X (compareOp op') (liftO2 X.K B')) (ha : DE X a ta) (hb : DE X b tb) (hc : DE X c tc)
    (hm : lastMarks [op, op'] [b, c] = false := by with_unfolding_all rfl) : DT X (.Compare a [op, op'] [b, c] pos) (dTest (dChain B B' ta tb tc)) := by
  refine pt_imp (pt_chain ho ho' ha hb hc hm) fun σ H Q ⟨Z, F, τ, q, r, ht, k⟩ => ?_
  refine chain_of (B := B) (B' := B') (ta := ta) (tb := tb) (tc := tc) ⟨Z, F, τ, _, r, ht, fun F1 τ1 H1 ev v r1 g1 e1 h1 => ?_⟩
  obtain ⟨b, e2, h2⟩ := boolW_ok e1 h1
  exact ⟨b, e2, k F1 τ1 H1 b r1 g1 h2⟩
end
end DL
set_option Elab.async false
set_option linter.all false
set_option maxRecDepth 100000
set_option maxHeartbeats 400000
/-! Data of ints: orders, least and greatest, equal, in -/
namespace DL
open PySem L2
abbrev nI (n : Nat) : D := .int ((n : Nat) : Int)
/-- ints, or tuples of ints, of one length -/
def Ints (xs : List D) : Prop := ∀ d ∈ xs, ∃ i, d = PyData.int i
def Tups (k : Nat) (xs : List D) : Prop := ∀ d ∈ xs, ∃ ns : List Int, d = .tuple (ns.map .int) ∧ ns.length = k
theorem Ints.map (ns : List Int) : Ints (ns.map .int) := fun d hd => by obtain ⟨i, _, rfl⟩ := List.mem_map.mp hd; exact ⟨i, rfl⟩
theorem Ints.nats (ns : List Nat) : Ints (ns.map nI) := fun d hd => by obtain ⟨i, _, rfl⟩ := List.mem_map.mp hd; exact ⟨_, rfl⟩
theorem depthAll_le {n : Nat} : ∀ {xs : List D}, (∀ d ∈ xs, d.depth ≤ n) → PyData.depthAll xs ≤ n
  | [], _ => Nat.zero_le _
  | x :: xs, h => by
    unfold PyData.depthAll
    exact Nat.max_le.mpr ⟨h x List.mem_cons_self, depthAll_le fun d hd => h d (List.mem_cons_of_mem _ hd)⟩
theorem depth_tupI (ns : List Int) : PyData.depth (.tuple (ns.map .int)) = 1 := by unfold PyData.depth; rw [depth_ints]
theorem Ints.sort {xs : List D} (h : Ints xs) : alikeD xs := by
  obtain ⟨h1, h2⟩ := alike_ints h
  exact ⟨h1, h2, fun d hd => by obtain ⟨i, rfl⟩ := h d hd; exact Nat.zero_le _⟩
theorem Ints.mm {xs : List D} (h : Ints xs) : alikeM xs := by
  obtain ⟨h1, h2⟩ := alike_ints h
  exact ⟨⟨h1, fun d hd => by obtain ⟨i, rfl⟩ := h d hd; exact fun z => by cases z⟩, depthAll_le fun d hd => by obtain ⟨i, rfl⟩ := h d hd; exact Nat.zero_le _⟩
theorem Tups.alike {k : Nat} {xs : List D} (h : Tups k xs) : ∀ d ∈ xs, ∀ d' ∈ xs, PySem.W.alike d d' = true := fun d hd d' hd' => by
  obtain ⟨a, rfl, _⟩ := h d hd
  obtain ⟨b, rfl, _⟩ := h d' hd'
  unfold PySem.W.alike
  exact PySem.W.alike_ints a b
theorem Tups.dep {k : Nat} {xs : List D} (h : Tups k xs) : ∀ d ∈ xs, d.depth ≤ 8 := fun d hd => by
  obtain ⟨a, rfl, _⟩ := h d hd
  rw [depth_tupI]
  decide
theorem Tups.sort {k : Nat} {xs : List D} (h : Tups (k + 1) xs) : alikeD xs := ⟨h.alike, .inl fun d hd => by
  obtain ⟨a, rfl, ha⟩ := h d hd
  cases a with
  | nil => cases ha
  | cons x r => exact ⟨_, _, rfl⟩, h.dep⟩
theorem Tups.mm {k : Nat} {xs : List D} (h : Tups k xs) : alikeM xs := ⟨⟨h.alike, fun d hd => by
  obtain ⟨a, rfl, _⟩ := h d hd
  exact fun z => by cases z⟩, depthAll_le h.dep⟩
/-- the order of tuples of ints -/
theorem dataLt_tupI (xs ys : List Int) : PySem.W.dataLt (.tuple (xs.map .int)) (.tuple (ys.map .int)) = decide (xs < ys) := by
  rw [PySem.W.dataLt_tuple]
  exact PySem.W.dataLt_ints xs ys
theorem sortD_map {β : Type} (enc : β → D) (le : β → β → Bool) (l : List β) (h : ∀ a b, PySem.W.dataLe false (fun d : D => d) (enc a) (enc b) = le a b) : sortD (l.map enc) = (l.mergeSort le).map enc := by
  unfold sortD
  exact (List.map_mergeSort fun a _ b _ => (h a b).symm).symm
theorem dataLe_lt (x y : D) : PySem.W.dataLe false (fun d : D => d) x y = !PySem.W.dataLt y x := rfl
theorem sortD_ints (l : List Int) : sortD (l.map .int) = (l.mergeSort fun a b => decide (a ≤ b)).map .int := sortD_map _ _ l fun a b => by
  rw [dataLe_lt, PySem.W.dataLt_int, PySem.W.not_lt_int]
theorem sortD_nats (l : List Nat) : sortD (l.map nI) = (l.mergeSort fun a b => decide (a ≤ b)).map nI := sortD_map _ _ l fun a b => by
  rw [dataLe_lt, PySem.W.dataLt_int, PySem.W.not_lt_int]
  congr 1
  exact propext Int.ofNat_le
theorem sort_nats_eq {l r : List Nat} (p : l.Perm r) (h : r.Pairwise (· ≤ ·)) : l.mergeSort (fun a b => decide (a ≤ b)) = r := by
  refine List.Perm.eq_of_pairwise (le := (· ≤ ·)) (fun a b _ _ h1 h2 => Nat.le_antisymm h1 h2) ?_ h ((List.mergeSort_perm _ _).trans p)
  exact (List.pairwise_mergeSort (fun a b c h1 h2 => by simp at h1 h2 ⊢; omega) (fun a b => by simp; omega) l).imp fun h => by simpa using h
theorem sortD_nats_eq {l r : List Nat} (p : l.Perm r) (h : r.Pairwise (· ≤ ·)) : sortD (l.map nI) = r.map nI := by rw [sortD_nats, sort_nats_eq p h]
theorem sortD_len (xs : List D) : (sortD xs).length = xs.length := by unfold sortD; exact List.length_mergeSort _
theorem maxOf_ints (n : Int) (ns : List Int) : maxOf (.int n) (ns.map .int) = .int (ns.foldl max n) := by unfold maxOf; exact PySem.W.maxD_ints n ns
theorem minOf_ints (n : Int) (ns : List Int) : minOf (.int n) (ns.map .int) = .int (ns.foldl min n) := by unfold minOf; exact PySem.W.minD_ints n ns
theorem foldl_max : ∀ (ns : List Int) (n : Int), (ns.foldl max n = n ∨ ns.foldl max n ∈ ns) ∧ n ≤ ns.foldl max n ∧ ∀ k ∈ ns, k ≤ ns.foldl max n
  | [], n => ⟨.inl rfl, Int.le_refl _, fun _ h => nomatch h⟩
  | m :: ns, n => by
    obtain ⟨h1, h2, h3⟩ := foldl_max ns (max n m)
    refine ⟨?_, by simp only [List.foldl_cons]; omega, fun k hk => ?_⟩
    · simp only [List.foldl_cons, List.mem_cons]
      rcases h1 with h1 | h1
      · rw [h1]
        rcases Int.le_total n m with h | h
        · exact .inr (.inl (Int.max_eq_right h))
        · exact .inl (Int.max_eq_left h)
      · exact .inr (.inr h1)
    · simp only [List.foldl_cons]
      rcases List.mem_cons.mp hk with rfl | hk
      · omega
      · exact h3 k hk
theorem foldl_min : ∀ (ns : List Int) (n : Int), (ns.foldl min n = n ∨ ns.foldl min n ∈ ns) ∧ ns.foldl min n ≤ n ∧ ∀ k ∈ ns, ns.foldl min n ≤ k
  | [], n => ⟨.inl rfl, Int.le_refl _, fun _ h => nomatch h⟩
  | m :: ns, n => by
    obtain ⟨h1, h2, h3⟩ := foldl_min ns (min n m)
    refine ⟨?_, by simp only [List.foldl_cons]; omega, fun k hk => ?_⟩
    · simp only [List.foldl_cons, List.mem_cons]
      rcases h1 with h1 | h1
      · rw [h1]
        rcases Int.le_total n m with h | h
        · exact .inl (Int.min_eq_left h)
        · exact .inr (.inl (Int.min_eq_right h))
      · exact .inr (.inr h1)
    · simp only [List.foldl_cons]
      rcases List.mem_cons.mp hk with rfl | hk
      · omega
      · exact h3 k hk
/-- the least of data with a place of its own, by an order of the encoded -/
theorem minOf_map {β : Type} (enc : β → D) (lt : β → β → Bool) (h : ∀ a b, PySem.W.dataLt (enc a) (enc b) = lt a b) (x : β) (xs : List β) : minOf (enc x) (xs.map enc) = enc (xs.foldl (fun a y => if lt y a = true then y else a) x) := by
  unfold minOf PySem.W.minD
  induction xs generalizing x with
  | nil => rfl
  | cons y xs ih =>
    rw [List.map_cons, List.foldl_cons, List.foldl_cons, h]
    split
    · exact ih y
    · exact ih x
theorem maxOf_map {β : Type} (enc : β → D) (lt : β → β → Bool) (h : ∀ a b, PySem.W.dataLt (enc a) (enc b) = lt a b) (x : β) (xs : List β) : maxOf (enc x) (xs.map enc) = enc (xs.foldl (fun a y => if lt a y = true then y else a) x) := by
  unfold maxOf PySem.W.maxD
  induction xs generalizing x with
  | nil => rfl
  | cons y xs ih =>
    rw [List.map_cons, List.foldl_cons, List.foldl_cons, h]
    split
    · exact ih y
    · exact ih x
theorem eqvAll_ints : ∀ xs ys : List Int, PyData.eqvAll (xs.map .int) (ys.map .int) = decide (xs = ys)
  | [], [] => by simp [PyData.eqvAll]
  | [], y :: ys => by simp [PyData.eqvAll]
  | x :: xs, [] => by simp [PyData.eqvAll]
  | x :: xs, y :: ys => by
    rw [List.map_cons, List.map_cons, PyData.eqvAll, eqvAll_ints xs ys, eqv_int]
    simp
theorem eqvAll_nats (xs ys : List Nat) : PyData.eqvAll (xs.map nI) (ys.map nI) = decide (xs = ys) := by
  have e : ∀ zs : List Nat, zs.map nI = (zs.map fun n => ((n : Nat) : Int)).map .int := fun zs => by rw [List.map_map]; rfl
  rw [e xs, e ys, eqvAll_ints]
  congr 1
  refine propext ⟨fun h => ?_, fun h => by rw [h]⟩
  exact (List.map_inj_right fun a b (h : ((a : Nat) : Int) = ((b : Nat) : Int)) => Int.ofNat.inj h).mp h
theorem canLay_all {xs : List D} (h : ∀ d ∈ xs, d.canLay0 = true) : PyData.canLayAll0 xs = true := by
  induction xs with
  | nil => rfl
  | cons x xs ih =>
    unfold PyData.canLayAll0
    rw [h x List.mem_cons_self, ih fun d hd => h d (List.mem_cons_of_mem _ hd)]
    rfl
theorem Ints.lay {xs : List D} (h : Ints xs) : PyData.canLayAll0 xs = true := canLay_all fun d hd => by obtain ⟨i, rfl⟩ := h d hd; simp only [PyData.canLay0]
theorem Ints.dep {xs : List D} (h : Ints xs) : PyData.depthAll xs ≤ 0 := depthAll_le fun d hd => by obtain ⟨i, rfl⟩ := h d hd; exact Nat.le_refl _
theorem shaped_of {d : D} (h1 : d.canLay0 = true) (h2 : d.depth ≤ 64) : SeqAt.shaped d = true := by unfold SeqAt.shaped; rw [h1, decide_eq_true h2]; rfl
theorem Ints.shL {xs : List D} (h : Ints xs) : SeqAt.shaped (.list xs) = true := shaped_of (by unfold PyData.canLay0; exact h.lay) (by unfold PyData.depth; have := h.dep; omega)
theorem Ints.shT {xs : List D} (h : Ints xs) : SeqAt.shaped (.tuple xs) = true := shaped_of (by unfold PyData.canLay0; exact h.lay) (by unfold PyData.depth; have := h.dep; omega)
theorem Tups.shL {k : Nat} {xs : List D} (h : Tups k xs) : SeqAt.shaped (.list xs) = true := shaped_of (by
    unfold PyData.canLay0
    exact canLay_all fun d hd => by
      obtain ⟨a, rfl, _⟩ := h d hd
      unfold PyData.canLay0
      exact (Ints.map a).lay) (by
    unfold PyData.depth
    have : PyData.depthAll xs ≤ 8 := depthAll_le h.dep
    omega)
theorem Ints.plain {xs : List D} (h : Ints xs) : PyData.plainAll xs = true := by
  induction xs with
  | nil => rfl
  | cons x xs ih =>
    obtain ⟨i, rfl⟩ := h x List.mem_cons_self
    have := ih fun d hd => h d (List.mem_cons_of_mem _ hd)
    simp [PyData.plainAll, PyData.plain, this]
theorem anyEq_nats (l : List Nat) (k : Nat) : anyEq (l.map nI) (nI k) = decide (k ∈ l) := by
  unfold anyEq
  induction l with
  | nil => simp
  | cons x l ih =>
    rw [List.map_cons, List.any_cons, ih]
    by_cases h : x = k
    · subst h; simp [PyData.eqv]
    · have h' : ¬ k = x := fun e => h e.symm
      simp [PyData.eqv, h', h]
      intro e
      omega
/-- what ints are true -/
theorem truthy_ints (l : List Int) : (l.map PyData.int).any truthyD = l.any fun i => decide (i ≠ 0) := by
  rw [List.any_map]
  congr 1
  funext i
  unfold truthyD
  simp [PyData.truthy]
  rfl
end DL
namespace DL
open PySem L2
/-! ### comprehensions and loops, item by item -/
section
variable {β : Type} {g : DTG} {tt : DTT} {te : DTE} {vs : List Nat} {stay : DSt → Prop} {q : List D → DSt → Prop} {τ : DSt}
theorem comp_end {acc : List D} (hs : stay τ) (h : q acc τ) : compW g tt te vs stay q [] acc τ := ⟨hs, h⟩
theorem comp_map (enc f : β → D) (hs : stay τ) : ∀ (bs : List β) (acc : List D), (∀ b ∈ bs, ∀ (acc ds : List D), compW g tt te vs stay q ds (acc ++ [f b]) τ → compW g tt te vs stay q (enc b :: ds) acc τ) → q (acc ++ bs.map f) τ → compW g tt te vs stay q (bs.map enc) acc τ
  | [], acc, _, h => comp_end hs (by simpa using h)
  | b :: bs, acc, st, h => by
    rw [List.map_cons]
    refine st b List.mem_cons_self acc _ ?_
    exact comp_map enc f hs bs (acc ++ [f b]) (fun c hc => st c (List.mem_cons_of_mem _ hc)) (by simpa using h)
theorem comp_filter (enc f : β → D) (p : β → Bool) (hs : stay τ) : ∀ (bs : List β) (acc : List D), (∀ b ∈ bs, ∀ (acc ds : List D), (p b = true → compW g tt te vs stay q ds (acc ++ [f b]) τ) → (p b = false → compW g tt te vs stay q ds acc τ) → compW g tt te vs stay q (enc b :: ds) acc τ) →
    q (acc ++ (bs.filter p).map f) τ → compW g tt te vs stay q (bs.map enc) acc τ
  | [], acc, _, h => comp_end hs (by simpa using h)
  | b :: bs, acc, st, h => by
    rw [List.map_cons]
    refine st b List.mem_cons_self acc _ (fun hp => ?_) fun hp => ?_
    · exact comp_filter enc f p hs bs (acc ++ [f b]) (fun c hc => st c (List.mem_cons_of_mem _ hc)) (by rw [List.filter_cons, if_pos hp] at h; simpa using h)
    · exact comp_filter enc f p hs bs acc (fun c hc => st c (List.mem_cons_of_mem _ hc)) (by rw [List.filter_cons, if_neg (by simp [hp])] at h; simpa using h)
/-- a loop: what holds of the items left, lap by lap -/
theorem for_inv {E : DEnds} {b : DTS} (enc : β → D) (I : List β → DSt → Prop) (st : ∀ x xs τ, I (x :: xs) τ → (∀ τ', I xs τ' → forW g b E (xs.map enc) τ') → forW g b E (enc x :: xs.map enc) τ) (done : ∀ τ, I [] τ → E.nx τ) : ∀ (xs : List β) (τ : DSt), I xs τ → forW g b E (xs.map enc) τ
  | [], τ, h => done τ h
  | x :: xs, τ, h => st x xs τ h fun τ' h' => for_inv enc I st done xs τ' h'
theorem range_nats (n : Nat) : rangeD 0 n = (List.range n).map nI := by
  unfold rangeD
  exact List.map_congr_left fun i _ => by show PyData.int _ = PyData.int _; rw [Int.zero_add]
theorem enumD_map {α : Type} (enc : α → D) (xs : List α) : enumD (xs.map enc) = xs.zipIdx.map fun p => PyData.tuple [nI p.2, enc p.1] := by
  unfold enumD
  rw [List.zipIdx_map, List.map_map]
  rfl
theorem atI_map {α : Type} {enc : α → D} {l : List α} {i : Nat} {x : α} (h : l[i]? = some x) : atI (l.map enc) ((i : Nat) : Int) = some (enc x) := atI_nat (by rw [List.getElem?_map, h]; rfl)
theorem sz (n : Nat) (h : n ≤ 1000) : n ≤ sizeLine := by rw [sizeLine_eq]; omega
end
end DL
set_option Elab.async false
set_option linter.all false
set_option maxRecDepth 100000
set_option maxHeartbeats 400000
/-! The plain mathematics of orders that are due: the least minutes of so many in time, the longest put off -/
namespace K23
/-- (due, minutes) -/
abbrev Job := Nat × Nat
/-- a job and its number -/
abbrev JN := Job × Nat
def mins (l : List Job) : Nat := (l.map (·.2)).sum
def load (l : List Job) (t : Nat) : Nat := mins (l.filter fun j => decide (j.1 ≤ t))
def EDD (l : List Job) : Prop := ∀ t, load l t ≤ t
@[simp] theorem mins_nil : mins [] = 0 := rfl
@[simp] theorem mins_cons (x : Job) (l : List Job) : mins (x :: l) = x.2 + mins l := by simp [mins]
@[simp] theorem mins_app (l r : List Job) : mins (l ++ r) = mins l + mins r := by simp [mins]
theorem mins_perm {l r : List Job} (p : l.Perm r) : mins l = mins r := (p.map _).sum_nat
theorem mins_sub {l r : List Job} (s : l.Sublist r) : mins l ≤ mins r := by
  induction s with
  | slnil => exact Nat.le_refl _
  | cons a _ ih => rw [mins_cons]; omega
  | cons_cons a _ ih => rw [mins_cons, mins_cons]; omega
theorem load_perm {l r : List Job} (p : l.Perm r) (t : Nat) : load l t = load r t := mins_perm (p.filter _)
theorem load_sub {l r : List Job} (s : l.Sublist r) (t : Nat) : load l t ≤ load r t := mins_sub (s.filter _)
theorem EDD.perm {l r : List Job} (p : l.Perm r) (h : EDD l) : EDD r := fun t => by rw [← load_perm p]; exact h t
theorem EDD.sub {l r : List Job} (s : l.Sublist r) (h : EDD r) : EDD l := fun t => Nat.le_trans (load_sub s t) (h t)
theorem load_cons (x : Job) (l : List Job) (t : Nat) : load (x :: l) t = (if x.1 ≤ t then x.2 else 0) + load l t := by
  unfold load
  rw [List.filter_cons]
  by_cases h : x.1 ≤ t
  · rw [if_pos (decide_eq_true h), if_pos h, mins_cons]
  · rw [if_neg (by simpa using h), if_neg h, Nat.zero_add]

/-! ### in time, one behind the other -/
def inT : Nat → List Job → List Job
  | _, [] => []
  | now, x :: l => if now + x.2 ≤ x.1 then x :: inT (now + x.2) l else inT (now + x.2) l
def allT : Nat → List Job → Prop
  | _, [] => True
  | now, x :: l => now + x.2 ≤ x.1 ∧ allT (now + x.2) l
theorem inT_sub : ∀ (l : List Job) (now : Nat), (inT now l).Sublist l
  | [], _ => List.Sublist.slnil
  | x :: l, now => by
    unfold inT
    split
    · exact (inT_sub l _).cons_cons x
    · exact (inT_sub l _).cons x
theorem inT_all : ∀ {l : List Job} {now : Nat}, allT now l → inT now l = l
  | [], _, _ => rfl
  | x :: l, now, h => by
    unfold inT
    rw [if_pos h.1, inT_all h.2]
theorem inT_load : ∀ (l : List Job) (now t : Nat), load (inT now l) t ≠ 0 → now + load (inT now l) t ≤ t
  | [], now, t, h => absurd rfl h
  | x :: l, now, t, h => by
    have ih := inT_load l (now + x.2) t
    unfold inT at h ⊢
    by_cases hx : now + x.2 ≤ x.1
    · rw [if_pos hx] at h ⊢
      rw [load_cons] at h ⊢
      by_cases ht : x.1 ≤ t
      · rw [if_pos ht] at h ⊢
        by_cases h0 : load (inT (now + x.2) l) t = 0
        · rw [h0]; omega
        · have := ih h0; omega
      · rw [if_neg ht] at h ⊢
        have := ih (by omega)
        omega
    · rw [if_neg hx] at h ⊢
      have := ih h
      omega
theorem inT_edd (l : List Job) : EDD (inT 0 l) := fun t => by
  by_cases h : load (inT 0 l) t = 0
  · omega
  · have := inT_load l 0 t h; omega
theorem allT_edd {l : List Job} (h : allT 0 l) : EDD l := by rw [← inT_all h]; exact inT_edd l
theorem allT_app : ∀ {l r : List Job} {now : Nat}, allT now (l ++ r) ↔ allT now l ∧ allT (now + mins l) r
  | [], r, now => by simp [allT]
  | x :: l, r, now => by
    show (_ ∧ allT _ (l ++ r)) ↔ (_ ∧ allT _ l) ∧ _
    rw [allT_app (l := l), mins_cons, and_assoc, Nat.add_assoc]
theorem allT_mono : ∀ {l : List Job} {n m : Nat}, n ≤ m → allT m l → allT n l
  | [], _, _, _, _ => trivial
  | x :: l, n, m, h, ⟨h1, h2⟩ => ⟨by omega, allT_mono (by omega) h2⟩
theorem allT_del {a b : List Job} {o : Job} {now : Nat} (h : allT now (a ++ o :: b)) : allT now (a ++ b) := by
  obtain ⟨h1, h2⟩ := allT_app.mp h
  exact allT_app.mpr ⟨h1, allT_mono (by omega) h2.2⟩

/-! ### the least minutes of so many -/
def go (m due : Nat) : Nat → List Nat → List Nat
  | a, [] => if a + m ≤ due then [a + m] else []
  | a, x :: r => (if a + m ≤ due then min x (a + m) else x) :: go m due x r
def dpStep (f : List Nat) (j : Job) : List Nat := match f with
  | [] => []
  | a :: r => a :: go j.2 j.1 a r
def dp (l : List Job) : List Nat := l.foldl dpStep [0]
theorem go_le {m due : Nat} : ∀ (r : List Nat) (a i v : Nat), r[i]? = some v → ∃ v', (go m due a r)[i]? = some v' ∧ v' ≤ v
  | [], a, i, v, h => by simp at h
  | x :: r, a, 0, v, h => by
    have h : x = v := by simpa using h
    subst h
    refine ⟨_, rfl, ?_⟩
    split <;> omega
  | x :: r, a, i + 1, v, h => go_le r x i v (by simpa using h)
theorem go_add {m due : Nat} : ∀ (r : List Nat) (a i v : Nat), (a :: r)[i]? = some v → v + m ≤ due → ∃ v', (go m due a r)[i]? = some v' ∧ v' ≤ v + m
  | [], a, 0, v, h, hd => by
    have h : a = v := by simpa using h
    subst h
    exact ⟨a + m, by unfold go; rw [if_pos hd]; rfl, Nat.le_refl _⟩
  | [], a, i + 1, v, h, hd => by simp at h
  | x :: r, a, 0, v, h, hd => by
    have h : a = v := by simpa using h
    subst h
    exact ⟨_, rfl, by rw [if_pos hd]; exact Nat.min_le_right _ _⟩
  | x :: r, a, i + 1, v, h, hd => go_add r x i v (by simpa using h) hd
theorem dp_snoc (l : List Job) (x : Job) : dp (l ++ [x]) = dpStep (dp l) x := by simp [dp]
theorem dp_ne : ∀ l : List Job, ∃ r, dp l = 0 :: r := fun l => by
  have : ∀ (l : List Job) (r : List Nat), ∃ r', l.foldl dpStep (0 :: r) = 0 :: r' := fun l => by
    induction l with
    | nil => exact fun r => ⟨r, rfl⟩
    | cons x l ih => exact fun r => ih _
  exact this l []
theorem sub_snoc {α : Type} {s l : List α} {x : α} (h : s.Sublist (l ++ [x])) : s.Sublist l ∨ ∃ s0, s = s0 ++ [x] ∧ s0.Sublist l := by
  obtain ⟨p, q, rfl, h1, h2⟩ := List.sublist_append_iff.mp h
  cases h2 with
  | cons _ h2 =>
    rw [List.sublist_nil.mp h2, List.append_nil]
    exact .inl h1
  | cons_cons _ h2 =>
    rw [List.sublist_nil.mp h2]
    exact .inr ⟨p, rfl, h1⟩
theorem all_load {l : List Job} {t : Nat} (h : ∀ j ∈ l, j.1 ≤ t) : load l t = mins l := by
  unfold load
  rw [List.filter_eq_self.mpr fun j hj => decide_eq_true (h j hj)]
/-- no lot that can be in time is more than what the table tells -/
theorem dp_best (n : Nat) : ∀ (l s : List Job), l.length = n → l.Pairwise (fun a b => a.1 ≤ b.1) → s.Sublist l → EDD s → ∃ v, (dp l)[s.length]? = some v ∧ v ≤ mins s := by
  induction n with
  | zero =>
    intro l s hl _ hs _
    rw [List.length_eq_zero_iff.mp hl] at hs ⊢
    rw [List.sublist_nil.mp hs]
    exact ⟨0, rfl, Nat.le_refl _⟩
  | succ n ih =>
    intro l s hl hp hs he
    obtain ⟨l0, x, rfl⟩ : ∃ l0 x, l = l0 ++ [x] := ⟨l.dropLast, l.getLast (by intro z; rw [z] at hl; simp at hl), (List.dropLast_concat_getLast _).symm⟩
    have hl0 : l0.length = n := by simpa using hl
    have hp0 := List.pairwise_append.mp hp
    rw [dp_snoc]
    obtain ⟨r, er⟩ := dp_ne l0
    rcases sub_snoc hs with h | ⟨s0, rfl, h⟩
    · obtain ⟨v, h1, h2⟩ := ih l0 s hl0 hp0.1 h he
      rw [er] at h1 ⊢
      cases e : s.length with
      | zero => rw [e] at h1; exact ⟨v, h1, h2⟩
      | succ i =>
        rw [e] at h1
        obtain ⟨v', g1, g2⟩ := go_le (m := x.2) (due := x.1) r 0 i v (by simpa using h1)
        exact ⟨v', by simpa [dpStep] using g1, by omega⟩
    · have he0 : EDD s0 := he.sub (List.sublist_append_left _ _)
      obtain ⟨v, h1, h2⟩ := ih l0 s0 hl0 hp0.1 h he0
      have hd := he x.1
      rw [all_load (fun j hj => by
        rcases List.mem_append.mp hj with hj | hj
        · exact hp0.2.2 j (h.mem hj) x List.mem_cons_self
        · rw [List.mem_singleton.mp hj]; exact Nat.le_refl _), mins_app] at hd
      simp only [mins_cons, mins_nil, Nat.add_zero] at hd
      rw [er] at h1 ⊢
      obtain ⟨v', g1, g2⟩ := go_add (m := x.2) (due := x.1) r 0 s0.length v h1 (by omega)
      refine ⟨v', by simpa [dpStep] using g1, ?_⟩
      rw [mins_app]
      simp only [mins_cons, mins_nil, Nat.add_zero]
      omega
end K23
set_option Elab.async false
set_option linter.all false
set_option maxRecDepth 100000
set_option maxHeartbeats 400000
/-! The longest put off, beside the table of least minutes -/
namespace K23
def ins (m : Nat) : List Nat → List Nat
  | [] => [m]
  | x :: s => if m ≤ x then m :: x :: s else x :: ins m s
def psum : Nat → List Nat → List Nat
  | _, [] => []
  | a, x :: s => (a + x) :: psum (a + x) s
theorem ins_ne (m : Nat) (s : List Nat) : ins m s ≠ [] := by
  cases s with
  | nil => simp [ins]
  | cons x s => unfold ins; split <;> simp
theorem ins_perm (m : Nat) : ∀ s : List Nat, (ins m s).Perm (m :: s)
  | [] => List.Perm.refl _
  | x :: s => by
    unfold ins
    split
    · exact List.Perm.refl _
    · exact ((ins_perm m s).cons x).trans (List.Perm.swap _ _ _)
theorem ins_sorted (m : Nat) : ∀ {s : List Nat}, s.Pairwise (· ≤ ·) → (ins m s).Pairwise (· ≤ ·)
  | [], _ => by simp [ins]
  | x :: s, h => by
    have hp := List.pairwise_cons.mp h
    unfold ins
    split
    · rename_i hm
      refine List.pairwise_cons.mpr ⟨fun y hy => ?_, h⟩
      rcases List.mem_cons.mp hy with rfl | hy
      · exact hm
      · exact Nat.le_trans hm (hp.1 y hy)
    · rename_i hm
      refine List.pairwise_cons.mpr ⟨fun y hy => ?_, ins_sorted m hp.2⟩
      rcases List.mem_cons.mp ((ins_perm m s).mem_iff.mp hy) with rfl | hy
      · omega
      · exact hp.1 y hy
theorem ins_head {m x : Nat} {s : List Nat} (h : ∀ y ∈ x :: s, m ≤ y) : ins m (x :: s) = m :: x :: s := by
  unfold ins
  rw [if_pos (h x List.mem_cons_self)]
theorem ins_all {m : Nat} {s : List Nat} (h : ∀ y ∈ s, m ≤ y) : ins m s = m :: s := by
  cases s with
  | nil => rfl
  | cons x s => exact ins_head h
theorem go_psum {m due : Nat} : ∀ {s : List Nat} {a : Nat}, s.Pairwise (· ≤ ·) → a + s.sum ≤ due → go m due a (psum a s) = if a + s.sum + m ≤ due then psum a (ins m s) else psum a (ins m s).dropLast
  | [], a, _, h => by
    simp only [psum, go, ins, List.sum_nil, Nat.add_zero]
    split <;> rfl
  | x :: s, a, hp, h => by
    have hq := List.pairwise_cons.mp hp
    rw [List.sum_cons] at h ⊢
    have ih := go_psum (m := m) (due := due) (a := a + x) hq.2 (by omega)
    show (if a + m ≤ due then min (a + x) (a + m) else a + x) :: go m due (a + x) (psum (a + x) s) = _
    rw [ih]
    have ea : a + (x + s.sum) + m = a + x + s.sum + m := by omega
    rw [ea]
    by_cases hm : m ≤ x
    · have e1 : ins m (x :: s) = m :: x :: s := by unfold ins; rw [if_pos hm]
      have e2 : ins m s = m :: s := ins_all fun y hy => Nat.le_trans hm (hq.1 y hy)
      rw [e1, e2, if_pos (by omega : a + m ≤ due), Nat.min_eq_right (by omega)]
      have ex : a + x + m = a + m + x := by omega
      by_cases hd : a + x + s.sum + m ≤ due
      · rw [if_pos hd, if_pos hd]
        show _ :: (a + x + m) :: psum (a + x + m) s = _ :: (a + m + x) :: psum (a + m + x) s
        rw [ex]
      · rw [if_neg hd, if_neg hd]
        cases s with
        | nil => rfl
        | cons y s =>
          show _ :: (a + x + m) :: psum (a + x + m) (y :: s).dropLast = _ :: (a + m + x) :: psum (a + m + x) (y :: s).dropLast
          rw [ex]
    · have e1 : ins m (x :: s) = x :: ins m s := if_neg hm
      have e3 : (x :: ins m s).dropLast = x :: (ins m s).dropLast := List.dropLast_cons_of_ne_nil (ins_ne m s)
      have e4 : (if a + m ≤ due then min (a + x) (a + m) else a + x) = a + x := by split <;> omega
      rw [e1, e3, e4]
      split <;> rfl
theorem psum_len : ∀ (s : List Nat) (a : Nat), (psum a s).length = s.length
  | [], _ => rfl
  | x :: s, a => by simp [psum, psum_len s]

/-! ### the longest -/
def longest : JN → List JN → JN
  | z, [] => z
  | z, y :: l => if z.1.2 < y.1.2 then longest y l else longest z l
theorem longest_is : ∀ (l : List JN) (z : JN), ∃ a b, z :: l = a ++ longest z l :: b ∧ (∀ y ∈ a, y.1.2 < (longest z l).1.2) ∧ (∀ y ∈ b, y.1.2 ≤ (longest z l).1.2)
  | [], z => ⟨[], [], rfl, (fun _ h => nomatch h), (fun _ h => nomatch h)⟩
  | y :: l, z => by
    unfold longest
    split
    · rename_i h
      obtain ⟨a, b, e, h1, h2⟩ := longest_is l y
      have hy : y.1.2 ≤ (longest y l).1.2 := by
        have : y ∈ a ++ longest y l :: b := by rw [← e]; exact List.mem_cons_self
        rcases List.mem_append.mp this with q | q
        · exact Nat.le_of_lt (h1 y q)
        · rcases List.mem_cons.mp q with q | q
          · rw [← q]; exact Nat.le_refl _
          · exact h2 y q
      refine ⟨z :: a, b, by rw [e]; rfl, fun w hw => ?_, h2⟩
      rcases List.mem_cons.mp hw with rfl | hw
      · omega
      · exact h1 w hw
    · rename_i h
      obtain ⟨a, b, e, h1, h2⟩ := longest_is l z
      cases a with
      | nil =>
        have e : z :: l = longest z l :: b := e
        injection e with e1 e2
        refine ⟨[], y :: l, by rw [← e1]; rfl, (fun _ h => nomatch h), fun w hw => ?_⟩
        rw [← e1]
        rcases List.mem_cons.mp hw with rfl | hw
        · omega
        · rw [e1]; rw [e2] at hw; exact h2 w hw
      | cons c a =>
        have e : z :: l = c :: (a ++ longest z l :: b) := e
        injection e with e1 e2
        subst e1
        have hz := h1 z List.mem_cons_self
        refine ⟨z :: y :: a, b, by rw [List.cons_append, List.cons_append, ← e2], fun w hw => ?_, h2⟩
        rcases List.mem_cons.mp hw with rfl | hw
        · exact hz
        · rcases List.mem_cons.mp hw with rfl | hw
          · omega
          · exact h1 w (List.mem_cons_of_mem _ hw)
/-- the longest so far, of the same the first -/
def long (l : List JN) : JN := match l with
  | [] => ((0, 0), 0)
  | z :: l => longest z l
theorem long_is {l : List JN} (h : l ≠ []) : ∃ a b, l = a ++ long l :: b ∧ (∀ y ∈ a, y.1.2 < (long l).1.2) ∧ (∀ y ∈ b, y.1.2 ≤ (long l).1.2) := by
  cases l with
  | nil => exact absurd rfl h
  | cons z l => exact longest_is l z
def jobs (l : List JN) : List Job := l.map (·.1)
theorem jobs_app (l r : List JN) : jobs (l ++ r) = jobs l ++ jobs r := by simp [jobs]
def mhStep (l : List JN) (z : JN) : List JN := if mins (jobs (l ++ [z])) ≤ z.1.1 then l ++ [z] else (l ++ [z]).filter fun y => decide (y.2 ≠ (long (l ++ [z])).2)
theorem del_nodup {a b : List JN} {o : JN} (h : ((a ++ o :: b).map (·.2)).Nodup) : ((a ++ o :: b).filter fun y => decide (y.2 ≠ o.2)) = a ++ b := by
  rw [List.map_append, List.map_cons] at h
  have h1 := List.nodup_append.mp h
  have h2 := List.nodup_cons.mp h1.2.1
  rw [List.filter_append, List.filter_cons, if_neg (by simp), List.filter_eq_self.mpr fun y hy => ?_, List.filter_eq_self.mpr fun y hy => ?_]
  · refine decide_eq_true fun e => h2.1 ?_
    rw [← e]
    exact List.mem_map_of_mem hy
  · refine decide_eq_true fun e => h1.2.2 y.2 (List.mem_map_of_mem hy) o.2 List.mem_cons_self e
structure MH (l : List JN) (D : Nat) (f : List Nat) : Prop where
  nd : (l.map (·.2)).Nodup
  all : allT 0 (jobs l)
  le : mins (jobs l) ≤ D
  tab : ∃ s : List Nat, s.Pairwise (· ≤ ·) ∧ s.Perm (l.map (·.1.2)) ∧ f = 0 :: psum 0 s
theorem mins_jobs (l : List JN) : mins (jobs l) = (l.map (·.1.2)).sum := by
  unfold mins jobs
  rw [List.map_map]
  rfl
theorem MH.step {l : List JN} {D : Nat} {f : List Nat} (h : MH l D f) (z : JN) (hD : D ≤ z.1.1) (hz : z.2 ∉ l.map (·.2)) : MH (mhStep l z) z.1.1 (dpStep f z.1) := by
  obtain ⟨s, hs, hp, ef⟩ := h.tab
  have hsum : s.sum = mins (jobs l) := by rw [mins_jobs]; exact hp.sum_nat
  have nd' : ((l ++ [z]).map (·.2)).Nodup := by
    rw [List.map_append]
    refine List.nodup_append.mpr ⟨h.nd, by simp, fun a ha b hb e => ?_⟩
    have hb : b = z.2 := by simpa using hb
    rw [e, hb] at ha
    exact hz ha
  have hp' : (ins z.1.2 s).Perm ((l ++ [z]).map (·.1.2)) := by
    refine (ins_perm _ _).trans ((hp.cons _).trans ?_)
    rw [List.map_append]
    exact (List.perm_append_comm (l₁ := [z.1.2]))
  have est : dpStep f z.1 = 0 :: (if 0 + s.sum + z.1.2 ≤ z.1.1 then psum 0 (ins z.1.2 s) else psum 0 (ins z.1.2 s).dropLast) := by
    rw [ef]
    show 0 :: go z.1.2 z.1.1 0 (psum 0 s) = _
    rw [go_psum hs (by have := h.le; omega)]
  have emin : mins (jobs (l ++ [z])) = s.sum + z.1.2 := by
    rw [jobs_app, mins_app, hsum]
    rfl
  unfold mhStep
  by_cases hc : mins (jobs (l ++ [z])) ≤ z.1.1
  · rw [if_pos hc]
    refine ⟨nd', ?_, hc, ins z.1.2 s, ins_sorted _ hs, hp', ?_⟩
    · rw [jobs_app]
      refine allT_app.mpr ⟨h.all, ?_, trivial⟩
      rw [jobs_app, mins_app] at hc
      have e1 : mins (jobs [z]) = z.1.2 := by simp [jobs]
      rw [e1] at hc
      show 0 + mins (jobs l) + z.1.2 ≤ z.1.1
      omega
    · rw [est, if_pos (by omega)]
  · rw [if_neg hc]
    obtain ⟨a, b, e, h1, h2⟩ := long_is (l := l ++ [z]) (by simp)
    generalize long (l ++ [z]) = o at e h1 h2
    have efil : ((l ++ [z]).filter fun y => decide (y.2 ≠ o.2)) = a ++ b := by
      rw [e] at nd' ⊢
      exact del_nodup nd'
    rw [efil]
    have hmax : ∀ y ∈ l ++ [z], y.1.2 ≤ o.1.2 := fun y hy => by
      rw [e] at hy
      rcases List.mem_append.mp hy with q | q
      · exact Nat.le_of_lt (h1 y q)
      · rcases List.mem_cons.mp q with q | q
        · rw [q]; exact Nat.le_refl _
        · exact h2 y q
    have hoz : z.1.2 ≤ o.1.2 := hmax z (by simp)
    have eab : mins (jobs (l ++ [z])) = mins (jobs (a ++ b)) + o.1.2 := by
      rw [e, jobs_app, jobs_app, mins_app, mins_app]
      show _ + mins (o.1 :: jobs b) = _
      rw [mins_cons]
      omega
    have hsum2 : mins (jobs (a ++ b)) ≤ mins (jobs l) := by omega
    refine ⟨?_, ?_, by have := h.le; omega, (ins z.1.2 s).dropLast, ?_, ?_, ?_⟩
    · have := nd'
      rw [e] at this
      exact (((List.sublist_cons_self o b).append_left a).map _).nodup this
    · -- in time
      rcases List.eq_nil_or_concat b with hb | ⟨b', y, hb⟩
      · subst hb
        have : l ++ [z] = a ++ [o] := e
        obtain ⟨ea, _⟩ := List.append_inj' this rfl
        rw [List.append_nil, ← ea]
        exact h.all
      · have hb : b = b' ++ [y] := by simpa using hb
        subst hb
        have e' : l ++ [z] = (a ++ o :: b') ++ [y] := by rw [e]; simp
        obtain ⟨el, ez⟩ := List.append_inj' e' rfl
        injection ez with ez
        subst ez
        have hl := h.all
        rw [el, jobs_app] at hl
        rw [← List.append_assoc, jobs_app]
        refine allT_app.mpr ⟨by rw [jobs_app]; exact allT_del (o := o.1) hl, ?_, trivial⟩
        have e1 : mins (jobs (a ++ (b' ++ [z]))) = mins (jobs (a ++ b')) + z.1.2 := by
          rw [← List.append_assoc, jobs_app, mins_app]
          simp [jobs]
        have := h.le
        show 0 + mins (jobs (a ++ b')) + z.1.2 ≤ z.1.1
        omega
    · exact (ins_sorted _ hs).sublist (List.dropLast_sublist _)
    · have hne := ins_ne z.1.2 s
      have ed := (List.dropLast_concat_getLast hne)
      have hlast : (ins z.1.2 s).getLast hne = o.1.2 := by
        refine Nat.le_antisymm ?_ ?_
        · have hm : (ins z.1.2 s).getLast hne ∈ (l ++ [z]).map (·.1.2) := hp'.mem_iff.mp (List.getLast_mem hne)
          obtain ⟨y, hy, ey⟩ := List.mem_map.mp hm
          rw [← ey]
          exact hmax y hy
        · have hm : o.1.2 ∈ ins z.1.2 s := hp'.mem_iff.mpr (List.mem_map.mpr ⟨o, by rw [e]; simp, rfl⟩)
          rw [← ed] at hm
          rcases List.mem_append.mp hm with q | q
          · have hsr := ins_sorted z.1.2 hs
            rw [← ed] at hsr
            exact (List.pairwise_append.mp hsr).2.2 _ q _ List.mem_cons_self
          · have := List.mem_singleton.mp q
            omega
      have hp2 : ((ins z.1.2 s).dropLast ++ [o.1.2]).Perm (o.1.2 :: (a ++ b).map (·.1.2)) := by
        rw [← hlast, ed]
        refine hp'.trans ?_
        rw [e, List.map_append, List.map_cons, List.map_append, hlast]
        exact List.perm_middle
      have hp3 : (o.1.2 :: (ins z.1.2 s).dropLast).Perm (o.1.2 :: (a ++ b).map (·.1.2)) := (List.perm_append_comm (l₁ := [o.1.2])).trans hp2
      exact hp3.cons_inv
    · rw [est, if_neg (by omega)]
end K23
set_option Elab.async false
set_option linter.all false
set_option maxRecDepth 100000
set_option maxHeartbeats 400000
/-! Orders by dues; the fewest late -/
namespace K23
def keyLe (a b : JN) : Bool := decide (a.1.1 < b.1.1 ∨ (a.1.1 = b.1.1 ∧ a.2 ≤ b.2))
def dueLe (a b : Job) : Bool := decide (a.1 ≤ b.1)
theorem keyLe_trans (a b c : JN) : keyLe a b = true → keyLe b c = true → keyLe a c = true := by
  unfold keyLe; simp only [decide_eq_true_eq]; omega
theorem keyLe_total (a b : JN) : (keyLe a b || keyLe b a) = true := by
  unfold keyLe; simp only [Bool.or_eq_true, decide_eq_true_eq]; omega
theorem dueLe_trans (a b c : Job) : dueLe a b = true → dueLe b c = true → dueLe a c = true := by
  unfold dueLe; simp only [decide_eq_true_eq]; omega
theorem dueLe_total (a b : Job) : (dueLe a b || dueLe b a) = true := by
  unfold dueLe; simp only [Bool.or_eq_true, decide_eq_true_eq]; omega
/-- the orders with their numbers, by dues -/
@[irreducible] def zs (os : List Job) : List JN := os.zipIdx.mergeSort keyLe
/-- the orders by dues -/
@[irreducible] def ss (os : List Job) : List Job := os.mergeSort dueLe
theorem zs_perm (os : List Job) : (zs os).Perm os.zipIdx := by unfold zs; exact List.mergeSort_perm _ _
theorem zs_sorted (os : List Job) : (zs os).Pairwise fun a b => keyLe a b = true := by unfold zs; exact List.pairwise_mergeSort keyLe_trans keyLe_total _
theorem zs_jobs (os : List Job) : jobs (zs os) = ss os := by
  unfold zs ss jobs
  rw [← List.mergeSort_zipIdx (l := os)]
  have : keyLe = List.zipIdxLE dueLe := by
   funext a b
   unfold keyLe List.zipIdxLE dueLe
   by_cases h1 : a.1.1 ≤ b.1.1
   · rw [if_pos (decide_eq_true h1)]
     by_cases h2 : b.1.1 ≤ a.1.1
     · rw [if_pos (decide_eq_true h2)]
       congr 1
       apply propext
       constructor
       · rintro (h | h) <;> omega
       · intro h; exact .inr ⟨by omega, h⟩
     · rw [if_neg (by simpa using h2)]
       exact decide_eq_true (.inl (by omega))
   · rw [if_neg (by simpa using h1)]
     exact decide_eq_false (by omega)
  rw [this]
theorem ss_perm (os : List Job) : (ss os).Perm os := by unfold ss; exact List.mergeSort_perm _ _
theorem ss_sorted (os : List Job) : (ss os).Pairwise fun a b => a.1 ≤ b.1 := by
  unfold ss
  exact (List.pairwise_mergeSort dueLe_trans dueLe_total _).imp fun h => by simpa [dueLe] using h
theorem zs_nodup (os : List Job) : ((zs os).map (·.2)).Nodup := by
  refine ((zs_perm os).map _).nodup_iff.mpr ?_
  rw [List.zipIdx_map_snd]; exact List.nodup_range'
theorem zs_at {os : List Job} {z : JN} (h : z ∈ zs os) : os[z.2]? = some z.1 := by
  have := (zs_perm os).mem_iff.mp h
  exact List.mem_zipIdx_iff_getElem?.mp this
/-- those in time: the longest is put off where one is late -/
@[irreducible] def mh (os : List Job) : List JN := (zs os).foldl mhStep []
theorem mhStep_mem {l : List JN} {z y : JN} (h : y ∈ mhStep l z) : y ∈ l ∨ y = z := by
  unfold mhStep at h
  split at h
  · simpa using h
  · simpa using (List.mem_filter.mp h).1
theorem MH.start : MH [] 0 [0] := ⟨by simp, trivial, Nat.le_refl _, [], List.Pairwise.nil, List.Perm.refl _, rfl⟩
theorem MH.fold : ∀ (r l : List JN) (D : Nat) (f : List Nat), MH l D f → (∀ z ∈ r, D ≤ z.1.1) → r.Pairwise (fun a b => keyLe a b = true) → (r.map (·.2)).Nodup → (∀ z ∈ r, z.2 ∉ l.map (·.2)) → ∃ D', MH (r.foldl mhStep l) D' ((jobs r).foldl dpStep f)
  | [], l, D, f, h, _, _, _, _ => ⟨D, h⟩
  | z :: r, l, D, f, h, hD, hp, hn, hz => by
    have hp' := List.pairwise_cons.mp hp
    have hn' := List.nodup_cons.mp hn
    refine MH.fold r (mhStep l z) z.1.1 (dpStep f z.1) (h.step z (hD z List.mem_cons_self) (hz z List.mem_cons_self)) (fun y hy => ?_) hp'.2 hn'.2 (fun y hy hm => ?_)
    · have := hp'.1 y hy
      unfold keyLe at this
      simp only [decide_eq_true_eq] at this
      omega
    · obtain ⟨w, hw, e⟩ := List.mem_map.mp hm
      rcases mhStep_mem hw with q | q
      · exact hz y (List.mem_cons_of_mem _ hy) (List.mem_map.mpr ⟨w, q, e⟩)
      · rw [q] at e
        exact hn'.1 (List.mem_map.mpr ⟨y, hy, e.symm⟩)
theorem mh_is (os : List Job) : ∃ D, MH (mh os) D (dp (ss os)) := by
  obtain ⟨D, h⟩ := MH.fold (zs os) [] 0 [0] MH.start (fun _ _ => Nat.zero_le _) (zs_sorted os) (zs_nodup os) (fun _ _ => by simp)
  rw [zs_jobs] at h
  unfold mh dp
  exact ⟨D, h⟩
/-- the most that can be in time -/
def opt (os : List Job) : Nat := (mh os).length
theorem dp_len (os : List Job) : (dp (ss os)).length = opt os + 1 := by
  obtain ⟨D, h⟩ := mh_is os
  obtain ⟨s, _, hp, e⟩ := h.tab
  rw [e, List.length_cons, psum_len, hp.length_eq, List.length_map, opt]
/-- a lot of orders: put otherwise, some of them -/
def Lot (J os : List Job) : Prop := ∃ K, J.Perm K ∧ K.Sublist os
theorem Lot.trans {J K os : List Job} (h : Lot J K) (s : K.Sublist os) : Lot J os := let ⟨A, p, q⟩ := h; ⟨A, p, q.trans s⟩
theorem opt_best {J os : List Job} (h : Lot J os) (e : EDD J) : J.length ≤ opt os := by
  obtain ⟨K, p, q⟩ := h
  obtain ⟨L, p2, q2⟩ := List.exists_perm_sublist q (ss_perm os).symm
  obtain ⟨v, h1, _⟩ := dp_best _ (ss os) L rfl (ss_sorted os) q2 ((e.perm p).perm p2.symm)
  have hl : L.length < (dp (ss os)).length := (List.getElem?_eq_some_iff.mp h1).1
  rw [dp_len] at hl
  rw [p.length_eq, ← p2.length_eq]
  omega
theorem mh_sub_zs (os : List Job) : ∀ z ∈ mh os, z ∈ zs os := by
  have : ∀ (r l : List JN), ∀ z ∈ r.foldl mhStep l, z ∈ l ∨ z ∈ r := fun r => by
    induction r with
    | nil => exact fun l z h => .inl h
    | cons y r ih =>
      intro l z h
      rcases ih (mhStep l y) z h with q | q
      · rcases mhStep_mem q with q | q
        · exact .inl q
        · exact .inr (by rw [q]; exact List.mem_cons_self)
      · exact .inr (List.mem_cons_of_mem _ q)
  intro z h
  unfold mh at h
  rcases this _ _ z h with q | q
  · cases q
  · exact q
/-! ### by numbers -/
def gj (os : List Job) (k : Nat) : Job := os.getD k (0, 0)
theorem gj_at {os : List Job} {k : Nat} {j : Job} (h : os[k]? = some j) : gj os k = j := by
  unfold gj
  rw [List.getD_eq_getElem?_getD, h]
  rfl
theorem map_gj (os : List Job) : (List.range os.length).map (gj os) = os := by
  refine List.ext_getElem? fun i => ?_
  rw [List.getElem?_map]
  by_cases h : i < os.length
  · rw [List.getElem?_range h]
    show some (gj os i) = _
    rw [List.getElem?_eq_getElem h, gj_at (List.getElem?_eq_getElem h)]
  · rw [List.getElem?_eq_none (by simpa using h), List.getElem?_eq_none (by simpa using h)]
    rfl
theorem lot_of {os : List Job} {l : List Nat} (hn : l.Nodup) (hl : ∀ k ∈ l, k < os.length) : Lot (l.map (gj os)) os := by
  have p : l.Perm ((List.range os.length).filter fun k => decide (k ∈ l)) := by
    refine (List.perm_ext_iff_of_nodup hn (List.nodup_range.filter _)).mpr fun k => ?_
    rw [List.mem_filter, List.mem_range]
    exact ⟨fun h => ⟨hl k h, decide_eq_true h⟩, fun h => of_decide_eq_true h.2⟩
  refine ⟨_, p.map _, ?_⟩
  have := (List.filter_sublist (l := List.range os.length) (p := fun k => decide (k ∈ l))).map (gj os)
  rw [map_gj] at this
  exact this
def mhN (os : List Job) : List Nat := (mh os).map (·.2)
theorem mhN_len (os : List Job) : (mhN os).length = opt os := by unfold mhN opt; rw [List.length_map]
theorem mhN_nodup (os : List Job) : (mhN os).Nodup := let ⟨_, h⟩ := mh_is os; h.nd
theorem mhN_lt {os : List Job} {k : Nat} (h : k ∈ mhN os) : k < os.length := by
  obtain ⟨z, hz, rfl⟩ := List.mem_map.mp h
  exact (List.getElem?_eq_some_iff.mp (zs_at (mh_sub_zs os z hz))).1
theorem mhN_jobs (os : List Job) : (mhN os).map (gj os) = jobs (mh os) := by
  unfold mhN jobs
  rw [List.map_map]
  exact List.map_congr_left fun z hz => gj_at (zs_at (mh_sub_zs os z hz))
theorem mh_lot (os : List Job) : Lot (jobs (mh os)) os := by
  rw [← mhN_jobs]
  exact lot_of (mhN_nodup os) fun k => mhN_lt
theorem mh_edd (os : List Job) : EDD (jobs (mh os)) := let ⟨_, h⟩ := mh_is os; allT_edd h.all
theorem lot_len {J os : List Job} (h : Lot J os) : J.length ≤ os.length := let ⟨K, p, q⟩ := h; by rw [p.length_eq]; exact q.length_le
theorem opt_le (os : List Job) : opt os ≤ os.length := by
  have := lot_len (mh_lot os)
  unfold jobs at this
  rw [List.length_map] at this
  exact this
theorem opt_all (os : List Job) : opt os = os.length ↔ EDD os := by
  constructor
  · intro h
    obtain ⟨K, p, q⟩ := mh_lot os
    have : K = os := q.eq_of_length (by rw [← p.length_eq, ← h]; unfold jobs opt; rw [List.length_map])
    rw [← this]
    exact (mh_edd os).perm p
  · intro h
    have := opt_best (J := os) ⟨os, List.Perm.refl _, List.Sublist.refl _⟩ h
    have := opt_le os
    omega
/-- one left out -/
theorem opt_fewer (A B : List Job) (x : Job) : opt (A ++ x :: B) - 1 ≤ opt (A ++ B) ∧ opt (A ++ B) ≤ opt (A ++ x :: B) := by
  have hs : (A ++ B).Sublist (A ++ x :: B) := (List.Sublist.refl A).append (List.sublist_cons_self x B)
  constructor
  · obtain ⟨K, p, q⟩ := mh_lot (A ++ x :: B)
    have he := (mh_edd (A ++ x :: B)).perm p
    have hl : K.length = opt (A ++ x :: B) := by rw [← p.length_eq]; unfold jobs opt; rw [List.length_map]
    obtain ⟨K1, K2, e, h1, h2⟩ := List.sublist_append_iff.mp q
    cases h2 with
    | cons _ h2 =>
      have := opt_best (J := K) (os := A ++ B) ⟨K, List.Perm.refl _, by rw [e]; exact h1.append h2⟩ he
      omega
    | cons_cons _ h2 =>
      rename_i K2
      have hs2 : (K1 ++ K2).Sublist K := by rw [e]; exact (List.Sublist.refl K1).append (List.sublist_cons_self x K2)
      have := opt_best (J := K1 ++ K2) (os := A ++ B) ⟨_, List.Perm.refl _, h1.append h2⟩ (he.sub hs2)
      rw [e] at hl
      simp only [List.length_append, List.length_cons] at hl this ⊢
      omega
  · have := opt_best ((mh_lot (A ++ B)).trans hs) (mh_edd (A ++ B))
    unfold jobs at this
    rw [List.length_map] at this
    exact this
/-! ### in time of a sequence of numbers -/
def inI (os : List Job) : Nat → List Nat → List Nat
  | _, [] => []
  | now, k :: l => if now + (gj os k).2 ≤ (gj os k).1 then k :: inI os (now + (gj os k).2) l else inI os (now + (gj os k).2) l
theorem inI_jobs (os : List Job) : ∀ (l : List Nat) (now : Nat), (inI os now l).map (gj os) = inT now (l.map (gj os))
  | [], _ => rfl
  | k :: l, now => by
    rw [List.map_cons]
    unfold inI inT
    split
    · rw [List.map_cons, inI_jobs os l]
    · rw [inI_jobs os l]
theorem inI_sub (os : List Job) : ∀ (l : List Nat) (now : Nat), (inI os now l).Sublist l
  | [], _ => List.Sublist.slnil
  | k :: l, now => by
    unfold inI
    split
    · exact (inI_sub os l _).cons_cons k
    · exact (inI_sub os l _).cons k
theorem inI_le {os : List Job} {l : List Nat} (hn : l.Nodup) (hl : ∀ k ∈ l, k < os.length) : (inI os 0 l).length ≤ opt os := by
  have s := inI_sub os l 0
  have := opt_best (lot_of (os := os) (s.nodup hn) fun k hk => hl k (s.mem hk)) (by rw [inI_jobs]; exact inT_edd _)
  rw [List.length_map] at this
  exact this
theorem inI_all {os : List Job} : ∀ {l : List Nat} {now : Nat}, allT now (l.map (gj os)) → inI os now l = l
  | [], _, _ => rfl
  | k :: l, now, h => by
    unfold inI
    rw [if_pos h.1, inI_all h.2]
theorem inI_mh (os : List Job) : inI os 0 (mhN os) = mhN os := inI_all (by
  rw [mhN_jobs]
  obtain ⟨_, h⟩ := mh_is os
  exact h.all)
end K23
set_option Elab.async false
set_option linter.all false
set_option maxRecDepth 100000
set_option maxHeartbeats 400000
/-! When each is done, by dues; those put off; the least wait -/
namespace K23
/-- when an order is done, by dues -/
def doneAt (os : List Job) (k : Nat) : Nat := mins (jobs (os.zipIdx.filter fun y => keyLe y (gj os k, k)))
theorem keyLe_refl (z : JN) : keyLe z z = true := by unfold keyLe; simp
theorem keyLe_anti {y z : JN} (h1 : keyLe y z = true) (h2 : keyLe z y = true) : y.2 = z.2 := by
  unfold keyLe at h1 h2
  simp only [decide_eq_true_eq] at h1 h2
  omega
theorem zs_gj {os : List Job} {z : JN} (h : z ∈ zs os) : (gj os z.2, z.2) = z := by rw [gj_at (zs_at h)]
theorem doneAt_is {os : List Job} {A B : List JN} {z : JN} (h : zs os = A ++ z :: B) : doneAt os z.2 = mins (jobs A) + z.1.2 := by
  have hz : z ∈ zs os := by rw [h]; simp
  unfold doneAt
  rw [zs_gj hz]
  have p : (os.zipIdx.filter fun y => keyLe y z).Perm ((zs os).filter fun y => keyLe y z) := (zs_perm os).symm.filter _
  have p2 : (jobs (os.zipIdx.filter fun y => keyLe y z)).Perm (jobs ((zs os).filter fun y => keyLe y z)) := p.map _
  rw [mins_perm p2, h]
  have hs := zs_sorted os
  have hn := zs_nodup os
  rw [h] at hs hn
  have hs' := List.pairwise_append.mp hs
  have hs2 := List.pairwise_cons.mp hs'.2.1
  rw [List.map_append, List.map_cons] at hn
  have hn2 := List.nodup_cons.mp (List.nodup_append.mp hn).2.1
  rw [List.filter_append, List.filter_cons, if_pos (keyLe_refl z), List.filter_eq_self.mpr fun y hy => hs'.2.2 y hy z List.mem_cons_self, List.filter_eq_nil_iff.mpr fun y hy hk => ?_]
  · rw [jobs_app, mins_app]
    rfl
  · have := keyLe_anti hk (hs2.1 y hy)
    exact hn2.1 (List.mem_map.mpr ⟨y, hy, this⟩)
theorem exists_max : ∀ {l : List JN}, l ≠ [] → ∃ m ∈ l, ∀ x ∈ l, keyLe x m = true
  | [], h => absurd rfl h
  | [x], _ => ⟨x, List.mem_cons_self, fun y hy => by rw [List.mem_singleton.mp hy]; exact keyLe_refl x⟩
  | x :: y :: l, _ => by
    obtain ⟨m, hm, h⟩ := exists_max (l := y :: l) (by simp)
    by_cases hx : keyLe x m = true
    · exact ⟨m, List.mem_cons_of_mem _ hm, fun z hz => by
        rcases List.mem_cons.mp hz with rfl | hz
        · exact hx
        · exact h z hz⟩
    · have hmx : keyLe m x = true := by
        have := keyLe_total x m
        simp only [Bool.or_eq_true] at this
        rcases this with q | q
        · exact absurd q hx
        · exact q
      exact ⟨x, List.mem_cons_self, fun z hz => by
        rcases List.mem_cons.mp hz with rfl | hz
        · exact keyLe_refl _
        · exact keyLe_trans _ _ _ (h z hz) hmx⟩
theorem zip_jobs (os : List Job) : jobs os.zipIdx = os := by unfold jobs; exact List.zipIdx_map_fst ..
theorem load_zip (os : List Job) (t : Nat) : load os t = mins (jobs (os.zipIdx.filter fun y => decide (y.1.1 ≤ t))) := by
  have : ∀ l : List JN, mins ((jobs l).filter fun j => decide (j.1 ≤ t)) = mins (jobs (l.filter fun y => decide (y.1.1 ≤ t))) := fun l => by
    unfold jobs
    rw [List.filter_map]
    rfl
  unfold load
  conv => lhs; rw [← zip_jobs os]
  exact this _
theorem mins_filter_imp {l : List JN} {p q : JN → Bool} (h : ∀ y ∈ l, p y = true → q y = true) : mins (jobs (l.filter p)) ≤ mins (jobs (l.filter q)) := by
  refine mins_sub (List.Sublist.map _ ?_)
  induction l with
  | nil => exact List.Sublist.slnil
  | cons x l ih =>
    have ih := ih fun y hy => h y (List.mem_cons_of_mem _ hy)
    have hx := h x List.mem_cons_self
    rw [List.filter_cons, List.filter_cons]
    cases e : p x with
    | true => rw [if_pos rfl, if_pos (hx e)]; exact ih.cons_cons x
    | false =>
      rw [if_neg (by simp)]
      split
      · exact ih.cons x
      · exact ih
theorem zip_at {os : List Job} {y : JN} (h : y ∈ os.zipIdx) : gj os y.2 = y.1 := gj_at (List.mem_zipIdx_iff_getElem?.mp h)
theorem kept_iff (os : List Job) : (∀ k, k < os.length → doneAt os k ≤ (gj os k).1) ↔ EDD os := by
  constructor
  · intro h t
    rw [load_zip]
    by_cases he : (os.zipIdx.filter fun y => decide (y.1.1 ≤ t)) = []
    · rw [he]; exact Nat.zero_le _
    · obtain ⟨m, hm, hmax⟩ := exists_max he
      obtain ⟨m1, m2⟩ := List.mem_filter.mp hm
      have hk : m.2 < os.length := (List.getElem?_eq_some_iff.mp (List.mem_zipIdx_iff_getElem?.mp m1)).1
      have hd := h m.2 hk
      have em : (gj os m.2, m.2) = m := by rw [zip_at m1]
      unfold doneAt at hd
      rw [em, zip_at m1] at hd
      refine Nat.le_trans (Nat.le_trans (mins_filter_imp fun y hy hp => ?_) hd) (of_decide_eq_true m2)
      exact hmax y (List.mem_filter.mpr ⟨hy, hp⟩)
  · intro h k hk
    refine Nat.le_trans ?_ (h (gj os k).1)
    rw [load_zip]
    unfold doneAt
    refine mins_filter_imp fun y hy hp => decide_eq_true ?_
    unfold keyLe at hp
    simp only [decide_eq_true_eq] at hp
    omega
/-! ### those put off -/
def lateN (os : List Job) : List Nat := (List.range os.length).filter fun k => decide (k ∉ mhN os)
def mhStepL (st : List JN × List Nat) (z : JN) : List JN × List Nat :=
  (mhStep st.1 z, if mins (jobs (st.1 ++ [z])) ≤ z.1.1 then st.2 else st.2 ++ [(long (st.1 ++ [z])).2])
theorem mhL_fst : ∀ (r : List JN) (st : List JN × List Nat), (r.foldl mhStepL st).1 = r.foldl mhStep st.1
  | [], _ => rfl
  | z :: r, st => mhL_fst r (mhStepL st z)
theorem mhStepL_perm {st : List JN × List Nat} {z : JN} (hn : (st.1.map (·.2)).Nodup) (hz : z.2 ∉ st.1.map (·.2)) : ((mhStepL st z).1.map (·.2) ++ (mhStepL st z).2).Perm (z.2 :: (st.1.map (·.2) ++ st.2)) := by
  unfold mhStepL mhStep
  dsimp only
  split
  · rw [List.map_append, List.append_assoc]
    exact List.perm_middle
  · obtain ⟨a, b, e, _, _⟩ := long_is (l := st.1 ++ [z]) (by simp)
    generalize long (st.1 ++ [z]) = o at e
    have nd' : ((st.1 ++ [z]).map (·.2)).Nodup := by
      rw [List.map_append]
      refine List.nodup_append.mpr ⟨hn, by simp, fun a ha b hb e => ?_⟩
      have hb : b = z.2 := by simpa using hb
      rw [e, hb] at ha
      exact hz ha
    rw [e] at nd' ⊢
    rw [del_nodup nd']
    have h1 : ((a ++ b).map (·.2) ++ (st.2 ++ [o.2])).Perm (o.2 :: ((a ++ b).map (·.2) ++ st.2)) := by
      rw [← List.append_assoc]
      exact List.perm_append_comm (l₂ := [o.2])
    refine h1.trans ?_
    have h2 : (o.2 :: ((a ++ b).map (·.2))).Perm ((st.1 ++ [z]).map (·.2)) := by
      rw [e, List.map_append, List.map_append, List.map_cons]
      exact List.perm_middle.symm
    have h3 : ((st.1 ++ [z]).map (·.2)).Perm (z.2 :: st.1.map (·.2)) := by
      rw [List.map_append]
      exact List.perm_append_comm (l₂ := [z.2])
    exact (h2.trans h3).append_right st.2
theorem mhL_perm : ∀ (r : List JN) (st : List JN × List Nat) (D : Nat) (f : List Nat), MH st.1 D f → (∀ z ∈ r, D ≤ z.1.1) → r.Pairwise (fun a b => keyLe a b = true) → (r.map (·.2)).Nodup → (∀ z ∈ r, z.2 ∉ st.1.map (·.2)) →
    ((r.foldl mhStepL st).1.map (·.2) ++ (r.foldl mhStepL st).2).Perm (r.map (·.2) ++ (st.1.map (·.2) ++ st.2))
  | [], st, D, f, h, _, _, _, _ => List.Perm.refl _
  | (z : JN) :: r, st, D, f, h, hD, hp, hn, hz => by
    have hp' := List.pairwise_cons.mp hp
    have hn' := List.nodup_cons.mp hn
    have z1 := hz z List.mem_cons_self
    refine (mhL_perm r (mhStepL st z) z.1.1 (dpStep f z.1) (h.step z (hD z List.mem_cons_self) z1) (fun (y : JN) hy => ?_) hp'.2 hn'.2 (fun y hy hm => ?_)).trans ?_
    · have := hp'.1 y hy
      unfold keyLe at this
      simp only [decide_eq_true_eq] at this
      omega
    · obtain ⟨w, hw, e⟩ := List.mem_map.mp hm
      rcases mhStep_mem hw with q | q
      · exact hz y (List.mem_cons_of_mem _ hy) (List.mem_map.mpr ⟨w, q, e⟩)
      · rw [q] at e
        exact hn'.1 (List.mem_map.mpr ⟨y, hy, e.symm⟩)
    · refine ((mhStepL_perm h.nd z1).append_left _).trans ?_
      exact List.perm_middle
@[irreducible] def lateL (os : List Job) : List Nat := ((zs os).foldl mhStepL ([], [])).2
theorem mhL_is (os : List Job) : (zs os).foldl mhStepL ([], []) = (mh os, lateL os) := by
  unfold mh lateL
  exact Prod.ext (mhL_fst _ _) rfl
theorem nodup_perm_sub {α : Type} {a b c : List α} (p : (a ++ b).Perm c) (hn : c.Nodup) : ∀ k, k ∈ b ↔ k ∈ c ∧ k ∉ a := fun k => by
  have hn2 := p.nodup_iff.mpr hn
  have h3 := (List.nodup_append.mp hn2).2.2
  rw [← p.mem_iff, List.mem_append]
  constructor
  · exact fun h => ⟨.inr h, fun ha => h3 k ha k h rfl⟩
  · rintro ⟨h | h, h2⟩
    · exact absurd h h2
    · exact h
theorem late_perm (os : List Job) : (lateL os).Perm (lateN os) := by
  have p := mhL_perm (zs os) ([], []) 0 [0] MH.start (fun _ _ => Nat.zero_le _) (zs_sorted os) (zs_nodup os) (fun _ _ => by simp)
  rw [mhL_is] at p
  have p2 : ((mhN os) ++ lateL os).Perm (List.range os.length) := by
    refine p.trans ?_
    show ((zs os).map (fun z : JN => z.2) ++ []).Perm _
    rw [List.append_nil]
    refine ((zs_perm os).map _).trans ?_
    rw [List.zipIdx_map_snd, ← List.range_eq_range']
  have hn := p2.nodup_iff.mpr List.nodup_range
  refine (List.perm_ext_iff_of_nodup (List.nodup_append.mp hn).2.1 (List.nodup_range.filter _)).mpr fun k => ?_
  rw [nodup_perm_sub p2 List.nodup_range k]
  rw [List.mem_filter]
  simp
/-! ### the least wait -/
section
variable (w m : Nat → Nat)
def cost : Nat → List Nat → Nat
  | _, [] => 0
  | now, k :: l => w k * (now + m k) + cost (now + m k) l
def wsum (l : List Nat) : Nat := (l.map w).sum
def insS (k : Nat) : List Nat → List Nat
  | [] => [k]
  | x :: l => if w x * m k < w k * m x then k :: x :: l else x :: insS k l
/-- how many of a line an order is put behind -/
def pl (k : Nat) : List Nat → Nat
  | [] => 0
  | x :: l => if w x * m k < w k * m x then 0 else pl k l + 1
def Smith (l : List Nat) : Prop := l.Pairwise fun x y => w y * m x ≤ w x * m y
theorem pl_le (k : Nat) : ∀ l, pl w m k l ≤ l.length
  | [] => Nat.le_refl _
  | x :: l => by
    unfold pl
    split
    · exact Nat.zero_le _
    · rw [List.length_cons]; have := pl_le k l; omega
theorem insS_pl (k : Nat) : ∀ l, l.take (pl w m k l) ++ [k] ++ l.drop (pl w m k l) = insS w m k l
  | [] => rfl
  | x :: l => by
    unfold pl insS
    split
    · rfl
    · rw [List.take_succ_cons, List.drop_succ_cons, List.cons_append, List.cons_append, insS_pl k l]
theorem insS_perm (k : Nat) : ∀ l, (insS w m k l).Perm (k :: l)
  | [] => List.Perm.refl _
  | x :: l => by
    unfold insS
    split
    · exact List.Perm.refl _
    · exact ((insS_perm k l).cons x).trans (List.Perm.swap _ _ _)
variable {w m}
theorem smith_tr {k x y : Nat} (hx : 0 < m x) (hy : 0 < m y) (h1 : w x * m k < w k * m x) (h2 : w y * m x ≤ w x * m y) : w y * m k < w k * m y := by
  have a1 : w x * m k * m y < w k * m x * m y := Nat.mul_lt_mul_of_pos_right h1 hy
  have a2 : w y * m x * m k ≤ w x * m y * m k := Nat.mul_le_mul_right _ h2
  have a3 : w x * m y * m k = w x * m k * m y := by rw [Nat.mul_right_comm]
  have a4 : w y * m x * m k = w y * m k * m x := by rw [Nat.mul_right_comm]
  have a5 : w k * m x * m y = w k * m y * m x := by rw [Nat.mul_right_comm]
  have : w y * m k * m x < w k * m y * m x := by omega
  exact Nat.lt_of_mul_lt_mul_right this
theorem insS_smith {k : Nat} : ∀ {l : List Nat}, (∀ x ∈ l, 0 < m x) → Smith w m l → Smith w m (insS w m k l)
  | [], _, _ => by unfold insS Smith; simp
  | x :: l, hm, h => by
    have hp := List.pairwise_cons.mp h
    unfold insS
    split
    · rename_i hx
      refine List.pairwise_cons.mpr ⟨fun y hy => ?_, h⟩
      rcases List.mem_cons.mp hy with rfl | hy
      · omega
      · exact Nat.le_of_lt (smith_tr (hm x List.mem_cons_self) (hm y (List.mem_cons_of_mem _ hy)) hx (hp.1 y hy))
    · rename_i hx
      refine List.pairwise_cons.mpr ⟨fun y hy => ?_, insS_smith (fun y hy => hm y (List.mem_cons_of_mem _ hy)) hp.2⟩
      rcases List.mem_cons.mp ((insS_perm w m k l).mem_iff.mp hy) with rfl | hy
      · omega
      · exact hp.1 y hy
/-- in a line by the rule those not behind are the first ones -/
theorem pl_count {k : Nat} : ∀ {l : List Nat}, (∀ x ∈ l, 0 < m x) → Smith w m l → (l.filter fun x => decide (w k * m x ≤ w x * m k)).length = pl w m k l
  | [], _, _ => rfl
  | x :: l, hm, h => by
    have hp := List.pairwise_cons.mp h
    unfold pl
    by_cases hx : w x * m k < w k * m x
    · rw [if_pos hx, List.filter_cons, if_neg (by simp; omega), List.filter_eq_nil_iff.mpr fun y hy => ?_]
      · rfl
      · have := smith_tr (hm x List.mem_cons_self) (hm y (List.mem_cons_of_mem _ hy)) hx (hp.1 y hy)
        simp
        omega
    · rw [if_neg hx, List.filter_cons, if_pos (by simp; omega), List.length_cons, pl_count (fun y hy => hm y (List.mem_cons_of_mem _ hy)) hp.2]
theorem cost_app : ∀ (l r : List Nat) (now : Nat), cost w m now (l ++ r) = cost w m now l + cost w m (now + (l.map m).sum) r
  | [], r, now => by simp [cost]
  | k :: l, r, now => by
    rw [List.cons_append, cost, cost, cost_app l r, List.map_cons, List.sum_cons, Nat.add_assoc, Nat.add_assoc]
theorem cost_now : ∀ (l : List Nat) (now d : Nat), cost w m (now + d) l = cost w m now l + d * wsum w l
  | [], _, _ => by simp [cost, wsum]
  | k :: l, now, d => by
    have e : now + d + m k = now + m k + d := by omega
    rw [cost, cost, e, cost_now l, wsum, wsum, List.map_cons, List.sum_cons, Nat.mul_add, Nat.mul_add d, Nat.mul_comm d (w k)]
    omega
theorem wsum_perm {l r : List Nat} (p : l.Perm r) : wsum w l = wsum w r := (p.map _).sum_nat
theorem cost_front {a : List Nat} {y : Nat} (now : Nat) (h : ∀ x ∈ a, w y * m x ≤ w x * m y) (b : List Nat) : cost w m now (a ++ y :: b) ≤ cost w m now (y :: (a ++ b)) := by
  rw [cost_app, cost, cost, cost_app]
  have e1 : now + m y + (a.map m).sum = now + (a.map m).sum + m y := by omega
  rw [e1]
  have e2 : cost w m (now + m y) a = cost w m now a + m y * wsum w a := cost_now a now (m y)
  have e3 : w y * (now + (a.map m).sum + m y) = w y * (now + m y) + w y * (a.map m).sum := by rw [← Nat.mul_add]; congr 1; omega
  rw [e2, e3]
  have key : w y * (a.map m).sum ≤ m y * wsum w a := by
    unfold wsum
    clear e1 e2 e3
    induction a with
    | nil => simp
    | cons x a ih =>
      have h1 := h x List.mem_cons_self
      have ih := ih fun z hz => h z (List.mem_cons_of_mem _ hz)
      rw [List.map_cons, List.sum_cons, List.map_cons, List.sum_cons, Nat.mul_add, Nat.mul_add, Nat.mul_comm (m y) (w x)]
      omega
  omega
theorem smith_best : ∀ (r l : List Nat), r.Perm l → Smith w m l → ∀ now, cost w m now l ≤ cost w m now r
  | [], l, p, _, now => by rw [p.symm.eq_nil]; exact Nat.le_refl _
  | y :: r, l, p, h, now => by
    have hy : y ∈ l := p.mem_iff.mp List.mem_cons_self
    obtain ⟨a, b, rfl⟩ := List.append_of_mem hy
    have p2 : r.Perm (a ++ b) := (p.trans List.perm_middle).cons_inv
    have h' := List.pairwise_append.mp h
    have hs : Smith w m (a ++ b) := h.sublist ((List.sublist_cons_self y b).append_left a)
    refine Nat.le_trans (cost_front now (fun x hx => h'.2.2 x hx y List.mem_cons_self) b) ?_
    rw [cost, cost]
    have := smith_best r (a ++ b) p2 hs (now + m y)
    omega
end
/-- the line by the rule -/
def smith (w m : Nat → Nat) (n : Nat) : List Nat := (List.range n).foldl (fun l k => insS w m k l) []
theorem smith_fold {w m : Nat → Nat} : ∀ (r l : List Nat), (∀ x ∈ r, 0 < m x) → (∀ x ∈ l, 0 < m x) → Smith w m l → Smith w m (r.foldl (fun l k => insS w m k l) l) ∧ (r.foldl (fun l k => insS w m k l) l).Perm (r ++ l)
  | [], l, _, _, h => ⟨h, List.Perm.refl _⟩
  | k :: r, l, h1, h2, h => by
    obtain ⟨g1, g2⟩ := smith_fold r (insS w m k l) (fun x hx => h1 x (List.mem_cons_of_mem _ hx)) (fun x hx => by
      rcases List.mem_cons.mp ((insS_perm w m k l).mem_iff.mp hx) with rfl | hx
      · exact h1 _ List.mem_cons_self
      · exact h2 x hx) (insS_smith h2 h)
    exact ⟨g1, g2.trans (((insS_perm w m k l).append_left r).trans List.perm_middle)⟩
theorem smith_is (w : Nat → Nat) {m : Nat → Nat} {n : Nat} (hm : ∀ k, k < n → 0 < m k) : Smith w m (smith w m n) ∧ (smith w m n).Perm (List.range n) := by
  have := smith_fold (w := w) (m := m) (List.range n) [] (fun x hx => hm x (List.mem_range.mp hx)) (fun _ h => nomatch h) List.Pairwise.nil
  rw [List.append_nil] at this
  exact this
theorem smith_least {w m : Nat → Nat} {n : Nat} {r : List Nat} (hm : ∀ k, k < n → 0 < m k) (p : r.Perm (List.range n)) : cost w m 0 (smith w m n) ≤ cost w m 0 r :=
  smith_best _ _ (p.trans (smith_is w hm).2.symm) (smith_is w hm).1 0
theorem cost_congr {w m w' m' : Nat → Nat} : ∀ (l : List Nat) (now : Nat), (∀ k ∈ l, w k = w' k ∧ m k = m' k) → cost w m now l = cost w' m' now l
  | [], _, _ => rfl
  | k :: l, now, h => by
    obtain ⟨h1, h2⟩ := h k List.mem_cons_self
    rw [cost, cost, h1, h2, cost_congr l _ fun x hx => h x (List.mem_cons_of_mem _ hx)]
theorem cost_w {w m : Nat → Nat} (c : Nat) : ∀ (l : List Nat) (now : Nat), cost (fun k => c * w k) m now l = c * cost w m now l
  | [], _ => rfl
  | k :: l, now => by
    show c * w k * (now + m k) + cost (fun k => c * w k) m (now + m k) l = c * (w k * (now + m k) + cost w m (now + m k) l)
    rw [cost_w c l, Nat.mul_add c, Nat.mul_assoc]
theorem cost_m {w m : Nat → Nat} (c : Nat) : ∀ (l : List Nat) (now : Nat), cost w (fun k => c * m k) (c * now) l = c * cost w m now l
  | [], _ => rfl
  | k :: l, now => by
    show w k * (c * now + c * m k) + cost w (fun k => c * m k) (c * now + c * m k) l = c * (w k * (now + m k) + cost w m (now + m k) l)
    have e : c * now + c * m k = c * (now + m k) := (Nat.mul_add ..).symm
    rw [e, cost_m c l, Nat.mul_add c (w k * _), Nat.mul_left_comm]
end K23
set_option Elab.async false
set_option linter.all false
set_option maxRecDepth 100000
set_option maxHeartbeats 400000
namespace K23
open PySem L2 DL
/-! ### what the defs promise -/
def Job.d (j : Job) : D := .tuple [.int 0, nI j.1, nI j.2]
def osD (os : List Job) : D := .tuple (os.map Job.d)
structure Ords (os : List Job) : Prop where
  pos : 0 < os.length
  len : os.length ≤ 20
  job : ∀ j ∈ os, j.1 ≤ 1000000 ∧ 0 < j.2 ∧ j.2 ≤ 1000000
abbrev natsD (l : List Nat) : List D := l.map nI
abbrev wt (ws : List Nat) (k : Nat) : Nat := ws.getD k 0
abbrev mi (os : List Job) (k : Nat) : Nat := (gj os k).2
def costD (os : List Job) (ws l : List Nat) : Nat := cost (wt ws) (mi os) 0 l
def Wts (os : List Job) (ws : List Nat) : Prop := ws.length = os.length ∧ ∀ x ∈ ws, x ≤ 1000
def keptB (os : List Job) : Bool := (List.range os.length).all fun k => decide (doneAt os k ≤ (gj os k).1)
def askedD (os : List Job) (ds : List Int) (b e : Int) : Int := (((os.zip ds).filter fun p => decide (0 ≥ b) && decide (p.2 ≤ e)).map fun p => (((p.1.2 : Nat) : Int))).sum
def Pot (n : Nat) (xs : List D) : Prop := ∃ o s c : Int, xs = [.int o, .int s, .int c] ∧ 0 ≤ o ∧ (0 ≤ s ∧ s < 2 ^ 61) ∧ 0 ≤ c ∧ c ≤ n
def NL (l : D) (ks : List Nat) : Prop := l = .list (natsD ks) ∨ l = .tuple (natsD ks)
def sp_is_tuple : DSp := fun as q => ∃ xs lo hi, as = [.dat (.tuple xs), .dat (.int lo), .dat (.int hi)] ∧ (lo ≤ ((xs.length : Nat) : Int) ∧ ((xs.length : Nat) : Int) ≤ hi) ∧ q (.dat (.bool true)) []
def sp_is_whole : DSp := fun as q => ∃ i, as = [.dat (.int i)] ∧ q (.dat (.bool true)) []
def sp_is_integer : DSp := fun as q => ∃ i lo hi, as = [.dat (.int i), .dat (.int lo), .dat (.int hi)] ∧ (lo ≤ i ∧ i ≤ hi) ∧ q (.dat (.bool true)) []
def sp_is_orders : DSp := fun as q => ∃ os, as = [.dat (osD os)] ∧ Ords os ∧ q (.dat (.bool true)) []
def sp_is_ready : DSp := sp_is_orders
def sp_check_orders : DSp := fun as q => ∃ os, as = [.dat (osD os)] ∧ Ords os ∧ q (.dat .none) []
def sp_worked : DSp := fun as q => ∃ os, as = [.dat (osD os), .dat (.list (os.map fun j => nI j.1))] ∧ Ords os ∧ ∀ fs : List D, fs.length ≤ 1000 → q (.dat (.tuple [.list fs, .list ((List.range os.length).map fun k => nI (doneAt os k))])) []
def sp_asked_in : DSp := fun as q => ∃ (os : List Job) (ds : List Int) (b e : Int), as = [.dat (osD os), .dat (.list (ds.map PyData.int)), .dat (.tuple [.int b, .int e])] ∧ Ords os ∧ ds.length = os.length ∧ q (.dat (.int (askedD os ds b e))) []
def sp_asks_too_much : DSp := fun as q => ∃ (os : List Job) (ds : List Int), as = [.dat (osD os), .dat (.list (ds.map PyData.int))] ∧ Ords os ∧ ds.length = os.length ∧ (∀ b e : Int, q (.dat (.tuple [.int b, .int e])) []) ∧ ((∀ e ∈ ds, askedD os ds 0 e ≤ max 0 (e - 0)) → q (.dat .none) [])
def sp_kept : DSp := fun as q => ∃ os, as = [.dat (osD os)] ∧ Ords os ∧ ∀ r : List D, q (.dat (.tuple (.str (if keptB os = true then "kept" else "span") :: r))) []
def sp_least_late : DSp := fun as q => ∃ os, as = [.dat (osD os)] ∧ Ords os ∧ ∀ (i : Int) (r : List D), (i ≤ 0 ↔ keptB os = true) → q (.dat (.tuple (.int i :: r))) []
def lateD (os : List Job) : D := .tuple [.tuple (natsD (lateN os)), .tuple (natsD (mhN os))]
def sp_fewest_late : DSp := fun as q => ∃ os, as = [.dat (osD os)] ∧ Ords os ∧ q (.dat (lateD os)) []
def sp__law_told_way : DSp := sp_fewest_late
def sp_in_time : DSp := fun as q => ∃ os l, as = [.dat (osD os), .dat (.tuple (natsD l))] ∧ Ords os ∧ (l.Nodup ∧ ∀ k ∈ l, k < os.length) ∧ q (.dat (.tuple (sortD (natsD (inI os 0 l))))) []
def sp__law_in_time : DSp := sp_in_time
def sp__law_most_in_time : DSp := fun as q => ∃ os, as = [.dat (osD os)] ∧ Ords os ∧ q (.dat (nI (opt os))) []
def sp_is_weights : DSp := fun as q => ∃ os ws, as = [.dat (osD os), .dat (.tuple (natsD ws))] ∧ Ords os ∧ Wts os ws ∧ q (.dat (.bool true)) []
def sp_is_ahead : DSp := fun as q => ∃ os ws a b, as = [.dat (osD os), .dat (.tuple (natsD ws)), .dat (nI a), .dat (nI b)] ∧ Ords os ∧ Wts os ws ∧ (a < os.length ∧ b < os.length) ∧ q (.dat (.bool (decide (wt ws b * mi os a < wt ws a * mi os b)))) []
def sp_wait_of : DSp := fun as q => ∃ os ws l, as = [.dat (osD os), .dat (.tuple (natsD ws)), .dat (.list (natsD l))] ∧ Ords os ∧ Wts os ws ∧ (∀ k ∈ l, k < os.length) ∧ q (.dat (nI (costD os ws l))) []
def sp_least_wait : DSp := fun as q => ∃ os ws, as = [.dat (osD os), .dat (.tuple (natsD ws))] ∧ Ords os ∧ Wts os ws ∧ q (.dat (.tuple [nI (costD os ws (smith (wt ws) (mi os) os.length)), .tuple (natsD (smith (wt ws) (mi os) os.length))])) []
def sp__law_wait : DSp := fun as q => ∃ os ws d l, as = [.dat (osD os), .dat (.list (natsD ws)), .dat d] ∧ Ords os ∧ Wts os ws ∧ NL d l ∧ (∀ k ∈ l, k < os.length) ∧ q (.dat (nI (costD os ws l))) []
def sp__law_take : DSp := fun as q => ∃ (n : Nat) (xs : List D) (m : Nat), as = [.io xs, .dat (nI m)] ∧ Pot n xs ∧ n < 100000 ∧ (0 < m ∧ m < 2 ^ 40) ∧ ∀ (r : Nat) ys, r < m → Pot (n + 1) ys → q (.dat (nI r)) ys
def sp__law_of : DSp := fun as q => ∃ (n : Nat) (xs ds : List D), as = [.io xs, .dat (.list ds)] ∧ Pot n xs ∧ n < 100000 ∧ (0 < ds.length ∧ ds.length < 1000) ∧ ∀ d ys, d ∈ ds → Pot (n + 1) ys → q (.dat d) ys
def sp__law_some : DSp := fun as q => ∃ (n : Nat) (xs ds : List D) (m : Nat), as = [.io xs, .dat (.list ds), .dat (nI m)] ∧ Pot n xs ∧ n < 90000 ∧ (m ≤ ds.length ∧ ds.length < 1000) ∧ ∀ es rest ys, (es ++ rest).Perm ds → es.length = m → Pot (n + m) ys → q (.tmp es) ys
def sp__law_orders : DSp := fun as q => ∃ (n : Nat) (xs : List D), as = [.io xs] ∧ Pot n xs ∧ n < 90000 ∧ ∀ os ys, Ords os → (∀ j ∈ os, j.2 ≤ 300000) → Pot (n + 100) ys → q (.dat (osD os)) ys
def sp__law_is_late_right : DSp := fun as q => ∃ (n : Nat) (xs : List D) (os : List Job), as = [.io xs, .dat (osD os)] ∧ Pot n xs ∧ n < 80000 ∧ Ords os ∧ ∀ ys, Pot (n + 30) ys → q (.dat (.bool true)) ys
def sp__law_is_wait_right : DSp := fun as q => ∃ (n : Nat) (xs : List D) (os : List Job), as = [.io xs, .dat (osD os)] ∧ Pot n xs ∧ n < 80000 ∧ Ords os ∧ (∀ j ∈ os, j.2 ≤ 300000) ∧ ∀ ys, Pot (n + 200) ys → q (.dat (.bool true)) ys
def sp__law_right : DSp := fun as q => ∃ (n : Nat) (xs : List D), as = [.io xs] ∧ Pot n xs ∧ n < 70000 ∧ ∀ ys, Pot (n + 500) ys → q (.dat (.bool true)) ys
def sp__law_places : DSp := fun as q => ∃ ns : List Int, as = [.dat (.list (ns.map PyData.int)), .dat (.int 3)] ∧ ns.length ≤ 63 ∧ ∀ m, m ≤ 3 → q (.tmp (rangeD 0 m)) []
def sp__law_pot : DSp := fun as q => ∃ (ns : List Int) (i : Nat), as = [.dat (.list (ns.map PyData.int)), .dat (nI i)] ∧ ns.length ≤ 63 ∧ i < 3 ∧ ∀ ys, Pot 0 ys → q (.tmp ys) []
end K23
set_option Elab.async false
set_option linter.all false
set_option maxRecDepth 100000
set_option maxHeartbeats 400000
namespace K23
open PySem L2 DL
open PyProof.Rows (boot_repr boot_sum boot_all boot_any boot_max boot_min boot_abs boot_int boot_list boot_tuple boot_sorted)
def top (i : Nat) : Stmt := PySem.Challenge.pw_everypiecesound_k23_whole_orders_weighed.main.body.getD i (.Pass ⟨0, 0, 0, 0⟩)
abbrev s__law_places : Stmt := top 34
abbrev N__law_places : List Str := ["script", "most"]
abbrev s__law_pot : Stmt := top 31
abbrev N__law_pot : List Str := ["script", "place", "cell", "own", "small"]
abbrev s__law_take : Stmt := top 32
abbrev N__law_take : List Str := ["pot", "upto", "digit", "prime", "blend"]
abbrev s__law_of : Stmt := top 33
abbrev N__law_of : List Str := ["pot", "some"]
abbrev s__law_orders : Stmt := top 36
abbrev N__law_orders : List Str := ["pot", "found", "scale", "many", "lap", "minutes"]
abbrev s__law_most_in_time : Stmt := top 37
abbrev N__law_most_in_time : List Str := ["orders", "found", "ready", "due", "minutes", "later", "many", "gone"]
abbrev s_is_tuple : Stmt := top 1
abbrev N_is_tuple : List Str := ["value", "least", "most"]
abbrev s_is_whole : Stmt := top 2
abbrev N_is_whole : List Str := ["value"]
abbrev s_is_integer : Stmt := top 3
abbrev N_is_integer : List Str := ["value", "low", "high"]
abbrev s_is_orders : Stmt := top 16
abbrev N_is_orders : List Str := ["value", "ready", "due", "minutes", "order"]
abbrev s_is_ready : Stmt := top 23
abbrev N_is_ready : List Str := ["value", "order"]
abbrev s_fewest_late : Stmt := top 24
abbrev N_fewest_late : List Str := ["orders", "some", "total", "due", "at", "longest", "order", "place", "one"]
abbrev s__law_told_way : Stmt := top 38
abbrev N__law_told_way : List Str := ["orders", "line", "late", "at", "longest", "out", "order", "due", "one"]
abbrev s_in_time : Stmt := top 25
abbrev N_in_time : List Str := ["orders", "sequence", "found", "now", "at", "one"]
abbrev s__law_some : Stmt := top 35
abbrev N__law_some : List Str := ["pot", "pool", "many", "rests", "found", "lap"]
abbrev s__law_in_time : Stmt := top 39
abbrev N__law_in_time : List Str := ["orders", "line", "found", "now", "at"]
abbrev s_check_orders : Stmt := top 17
abbrev N_check_orders : List Str := ["value"]
abbrev s_worked : Stmt := top 18
abbrev N_worked : List Str := ["orders", "dues", "left", "done", "found", "now", "some", "at", "news", "end", "order", "to"]
abbrev s_asked_in : Stmt := top 19
abbrev N_asked_in : List Str := ["orders", "dues", "span", "begin", "end", "some", "order", "due"]
abbrev s_asks_too_much : Stmt := top 20
abbrev N_asks_too_much : List Str := ["orders", "dues", "begin", "end", "order"]
abbrev s_kept : Stmt := top 21
abbrev N_kept : List Str := ["orders", "dues", "found", "done", "order", "end", "due"]
abbrev s_least_late : Stmt := top 22
abbrev N_least_late : List Str := ["orders", "dues", "found", "done", "late", "span", "order", "end", "due"]
abbrev s__law_is_late_right : Stmt := top 41
abbrev N__law_is_late_right : List Str := ["pot", "orders", "due", "told", "line", "some", "at", "fewer", "less"]
abbrev s_is_weights : Stmt := top 26
abbrev N_is_weights : List Str := ["orders", "value", "many", "one"]
abbrev s_is_ahead : Stmt := top 28
abbrev N_is_ahead : List Str := ["orders", "weights", "one", "other"]
abbrev s_wait_of : Stmt := top 29
abbrev N_wait_of : List Str := ["orders", "weights", "sequence", "now", "total", "at"]
abbrev s_least_wait : Stmt := top 27
abbrev N_least_wait : List Str := ["orders", "weights", "sequence", "at", "order", "place"]
abbrev s__law_wait : Stmt := top 40
abbrev N__law_wait : List Str := ["orders", "weights", "line", "total", "now", "at"]
abbrev s__law_is_wait_right : Stmt := top 42
abbrev N__law_is_wait_right : List Str := ["pot", "orders", "weights", "told", "line", "at", "spot", "lap", "other", "near", "long", "order", "one", "ready", "due", "minutes"]
abbrev s__law_right : Stmt := top 43
abbrev N__law_right : List Str := ["pot", "orders"]
abbrev s_law : Stmt := top 44
abbrev N_law : List Str := ["script", "place", "pot", "lap"]
structure Txt (mg : Str → Option Value) : Prop where
  b_list : mg "list" = none
  b_range : mg "range" = none
  b_max : mg "max" = none
  b_min : mg "min" = none
  b_len : mg "len" = none
  b_sum : mg "sum" = none
  b_int : mg "int" = none
  b_abs : mg "abs" = none
  b_tuple : mg "tuple" = none
  b_sorted : mg "sorted" = none
  b_enumerate : mg "enumerate" = none
  b_isinstance : mg "isinstance" = none
  b_bool : mg "bool" = none
  b_all : mg "all" = none
  b_set : mg "set" = none
  b_any : mg "any" = none
  b_zip : mg "zip" = none
  b_repr : mg "repr" = none
  c_MOST_ORDERS : ∃ t, mg "MOST_ORDERS" = some (.int 20 t)
  c_TRIPLE : ∃ t, mg "TRIPLE" = some (.int 3 t)
  c_MOST_MINUTE : ∃ t, mg "MOST_MINUTE" = some (.int 1000000 t)
  c_PAIR : ∃ t, mg "PAIR" = some (.int 2 t)
  c_KEPT : ∃ t, mg "KEPT" = some (.str "kept" t)
  c_SPAN : ∃ t, mg "SPAN" = some (.str "span" t)
  c_MOST_WEIGHT : ∃ t, mg "MOST_WEIGHT" = some (.int 1000 t)
def t__law_places : DTS := dRet (dLstRg (rg1 (dOpN max2B (dCons (dC (.int 1)) (dCons (dOpN min2B (dCons (dVar 1) (dCons (dOpN lenB (dCons (dVar 0) (dNil))) (dNil)))) (dNil))))))
abbrev r2__law_pot : DTS := dSeq (dSet 4 (dOp2 modB (dOpN intB (dCons (dVar 2) (dNil))) (dC (.int 2305843009213693951)))) (dRet (dLst (dCons (dVar 3) (dCons (dOp2 modB (dOpN intB (dCons (dOp2 addB (dOp2 addB (dOp2 mulB (dVar 4) (dC (.int 140347))) (dOp2 mulB (dOp2 mulB (dC (.int 33921)) (dVar 1)) (dVar 1))) (dC (.int 933))) (dNil))) (dC (.int 2305843009213693921))) (dCons (dC (.int 0)) (dNil))))))
abbrev r1__law_pot : DTS := dSeq (dSet 3 (dOp2 mulB (dOp2 modB (dOpN intB (dCons (dOpN absB (dCons (dVar 2) (dNil))) (dNil))) (dOp2 powB (dOp2 powB (dC (.int 10)) (dC (.int 60))) (dC (.int 5)))) (dOpN intB (dCons (dOp2 geB (dOpN absB (dCons (dVar 2) (dNil))) (dOp2 powB (dC (.int 10)) (dC (.int 18)))) (dNil))))) (r2__law_pot)
def t__law_pot : DTS := dSeq (dSet 2 (dIfE (dTest (dOp2 ltB (dVar 1) (dOpN lenB (dCons (dVar 0) (dNil))))) (dOp2 ixB (dVar 0) (dVar 1)) (dOp2 addB (dOp2 addB (dOp2 modB (dOpN sumB (dCons (dSl slB (dVar 0) (dPartN) (dPart (dC (.int 1)))) (dNil))) (dC (.int 1000003))) (dOp2 mulB (dC (.int 31657)) (dVar 1))) (dC (.int 479))))) (r1__law_pot)
abbrev r4__law_take : DTS := dSeq (dSet 4 (dOp2 modB (dOpN intB (dCons (dOp2 mulB (dVar 4) (dOp2 addB (dOp2 modB (dOpN intB (dCons (dVar 4) (dNil))) (dC (.int 10451))) (dOp2 mulB (dC (.int 122)) (dOp2 ixB (dVar 0) (dC (.int 2)))))) (dNil))) (dC (.int 2305843009213693907)))) (dRet (dOp2 modB (dOpN intB (dCons (dOp2 fdivB (dVar 4) (dC (.int 152))) (dNil))) (dVar 1)))
abbrev r3__law_take : DTS := dSeq (dSet 4 (dOp2 modB (dOpN intB (dCons (dOp2 powB (dOpN intB (dCons (dOp2 addB (dOp2 addB (dOp2 ixB (dVar 0) (dC (.int 1))) (dOp2 mulB (dOp2 mulB (dC (.int 111859)) (dOp2 ixB (dVar 0) (dC (.int 2)))) (dOp2 ixB (dVar 0) (dC (.int 2))))) (dC (.int 779))) (dNil))) (dC (.int 3))) (dNil))) (dVar 3))) (r4__law_take)
abbrev r2__law_take : DTS := dSeq (dSet 3 (dOp2 ixB (dLst (dCons (dC (.int 2147483647)) (dCons (dC (.int 2147483629)) (dCons (dC (.int 2147483587)) (dCons (dC (.int 2147483579)) (dCons (dC (.int 2147483563)) (dNil))))))) (dOp2 modB (dOpN intB (dCons (dOp2 ixB (dVar 0) (dC (.int 2))) (dNil))) (dC (.int 5))))) (r3__law_take)
abbrev r1__law_take : DTS := dSeq (dSetIx 0 (dOp2 addB (dOp2 ixB (dVar 0) (dC (.int 2))) (dC (.int 1))) (dC (.int 2))) (r2__law_take)
def t__law_take : DTS := dSeq (dIf (dTest (dOp2 gtB (dOp2 ixB (dVar 0) (dC (.int 0))) (dC (.int 0)))) (dSeq (dSet 2 (dOp2 modB (dOpN intB (dCons (dOp2 ixB (dVar 0) (dC (.int 0))) (dNil))) (dVar 1))) (dSeq (dSetIx 0 (dOp2 fdivB (dOp2 ixB (dVar 0) (dC (.int 0))) (dVar 1)) (dC (.int 0))) (dRet (dVar 2)))) (dNext)) (r1__law_take)
def t__law_of : DTS := dRet (dOp2 ixB (dVar 1) (dCallIo 0 [false] sp__law_take (dCons (dVar 0) (dCons (dOpN lenB (dCons (dVar 1) (dNil))) (dNil)))))
abbrev p1__law_orders : DTS := dSeq (dDrop (dApp 1 (dTup (dCons (dC (.int 0)) (dCons (dOpN intB (dCons (dCallIo 0 [false] sp__law_take (dCons (dVar 0) (dCons (dOp2 addB (dC (.int 1)) (dOp2 mulB (dVar 2) (dOp2 addB (dC (.int 1)) (dOp2 fdivB (dOp2 mulB (dVar 3) (dC (.int 2))) (dC (.int 3)))))) (dNil)))) (dNil))) (dCons (dVar 5) (dNil))))))) (dIf (dAnd (dTest (dOp2 gtB (dVar 4) (dC (.int 0)))) (dTest (dOp2 eqB (dCallIo 0 [false] sp__law_take (dCons (dVar 0) (dCons (dC (.int 4)) (dNil)))) (dC (.int 0))))) (dSetIx 1 (dTup (dCons (dC (.int 0)) (dCons (dOp2 ixB (dOp2 ixB (dVar 1) (dOp1 negB (dC (.int 2)))) (dC (.int 1))) (dCons (dCallIo 0 [false] sp__law_of (dCons (dVar 0) (dCons (dLst (dCons (dVar 5) (dCons (dOp2 ixB (dOp2 ixB (dVar 1) (dOp1 negB (dC (.int 2)))) (dC (.int 2))) (dNil)))) (dNil)))) (dNil))))) (dOp1 negB (dC (.int 1)))) (dNext))
abbrev b1__law_orders : DTS := dSeq (dSet 5 (dOpN intB (dCons (dOp2 addB (dC (.int 1)) (dCallIo 0 [false] sp__law_take (dCons (dVar 0) (dCons (dVar 2) (dNil))))) (dNil)))) (p1__law_orders)
abbrev r2__law_orders : DTS := dSeq (dFor (diRng1 (dCons (dVar 3) (dNil))) (gdName 4) (b1__law_orders)) (dRet (dOpN tupleB (dCons (dVar 1) (dNil))))
abbrev r1__law_orders : DTS := dSeq (dSet 3 (dOpN intB (dCons (dOp2 addB (dC (.int 1)) (dCallIo 0 [false] sp__law_take (dCons (dVar 0) (dCons (dC (.int 20)) (dNil))))) (dNil)))) (r2__law_orders)
def t__law_orders : DTS := dSeq (dPar [1, 2] (dCons (dLst (dNil)) (dCons (dOpN intB (dCons (dCallIo 0 [false] sp__law_of (dCons (dVar 0) (dCons (dLst (dCons (dC (.int 3)) (dCons (dC (.int 30)) (dCons (dC (.int 50000)) (dNil))))) (dNil)))) (dNil))) (dNil)))) (r1__law_orders)
abbrev b1__law_most_in_time : DTS := dIf (dTest (dOp2 leB (dOp2 addB (dVar 7) (dVar 4)) (dVar 3))) (dIf (dTest (dOp2 eqB (dOp2 addB (dVar 6) (dC (.int 1))) (dOpN lenB (dCons (dVar 5) (dNil))))) (dDrop (dApp 5 (dOp2 addB (dVar 7) (dVar 4)))) (dSetIx 5 (dOpN min2B (dCons (dOp2 ixB (dVar 5) (dOp2 addB (dVar 6) (dC (.int 1)))) (dCons (dOp2 addB (dVar 7) (dVar 4)) (dNil)))) (dOp2 addB (dVar 6) (dC (.int 1))))) (dNext)
abbrev p1__law_most_in_time : DTS := dSeq (dFor (diEnum (dCons (dVar 1) (dNil))) (gdTup 2 (gdCons (gdName 6) (gdCons (gdName 7) (gdNil)))) (b1__law_most_in_time)) (dSet 1 (dVar 5))
abbrev b2__law_most_in_time : DTS := dSeq (dSet 5 (dOpN listB (dCons (dVar 1) (dNil)))) (p1__law_most_in_time)
abbrev r1__law_most_in_time : DTS := dSeq (dFor (diSeq (dSortKey 1 (dVar 0))) (gdTup 3 (gdCons (gdName 2) (gdCons (gdName 3) (gdCons (gdName 4) (gdNil))))) (b2__law_most_in_time)) (dRet (dOp2 subB (dOpN lenB (dCons (dVar 1) (dNil))) (dC (.int 1))))
def t__law_most_in_time : DTS := dSeq (dSet 1 (dLst (dCons (dC (.int 0)) (dNil)))) (r1__law_most_in_time)
def t_is_tuple : DTS := dRet (dAndV (dIsi .tuple (dVar 0)) (dChain leB leB (dVar 1) (dOpN lenB (dCons (dVar 0) (dNil))) (dVar 2)))
def t_is_whole : DTS := dRet (dAndV (dIsi .int (dVar 0)) (dNotV (dIsi .bool (dVar 0))))
def t_is_integer : DTS := dRet (dAndV (dCall [false] sp_is_whole (dCons (dVar 0) (dNil))) (dChain leB leB (dVar 1) (dVar 0) (dVar 2)))
abbrev e1_is_orders : DTE := dCall [false, false, false] sp_is_tuple (dCons (dVar 4) (dCons (dC (.int 3)) (dCons (dC (.int 3)) (dNil))))
abbrev b1_is_orders : DTS := dSeq (dIf (dOr (dNot (dTruth (dCall [false, false, false] sp_is_integer (dCons (dVar 1) (dCons (dC (.int 0)) (dCons (dC (.int 1000000)) (dNil))))))) (dNot (dTruth (dCall [false, false, false] sp_is_integer (dCons (dVar 2) (dCons (dC (.int 0)) (dCons (dC (.int 1000000)) (dNil)))))))) (dRet (dC (.bool false))) (dNext)) (dIf (dNot (dTruth (dCall [false, false, false] sp_is_integer (dCons (dVar 3) (dCons (dC (.int 1)) (dCons (dC (.int 1000000)) (dNil))))))) (dRet (dC (.bool false))) (dNext))
abbrev r1_is_orders : DTS := dSeq (dFor (diSeq (dVar 0)) (gdTup 3 (gdCons (gdName 1) (gdCons (gdName 2) (gdCons (gdName 3) (gdNil))))) (b1_is_orders)) (dRet (dC (.bool true)))
def t_is_orders : DTS := dSeq (dIf (dOr (dNot (dTruth (dCall [false, false, false] sp_is_tuple (dCons (dVar 0) (dCons (dC (.int 1)) (dCons (dC (.int 20)) (dNil))))))) (dNot (dTruth (dOpN allB (dCons (dLc (dcSeq (dVar 0)) (gdName 4) (dYes) (e1_is_orders) [4]) (dNil)))))) (dRet (dC (.bool false))) (dNext)) (r1_is_orders)
abbrev e1_is_ready : DTE := dOp2 eqB (dOp2 ixB (dVar 1) (dC (.int 0))) (dC (.int 0))
def t_is_ready : DTS := dRet (dAndV (dCall [false] sp_is_orders (dCons (dVar 0) (dNil))) (dOpN allB (dCons (dLc (dcSeq (dVar 0)) (gdName 1) (dYes) (e1_is_ready) [1]) (dNil))))
abbrev e1_fewest_late : DTE := dTup (dCons (dOp2 ixB (dVar 6) (dC (.int 1))) (dCons (dVar 4) (dNil)))
abbrev e2_fewest_late : DTE := dTup (dCons (dOp2 ixB (dOp2 ixB (dVar 0) (dVar 8)) (dC (.int 2))) (dCons (dOp1 negB (dVar 7)) (dCons (dVar 8) (dNil))))
abbrev e3_fewest_late : DTE := dVar 8
abbrev i1_fewest_late : DTT := dTest (dOp2 neB (dVar 8) (dVar 5))
abbrev p1_fewest_late : DTS := dSeq (dSet 2 (dOp2 addB (dVar 2) (dOp2 ixB (dOp2 ixB (dVar 0) (dVar 4)) (dC (.int 2))))) (dIf (dTest (dOp2 gtB (dVar 2) (dVar 3))) (dSeq (dSet 5 (dOp2 ixB (dOpN max1B (dCons (dLc (dcEnum (dCons (dVar 1) (dNil))) (gdTup 2 (gdCons (gdName 7) (gdCons (gdName 8) (gdNil)))) (dYes) (e2_fewest_late) [7, 8]) (dNil))) (dC (.int 2)))) (dSeq (dSet 1 (dLc (dcSeq (dVar 1)) (gdName 8) (i1_fewest_late) (e3_fewest_late) [8])) (dSet 2 (dOp2 subB (dVar 2) (dOp2 ixB (dOp2 ixB (dVar 0) (dVar 5)) (dC (.int 2))))))) (dNext))
abbrev b1_fewest_late : DTS := dSeq (dDrop (dApp 1 (dVar 4))) (p1_fewest_late)
abbrev e4_fewest_late : DTE := dVar 4
abbrev i2_fewest_late : DTT := dTest (dOp2 notInB (dVar 4) (dVar 1))
abbrev r2_fewest_late : DTS := dSeq (dFor (diSeq (dOpN sortedSB (dCons (dLc (dcEnum (dCons (dVar 0) (dNil))) (gdTup 2 (gdCons (gdName 4) (gdCons (gdName 6) (gdNil)))) (dYes) (e1_fewest_late) [4, 6]) (dNil)))) (gdTup 2 (gdCons (gdName 3) (gdCons (gdName 4) (gdNil)))) (b1_fewest_late)) (dRet (dTup (dCons (dOpN tupleB (dCons (dLc (dcOf (diRng1 (dCons (dOpN lenB (dCons (dVar 0) (dNil))) (dNil)))) (gdName 4) (i2_fewest_late) (e4_fewest_late) [4]) (dNil))) (dCons (dOpN tupleB (dCons (dVar 1) (dNil))) (dNil)))))
abbrev r1_fewest_late : DTS := dSeq (dPar [1, 2] (dCons (dLst (dNil)) (dCons (dC (.int 0)) (dNil)))) (r2_fewest_late)
def t_fewest_late : DTS := dSeq (dIf (dNot (dTruth (dCall [false] sp_is_ready (dCons (dVar 0) (dNil))))) (dNever) (dNext)) (r1_fewest_late)
abbrev e1__law_told_way : DTE := dTup (dCons (dOp2 ixB (dVar 6) (dC (.int 1))) (dCons (dVar 3) (dNil)))
abbrev e2__law_told_way : DTE := dVar 3
abbrev e3__law_told_way : DTE := dOp2 ixB (dOp2 ixB (dVar 0) (dVar 8)) (dC (.int 2))
abbrev e4__law_told_way : DTE := dOp2 ixB (dOp2 ixB (dVar 0) (dVar 8)) (dC (.int 2))
abbrev e5__law_told_way : DTE := dVar 8
abbrev i1__law_told_way : DTT := dTest (dOp2 eqB (dOp2 ixB (dOp2 ixB (dVar 0) (dVar 8)) (dC (.int 2))) (dVar 4))
abbrev e6__law_told_way : DTE := dVar 8
abbrev i2__law_told_way : DTT := dTest (dOp2 neB (dVar 8) (dVar 5))
abbrev b1__law_told_way : DTS := dSeq (dDrop (dApp 1 (dVar 3))) (dIf (dTest (dOp2 gtB (dOpN sumB (dCons (dLc (dcSeq (dVar 1)) (gdName 8) (dYes) (e3__law_told_way) [8]) (dNil))) (dOp2 ixB (dOp2 ixB (dVar 0) (dVar 3)) (dC (.int 1))))) (dSeq (dSet 4 (dOpN max1B (dCons (dLc (dcSeq (dVar 1)) (gdName 8) (dYes) (e4__law_told_way) [8]) (dNil)))) (dSeq (dSet 5 (dOp2 ixB (dLc (dcSeq (dVar 1)) (gdName 8) (i1__law_told_way) (e5__law_told_way) [8]) (dC (.int 0)))) (dSeq (dSet 1 (dLc (dcSeq (dVar 1)) (gdName 8) (i2__law_told_way) (e6__law_told_way) [8])) (dDrop (dApp 2 (dVar 5)))))) (dNext))
abbrev r1__law_told_way : DTS := dSeq (dFor (diSeq (dLc (dcSeq (dOpN sortedSB (dCons (dLc (dcEnum (dCons (dVar 0) (dNil))) (gdTup 2 (gdCons (gdName 3) (gdCons (gdName 6) (gdNil)))) (dYes) (e1__law_told_way) [3, 6]) (dNil)))) (gdTup 2 (gdCons (gdName 7) (gdCons (gdName 3) (gdNil)))) (dYes) (e2__law_told_way) [7, 3])) (gdName 3) (b1__law_told_way)) (dRet (dTup (dCons (dOpN tupleB (dCons (dOpN sortedSB (dCons (dVar 2) (dNil))) (dNil))) (dCons (dOpN tupleB (dCons (dVar 1) (dNil))) (dNil)))))
def t__law_told_way : DTS := dSeq (dPar [1, 2] (dCons (dLst (dNil)) (dCons (dLst (dNil)) (dNil)))) (r1__law_told_way)
abbrev e1_in_time : DTE := dCall [false, false, false] sp_is_integer (dCons (dVar 5) (dCons (dC (.int 0)) (dCons (dOp2 subB (dOpN lenB (dCons (dVar 0) (dNil))) (dC (.int 1))) (dNil))))
abbrev b1_in_time : DTS := dSeq (dSet 3 (dOp2 addB (dVar 3) (dOp2 ixB (dOp2 ixB (dVar 0) (dVar 4)) (dC (.int 2))))) (dIf (dTest (dOp2 leB (dVar 3) (dOp2 ixB (dOp2 ixB (dVar 0) (dVar 4)) (dC (.int 1))))) (dDrop (dApp 2 (dVar 4))) (dNext))
abbrev r4_in_time : DTS := dSeq (dFor (diSeq (dVar 1)) (gdName 4) (b1_in_time)) (dRet (dOpN tupleB (dCons (dOpN sortedSB (dCons (dVar 2) (dNil))) (dNil))))
abbrev r3_in_time : DTS := dSeq (dPar [2, 3] (dCons (dLst (dNil)) (dCons (dC (.int 0)) (dNil)))) (r4_in_time)
abbrev r2_in_time : DTS := dSeq (dIf (dTest (dOp2 ltB (dLenSet (dVar 1)) (dOpN lenB (dCons (dVar 1) (dNil))))) (dNever) (dNext)) (r3_in_time)
abbrev r1_in_time : DTS := dSeq (dIf (dOr (dNot (dTruth (dIsi .tuple (dVar 1)))) (dNot (dTruth (dOpN allB (dCons (dLc (dcSeq (dVar 1)) (gdName 5) (dYes) (e1_in_time) [5]) (dNil)))))) (dNever) (dNext)) (r2_in_time)
def t_in_time : DTS := dSeq (dIf (dNot (dTruth (dCall [false] sp_is_ready (dCons (dVar 0) (dNil))))) (dNever) (dNext)) (r1_in_time)
abbrev b1__law_some : DTS := dDrop (dApp 4 (dPopAt 3 (dCallIo 0 [false] sp__law_take (dCons (dVar 0) (dCons (dOpN lenB (dCons (dVar 3) (dNil))) (dNil))))))
abbrev r1__law_some : DTS := dSeq (dFor (diRng1 (dCons (dVar 2) (dNil))) (gdName 5) (b1__law_some)) (dRet (dVar 4))
def t__law_some : DTS := dSeq (dPar [3, 4] (dCons (dOpN listB (dCons (dVar 1) (dNil))) (dCons (dLst (dNil)) (dNil)))) (r1__law_some)
abbrev b1__law_in_time : DTS := dSeq (dSet 3 (dOp2 addB (dVar 3) (dOp2 ixB (dOp2 ixB (dVar 0) (dVar 4)) (dC (.int 2))))) (dDrop (dExt 2 (dIfE (dTest (dOp2 leB (dVar 3) (dOp2 ixB (dOp2 ixB (dVar 0) (dVar 4)) (dC (.int 1))))) (dLst (dCons (dVar 4) (dNil))) (dLst (dNil)))))
abbrev r1__law_in_time : DTS := dSeq (dFor (diSeq (dVar 1)) (gdName 4) (b1__law_in_time)) (dRet (dOpN tupleB (dCons (dOpN sortedSB (dCons (dVar 2) (dNil))) (dNil))))
def t__law_in_time : DTS := dSeq (dPar [2, 3] (dCons (dLst (dNil)) (dCons (dC (.int 0)) (dNil)))) (r1__law_in_time)
def t_check_orders : DTS := dIf (dNot (dTruth (dCall [false] sp_is_orders (dCons (dVar 0) (dNil))))) (dNever) (dNext)
abbrev e1_worked : DTE := dOp2 ixB (dVar 10) (dC (.int 2))
abbrev e2_worked : DTE := dOp2 ixB (dVar 10) (dC (.int 0))
abbrev e3_worked : DTE := dTup (dCons (dOp2 ixB (dVar 1) (dVar 7)) (dCons (dVar 7) (dNil)))
abbrev i1_worked : DTT := dAnd (dTest (dOp2 gtB (dOp2 ixB (dVar 2) (dVar 7)) (dC (.int 0)))) (dTest (dOp2 leB (dOp2 ixB (dVar 10) (dC (.int 0))) (dVar 5)))
abbrev e4_worked : DTE := dOp2 ixB (dVar 10) (dC (.int 0))
abbrev i2_worked : DTT := dTest (dOp2 gtB (dOp2 ixB (dVar 2) (dVar 7)) (dC (.int 0)))
abbrev e5_worked : DTE := dOp2 ixB (dVar 10) (dC (.int 0))
abbrev i3_worked : DTT := dAnd (dTest (dOp2 gtB (dOp2 ixB (dVar 2) (dVar 11)) (dC (.int 0)))) (dTest (dOp2 gtB (dOp2 ixB (dVar 10) (dC (.int 0))) (dVar 5)))
abbrev p1_worked : DTS := dSeq (dParW 2 (gdCons (gwIx 2 (dVar 7)) (gdCons (gdName 5) (gdNil))) (dCons (dOp2 subB (dOp2 ixB (dVar 2) (dVar 7)) (dOp2 subB (dVar 9) (dVar 5))) (dCons (dVar 9) (dNil)))) (dSetIx 3 (dVar 9) (dVar 7))
abbrev p2_worked : DTS := dSeq (dIf (dAnd (dTest (dOp2 neB (dVar 4) (dLst (dNil)))) (dAnd (dTest (dOp2 eqB (dOp2 ixB (dOp2 ixB (dVar 4) (dOp1 negB (dC (.int 1)))) (dC (.int 0))) (dVar 7))) (dTest (dOp2 eqB (dOp2 ixB (dOp2 ixB (dVar 4) (dOp1 negB (dC (.int 1)))) (dC (.int 2))) (dVar 5))))) (dSetIx 4 (dTup (dCons (dVar 7) (dCons (dOp2 ixB (dOp2 ixB (dVar 4) (dOp1 negB (dC (.int 1)))) (dC (.int 1))) (dCons (dVar 9) (dNil))))) (dOp1 negB (dC (.int 1)))) (dDrop (dApp 4 (dTup (dCons (dVar 7) (dCons (dVar 5) (dCons (dVar 9) (dNil)))))))) (p1_worked)
abbrev p3_worked : DTS := dSeq (dSet 9 (dOpN min1B (dCons (dLst (dCons (dOp2 addB (dVar 5) (dOp2 ixB (dVar 2) (dVar 7))) (dStar (dVar 8) (dNil)))) (dNil)))) (p2_worked)
abbrev p4_worked : DTS := dSeq (dSet 8 (dLc (dcEnum (dCons (dVar 0) (dNil))) (gdTup 2 (gdCons (gdName 11) (gdCons (gdName 10) (gdNil)))) (i3_worked) (e5_worked) [11, 10])) (p3_worked)
abbrev p5_worked : DTS := dSeq (dSet 7 (dOp2 ixB (dOpN min1B (dCons (dVar 6) (dNil))) (dC (.int 1)))) (p4_worked)
abbrev p6_worked : DTS := dSeq (dIf (dTest (dOp2 eqB (dVar 6) (dLst (dNil)))) (dSeq (dSet 5 (dOpN min1B (dCons (dLc (dcEnum (dCons (dVar 0) (dNil))) (gdTup 2 (gdCons (gdName 7) (gdCons (gdName 10) (gdNil)))) (i2_worked) (e4_worked) [7, 10]) (dNil)))) (dCont)) (dNext)) (p5_worked)
abbrev b1_worked : DTS := dSeq (dSet 6 (dLc (dcEnum (dCons (dVar 0) (dNil))) (gdTup 2 (gdCons (gdName 7) (gdCons (gdName 10) (gdNil)))) (i1_worked) (e3_worked) [7, 10])) (p6_worked)
abbrev c1_worked : DTT := dTruth (dOpN anyTB (dCons (dVar 2) (dNil)))
abbrev r2_worked : DTS := dSeq (dWhile (c1_worked) (b1_worked)) (dRet (dTup (dCons (dVar 4) (dCons (dVar 3) (dNil)))))
abbrev r1_worked : DTS := dSeq (dPar [3, 4, 5] (dCons (dRepL (dCons (dC (.int 0)) (dNil)) (dOpN lenB (dCons (dVar 0) (dNil)))) (dCons (dLst (dNil)) (dCons (dOpN min1B (dCons (dLc (dcSeq (dVar 0)) (gdName 10) (dYes) (e2_worked) [10]) (dNil))) (dNil))))) (r2_worked)
def t_worked : DTS := dSeq (dSet 2 (dLc (dcSeq (dVar 0)) (gdName 10) (dYes) (e1_worked) [10])) (r1_worked)
abbrev e1_asked_in : DTE := dOp2 ixB (dVar 6) (dC (.int 2))
abbrev i1_asked_in : DTT := dAnd (dTest (dOp2 geB (dOp2 ixB (dVar 6) (dC (.int 0))) (dVar 3))) (dTest (dOp2 leB (dVar 7) (dVar 4)))
abbrev r1_asked_in : DTS := dSeq (dSet 5 (dLc (dcZip2 (dCons (dVar 0) (dCons (dVar 1) (dNil)))) (gdTup 2 (gdCons (gdName 6) (gdCons (gdName 7) (gdNil)))) (i1_asked_in) (e1_asked_in) [6, 7])) (dRet (dOpN sumB (dCons (dVar 5) (dNil))))
def t_asked_in : DTS := dSeq (dUnp (gdTup 2 (gdCons (gdName 3) (gdCons (gdName 4) (gdNil)))) (dVar 2)) (r1_asked_in)
abbrev e1_asks_too_much : DTE := dOp2 ixB (dVar 4) (dC (.int 0))
abbrev b1_asks_too_much : DTS := dIf (dTest (dOp2 gtB (dCall [false, false, false] sp_asked_in (dCons (dVar 0) (dCons (dVar 1) (dCons (dTup (dCons (dVar 2) (dCons (dVar 3) (dNil)))) (dNil))))) (dOpN max2B (dCons (dC (.int 0)) (dCons (dOp2 subB (dVar 3) (dVar 2)) (dNil)))))) (dRet (dTup (dCons (dVar 2) (dCons (dVar 3) (dNil))))) (dNext)
abbrev b2_asks_too_much : DTS := dFor (diSeq (dSortedSet (dVar 1))) (gdName 3) (b1_asks_too_much)
def t_asks_too_much : DTS := dSeq (dFor (diSeq (dSortedSet (dLc (dcSeq (dVar 0)) (gdName 4) (dYes) (e1_asks_too_much) [4]))) (gdName 2) (b2_asks_too_much)) (dRet (dC .none))
abbrev e1_kept : DTE := dOp2 ixB (dVar 4) (dC (.int 1))
abbrev e2_kept : DTE := dOp2 leB (dVar 5) (dVar 6)
abbrev r3_kept : DTS := dSeq (dIf (dTruth (dOpN allB (dCons (dLc (dcZip2 (dCons (dVar 3) (dCons (dVar 1) (dNil)))) (gdTup 2 (gdCons (gdName 5) (gdCons (gdName 6) (gdNil)))) (dYes) (e2_kept) [5, 6]) (dNil)))) (dRet (dTup (dCons (dC (.str "kept")) (dCons (dOpN tupleB (dCons (dVar 2) (dNil))) (dNil))))) (dNext)) (dRet (dTup (dCons (dC (.str "span")) (dStar (dCall [false, false] sp_asks_too_much (dCons (dVar 0) (dCons (dVar 1) (dNil)))) (dNil)))))
abbrev r2_kept : DTS := dSeq (dUnp (gdTup 2 (gdCons (gdName 2) (gdCons (gdName 3) (gdNil)))) (dCall [false, false] sp_worked (dCons (dVar 0) (dCons (dVar 1) (dNil))))) (r3_kept)
abbrev r1_kept : DTS := dSeq (dSet 1 (dLc (dcSeq (dVar 0)) (gdName 4) (dYes) (e1_kept) [4])) (r2_kept)
def t_kept : DTS := dSeq (dDrop (dCall [false] sp_check_orders (dCons (dVar 0) (dNil)))) (r1_kept)
abbrev e1_least_late : DTE := dOp2 ixB (dVar 6) (dC (.int 1))
abbrev e2_least_late : DTE := dOp2 subB (dVar 7) (dVar 8)
abbrev e3_least_late : DTE := dOp2 subB (dOp2 addB (dVar 8) (dVar 4)) (dC (.int 1))
abbrev r4_least_late : DTS := dSeq (dSet 5 (dCall [false, false] sp_asks_too_much (dCons (dVar 0) (dCons (dLc (dcSeq (dVar 1)) (gdName 8) (dYes) (e3_least_late) [8]) (dNil))))) (dRet (dTup (dCons (dVar 4) (dCons (dOpN tupleB (dCons (dVar 2) (dNil))) (dCons (dVar 5) (dNil))))))
abbrev r3_least_late : DTS := dSeq (dSet 4 (dOpN max1B (dCons (dLc (dcZip2 (dCons (dVar 3) (dCons (dVar 1) (dNil)))) (gdTup 2 (gdCons (gdName 7) (gdCons (gdName 8) (gdNil)))) (dYes) (e2_least_late) [7, 8]) (dNil)))) (r4_least_late)
abbrev r2_least_late : DTS := dSeq (dUnp (gdTup 2 (gdCons (gdName 2) (gdCons (gdName 3) (gdNil)))) (dCall [false, false] sp_worked (dCons (dVar 0) (dCons (dVar 1) (dNil))))) (r3_least_late)
abbrev r1_least_late : DTS := dSeq (dSet 1 (dLc (dcSeq (dVar 0)) (gdName 6) (dYes) (e1_least_late) [6])) (r2_least_late)
def t_least_late : DTS := dSeq (dDrop (dCall [false] sp_check_orders (dCons (dVar 0) (dNil)))) (r1_least_late)
abbrev e1__law_is_late_right : DTE := dOpN intB (dCons (dVar 6) (dNil))
abbrev r8__law_is_late_right : DTS := dSeq (dIf (dTest (dOp2 gtB (dOpN lenB (dCons (dVar 1) (dNil))) (dC (.int 1)))) (dSeq (dSet 7 (dOp2 addB (dSl slB (dVar 1) (dPartN) (dPart (dVar 6))) (dSl slB (dVar 1) (dPart (dOp2 addB (dVar 6) (dC (.int 1)))) (dPartN)))) (dSeq (dSet 8 (dCall [false] sp__law_most_in_time (dCons (dVar 7) (dNil)))) (dIf (dOr (dNot (dTest (dChain leB leB (dOp2 subB (dVar 2) (dC (.int 1))) (dVar 8) (dVar 2)))) (dTest (dOp2 neB (dOpN lenB (dCons (dOp2 ixB (dCall [false] sp_fewest_late (dCons (dVar 7) (dNil))) (dC (.int 1))) (dNil))) (dVar 8)))) (dRet (dC (.bool false))) (dNext)))) (dNext)) (dRet (dC (.bool true)))
abbrev r7__law_is_late_right : DTS := dSeq (dSet 6 (dOpN intB (dCons (dCallIo 0 [false] sp__law_take (dCons (dVar 0) (dCons (dOpN lenB (dCons (dVar 1) (dNil))) (dNil)))) (dNil)))) (r8__law_is_late_right)
abbrev r6__law_is_late_right : DTS := dSeq (dIf (dOr (dTest (dOp2 neB (dOp2 eqB (dVar 2) (dOpN lenB (dCons (dVar 1) (dNil)))) (dOp2 eqB (dOp2 ixB (dCall [false] sp_kept (dCons (dVar 1) (dNil))) (dC (.int 0))) (dC (.str "kept"))))) (dTest (dOp2 neB (dOp2 eqB (dVar 2) (dOpN lenB (dCons (dVar 1) (dNil)))) (dOp2 leB (dOp2 ixB (dCall [false] sp_least_late (dCons (dVar 1) (dNil))) (dC (.int 0))) (dC (.int 0)))))) (dRet (dC (.bool false))) (dNext)) (r7__law_is_late_right)
abbrev r5__law_is_late_right : DTS := dSeq (dIf (dOr (dTest (dOp2 neB (dOpN reprB (dCons (dVar 5) (dNil))) (dOpN reprB (dCons (dCall [false, false] sp__law_in_time (dCons (dVar 1) (dCons (dVar 4) (dNil)))) (dNil))))) (dTest (dOp2 gtB (dOpN lenB (dCons (dVar 5) (dNil))) (dVar 2)))) (dRet (dC (.bool false))) (dNext)) (r6__law_is_late_right)
abbrev r4__law_is_late_right : DTS := dSeq (dSet 5 (dCall [false, false] sp_in_time (dCons (dVar 1) (dCons (dVar 4) (dNil))))) (r5__law_is_late_right)
abbrev r3__law_is_late_right : DTS := dSeq (dSet 4 (dOpN tupleB (dCons (dLc (dcSeq (dCallIo 0 [false, false] sp__law_some (dCons (dVar 0) (dCons (dLstRg (rg1 (dOpN lenB (dCons (dVar 1) (dNil))))) (dCons (dOpN intB (dCons (dCallIo 0 [false] sp__law_take (dCons (dVar 0) (dCons (dOp2 addB (dOpN lenB (dCons (dVar 1) (dNil))) (dC (.int 1))) (dNil)))) (dNil))) (dNil)))))) (gdName 6) (dYes) (e1__law_is_late_right) [6]) (dNil)))) (r4__law_is_late_right)
abbrev r2__law_is_late_right : DTS := dSeq (dIf (dTest (dOp2 neB (dCall [false, false] sp_in_time (dCons (dVar 1) (dCons (dOp2 ixB (dVar 3) (dC (.int 1))) (dNil)))) (dOpN tupleB (dCons (dOpN sortedSB (dCons (dOp2 ixB (dVar 3) (dC (.int 1))) (dNil))) (dNil))))) (dRet (dC (.bool false))) (dNext)) (r3__law_is_late_right)
abbrev r1__law_is_late_right : DTS := dSeq (dIf (dOr (dTest (dOp2 neB (dOpN reprB (dCons (dVar 3) (dNil))) (dOpN reprB (dCons (dCall [false] sp__law_told_way (dCons (dVar 1) (dNil))) (dNil))))) (dOr (dTest (dOp2 neB (dOpN lenB (dCons (dOp2 ixB (dVar 3) (dC (.int 1))) (dNil))) (dVar 2))) (dTest (dOp2 neB (dOp2 addB (dOpN lenB (dCons (dOp2 ixB (dVar 3) (dC (.int 0))) (dNil))) (dVar 2)) (dOpN lenB (dCons (dVar 1) (dNil))))))) (dRet (dC (.bool false))) (dNext)) (r2__law_is_late_right)
def t__law_is_late_right : DTS := dSeq (dPar [2, 3] (dCons (dCall [false] sp__law_most_in_time (dCons (dVar 1) (dNil))) (dCons (dCall [false] sp_fewest_late (dCons (dVar 1) (dNil))) (dNil)))) (r1__law_is_late_right)
abbrev e1_is_weights : DTE := dCall [false, false, false] sp_is_integer (dCons (dVar 3) (dCons (dC (.int 0)) (dCons (dC (.int 1000)) (dNil))))
def t_is_weights : DTS := dSeq (dSet 2 (dOpN lenB (dCons (dVar 0) (dNil)))) (dRet (dAndV (dCall [false, false, false] sp_is_tuple (dCons (dVar 1) (dCons (dVar 2) (dCons (dVar 2) (dNil))))) (dOpN allB (dCons (dLc (dcSeq (dVar 1)) (gdName 3) (dYes) (e1_is_weights) [3]) (dNil)))))
def t_is_ahead : DTS := dRet (dOp2 gtB (dOp2 mulB (dOp2 ixB (dVar 1) (dVar 2)) (dOp2 ixB (dOp2 ixB (dVar 0) (dVar 3)) (dC (.int 2)))) (dOp2 mulB (dOp2 ixB (dVar 1) (dVar 3)) (dOp2 ixB (dOp2 ixB (dVar 0) (dVar 2)) (dC (.int 2)))))
abbrev b1_wait_of : DTS := dSeq (dSet 3 (dOp2 addB (dVar 3) (dOp2 ixB (dOp2 ixB (dVar 0) (dVar 5)) (dC (.int 2))))) (dSet 4 (dOp2 addB (dVar 4) (dOp2 mulB (dOp2 ixB (dVar 1) (dVar 5)) (dVar 3))))
abbrev r1_wait_of : DTS := dSeq (dFor (diSeq (dVar 2)) (gdName 5) (b1_wait_of)) (dRet (dVar 4))
def t_wait_of : DTS := dSeq (dPar [3, 4] (dCons (dC (.int 0)) (dCons (dC (.int 0)) (dNil)))) (r1_wait_of)
abbrev b1_least_wait : DTS := dSet 5 (dOp2 addB (dVar 5) (dC (.int 1)))
abbrev c1_least_wait : DTT := dAnd (dTest (dOp2 ltB (dVar 5) (dOpN lenB (dCons (dVar 2) (dNil))))) (dNot (dTruth (dCall [false, false, false, false] sp_is_ahead (dCons (dVar 0) (dCons (dVar 1) (dCons (dVar 3) (dCons (dOp2 ixB (dVar 2) (dVar 5)) (dNil))))))))
abbrev p1_least_wait : DTS := dSeq (dWhile (c1_least_wait) (b1_least_wait)) (dDrop (dIns 2 (dVar 5) (dVar 3)))
abbrev b2_least_wait : DTS := dSeq (dSet 5 (dC (.int 0))) (p1_least_wait)
abbrev r3_least_wait : DTS := dSeq (dFor (diEnum (dCons (dVar 0) (dNil))) (gdTup 2 (gdCons (gdName 3) (gdCons (gdName 4) (gdNil)))) (b2_least_wait)) (dRet (dTup (dCons (dCall [false, false, false] sp_wait_of (dCons (dVar 0) (dCons (dVar 1) (dCons (dVar 2) (dNil))))) (dCons (dOpN tupleB (dCons (dVar 2) (dNil))) (dNil)))))
abbrev r2_least_wait : DTS := dSeq (dSet 2 (dLst (dNil))) (r3_least_wait)
abbrev r1_least_wait : DTS := dSeq (dIf (dNot (dTruth (dCall [false, false] sp_is_weights (dCons (dVar 0) (dCons (dVar 1) (dNil)))))) (dNever) (dNext)) (r2_least_wait)
def t_least_wait : DTS := dSeq (dIf (dNot (dTruth (dCall [false] sp_is_ready (dCons (dVar 0) (dNil))))) (dNever) (dNext)) (r1_least_wait)
abbrev b1__law_wait : DTS := dSeq (dSet 4 (dOp2 addB (dVar 4) (dOp2 ixB (dOp2 ixB (dVar 0) (dVar 5)) (dC (.int 2))))) (dSet 3 (dOp2 addB (dVar 3) (dOp2 mulB (dOp2 ixB (dVar 1) (dVar 5)) (dVar 4))))
abbrev r1__law_wait : DTS := dSeq (dFor (diSeq (dVar 2)) (gdName 5) (b1__law_wait)) (dRet (dVar 3))
def t__law_wait : DTS := dSeq (dPar [3, 4] (dCons (dC (.int 0)) (dCons (dC (.int 0)) (dNil)))) (r1__law_wait)
abbrev e1__law_is_wait_right : DTE := dOpN intB (dCons (dCallIo 0 [false] sp__law_of (dCons (dVar 0) (dCons (dLst (dCons (dC (.int 0)) (dCons (dC (.int 1)) (dCons (dC (.int 1000)) (dCons (dOpN intB (dCons (dCallIo 0 [false] sp__law_take (dCons (dVar 0) (dCons (dC (.int 1001)) (dNil)))) (dNil))) (dNil)))))) (dNil)))) (dNil))
abbrev e2__law_is_wait_right : DTE := dVar 12
abbrev i1__law_is_wait_right : DTT := dTest (dOp2 geB (dOp2 mulB (dOp2 ixB (dVar 2) (dVar 12)) (dOp2 ixB (dOp2 ixB (dVar 1) (dVar 5)) (dC (.int 2)))) (dOp2 mulB (dOp2 ixB (dVar 2) (dVar 5)) (dOp2 ixB (dOp2 ixB (dVar 1) (dVar 12)) (dC (.int 2)))))
abbrev b1__law_is_wait_right : DTS := dSeq (dSet 6 (dOpN lenB (dCons (dLc (dcSeq (dVar 4)) (gdName 12) (i1__law_is_wait_right) (e2__law_is_wait_right) [12]) (dNil)))) (dDrop (dIns 4 (dVar 6) (dVar 5)))
abbrev e3__law_is_wait_right : DTE := dOpN intB (dCons (dVar 5) (dNil))
abbrev b2__law_is_wait_right : DTS := dSeq (dSet 8 (dLc (dcSeq (dCallIo 0 [false, false] sp__law_some (dCons (dVar 0) (dCons (dVar 4) (dCons (dOpN lenB (dCons (dVar 4) (dNil))) (dNil)))))) (gdName 5) (dYes) (e3__law_is_wait_right) [5])) (dIf (dTest (dOp2 ltB (dCall [false, false, false] sp__law_wait (dCons (dVar 1) (dCons (dVar 2) (dCons (dVar 8) (dNil))))) (dOp2 ixB (dVar 3) (dC (.int 0))))) (dRet (dC (.bool false))) (dNext))
abbrev b3__law_is_wait_right : DTS := dSeq (dSet 9 (dOp2 addB (dOp2 addB (dSl slB (dOp2 ixB (dVar 3) (dC (.int 1))) (dPartN) (dPart (dVar 5))) (dTup (dCons (dOp2 ixB (dOp2 ixB (dVar 3) (dC (.int 1))) (dOp2 addB (dVar 5) (dC (.int 1)))) (dCons (dOp2 ixB (dOp2 ixB (dVar 3) (dC (.int 1))) (dVar 5)) (dNil))))) (dSl slB (dOp2 ixB (dVar 3) (dC (.int 1))) (dPart (dOp2 addB (dVar 5) (dC (.int 2)))) (dPartN)))) (dIf (dTest (dOp2 ltB (dCall [false, false, false] sp__law_wait (dCons (dVar 1) (dCons (dVar 2) (dCons (dVar 9) (dNil))))) (dOp2 ixB (dVar 3) (dC (.int 0))))) (dRet (dC (.bool false))) (dNext))
abbrev e4__law_is_wait_right : DTE := dOp2 mulB (dC (.int 2)) (dVar 12)
abbrev e5__law_is_wait_right : DTE := dTup (dCons (dC (.int 0)) (dCons (dOpN min2B (dCons (dOp2 powB (dC (.int 10)) (dC (.int 6))) (dCons (dOp2 mulB (dC (.int 3)) (dVar 14)) (dNil)))) (dCons (dOp2 mulB (dC (.int 3)) (dVar 15)) (dNil))))
abbrev r10__law_is_wait_right : DTS := dSeq (dSet 10 (dOpN tupleB (dCons (dLc (dcSeq (dVar 1)) (gdTup 3 (gdCons (gdName 13) (gdCons (gdName 14) (gdCons (gdName 15) (gdNil))))) (dYes) (e5__law_is_wait_right) [13, 14, 15]) (dNil)))) (dRet (dOp2 eqB (dOp2 ixB (dCall [false, false] sp_least_wait (dCons (dVar 10) (dCons (dOpN tupleB (dCons (dVar 2) (dNil))) (dNil)))) (dC (.int 0))) (dOp2 mulB (dC (.int 3)) (dOp2 ixB (dVar 3) (dC (.int 0))))))
abbrev r9__law_is_wait_right : DTS := dSeq (dIf (dAnd (dTest (dOp2 leB (dOpN max1B (dCons (dVar 2) (dNil))) (dC (.int 500)))) (dTest (dOp2 neB (dOp2 ixB (dCall [false, false] sp_least_wait (dCons (dVar 1) (dCons (dOpN tupleB (dCons (dLc (dcSeq (dVar 2)) (gdName 12) (dYes) (e4__law_is_wait_right) [12]) (dNil))) (dNil)))) (dC (.int 0))) (dOp2 mulB (dC (.int 2)) (dOp2 ixB (dVar 3) (dC (.int 0))))))) (dRet (dC (.bool false))) (dNext)) (r10__law_is_wait_right)
abbrev r8__law_is_wait_right : DTS := dSeq (dFor (diRng1 (dCons (dOp2 subB (dOpN lenB (dCons (dVar 4) (dNil))) (dC (.int 1))) (dNil))) (gdName 5) (b3__law_is_wait_right)) (r9__law_is_wait_right)
abbrev r7__law_is_wait_right : DTS := dSeq (dFor (diRng1 (dCons (dC (.int 3)) (dNil))) (gdName 7) (b2__law_is_wait_right)) (r8__law_is_wait_right)
abbrev r6__law_is_wait_right : DTS := dSeq (dIf (dTest (dOp2 neB (dCall [false, false, false] sp__law_wait (dCons (dVar 1) (dCons (dVar 2) (dCons (dVar 4) (dNil))))) (dOp2 ixB (dVar 3) (dC (.int 0))))) (dRet (dC (.bool false))) (dNext)) (r7__law_is_wait_right)
abbrev r5__law_is_wait_right : DTS := dSeq (dFor (diRng1 (dCons (dOpN lenB (dCons (dVar 1) (dNil))) (dNil))) (gdName 5) (b1__law_is_wait_right)) (r6__law_is_wait_right)
abbrev r4__law_is_wait_right : DTS := dSeq (dSet 4 (dLst (dNil))) (r5__law_is_wait_right)
abbrev r3__law_is_wait_right : DTS := dSeq (dIf (dOr (dTest (dOp2 neB (dOpN sortedSB (dCons (dOp2 ixB (dVar 3) (dC (.int 1))) (dNil))) (dLstRg (rg1 (dOpN lenB (dCons (dVar 1) (dNil))))))) (dTest (dOp2 neB (dCall [false, false, false] sp__law_wait (dCons (dVar 1) (dCons (dVar 2) (dCons (dOp2 ixB (dVar 3) (dC (.int 1))) (dNil))))) (dOp2 ixB (dVar 3) (dC (.int 0)))))) (dRet (dC (.bool false))) (dNext)) (r4__law_is_wait_right)
abbrev r2__law_is_wait_right : DTS := dSeq (dSet 3 (dCall [false, false] sp_least_wait (dCons (dVar 1) (dCons (dOpN tupleB (dCons (dVar 2) (dNil))) (dNil))))) (r3__law_is_wait_right)
abbrev r1__law_is_wait_right : DTS := dSeq (dIf (dTest (dOp2 eqB (dCallIo 0 [false] sp__law_take (dCons (dVar 0) (dCons (dC (.int 3)) (dNil)))) (dC (.int 0)))) (dSet 2 (dRepL (dCons (dOp2 ixB (dVar 2) (dC (.int 0))) (dNil)) (dOpN lenB (dCons (dVar 1) (dNil))))) (dNext)) (r2__law_is_wait_right)
def t__law_is_wait_right : DTS := dSeq (dSet 2 (dLc (dcSeq (dVar 1)) (gdName 11) (dYes) (e1__law_is_wait_right) [11])) (r1__law_is_wait_right)
def t__law_right : DTS := dSeq (dSet 1 (dCallIo 0 [] sp__law_orders (dCons (dVar 0) (dNil)))) (dRet (dAndV (dCallIo 0 [false] sp__law_is_late_right (dCons (dVar 0) (dCons (dVar 1) (dNil)))) (dCallIo 0 [false] sp__law_is_wait_right (dCons (dVar 0) (dCons (dVar 1) (dNil))))))
abbrev e1_law : DTE := dCallIo 2 [] sp__law_right (dCons (dVar 2) (dNil))
abbrev b1_law : DTS := dSeq (dSet 2 (dCall [false, false] sp__law_pot (dCons (dVar 0) (dCons (dVar 1) (dNil))))) (dIf (dNot (dTruth (dOpN allB (dCons (dLc (dcOf (diRng1 (dCons (dC (.int 2)) (dNil)))) (gdName 3) (dYes) (e1_law) [3]) (dNil))))) (dRet (dC (.bool false))) (dNext))
def t_law : DTS := dSeq (dFor (diSeq (dCall [false, false] sp__law_places (dCons (dVar 0) (dCons (dC (.int 3)) (dNil))))) (gdName 1) (b1_law)) (dRet (dC (.bool true)))
end K23
set_option Elab.async false
set_option linter.all false
set_option maxRecDepth 100000
set_option maxHeartbeats 400000
namespace K23
open PySem L2 DL
open PyProof.Rows (boot_repr boot_sum boot_all boot_any boot_max boot_min boot_abs boot_int boot_list boot_tuple boot_sorted)
theorem len_is_tuple : ∀ as q, sp_is_tuple as q → as.length = 3 := fun _ _ ⟨_, _, _, h, _⟩ => by rw [h]; rfl
theorem ok_is_tuple : ∀ as q, sp_is_tuple as q → t_is_tuple (endsD as q) (startD N_is_tuple.length as) := by
  rintro _ q ⟨xs, lo, hi, rfl, ⟨h1, h2⟩, hq⟩
  conv => whnf
  refine br_dt h1 ?_
  conv => whnf
  rw [decide_eq_true h2]
  exact hq
theorem len_is_whole : ∀ as q, sp_is_whole as q → as.length = 1 := fun _ _ ⟨_, h, _⟩ => by rw [h]; rfl
theorem ok_is_whole : ∀ as q, sp_is_whole as q → t_is_whole (endsD as q) (startD N_is_whole.length as) := by
  rintro _ q ⟨i, rfl, hq⟩
  exact hq
theorem len_is_integer : ∀ as q, sp_is_integer as q → as.length = 3 := fun _ _ ⟨_, _, _, h, _⟩ => by rw [h]; rfl
theorem ok_is_integer : ∀ as q, sp_is_integer as q → t_is_integer (endsD as q) (startD N_is_integer.length as) := by
  rintro _ q ⟨i, lo, hi, rfl, ⟨h1, h2⟩, hq⟩
  conv => whnf
  refine ⟨i, rfl, ?_⟩
  conv => whnf
  refine br_dt h1 ?_
  conv => whnf
  rw [decide_eq_true h2]
  exact hq
theorem len__law_places : ∀ as q, sp__law_places as q → as.length = 2 := fun _ _ ⟨_, h, _⟩ => by rw [h]; rfl
theorem ok__law_places : ∀ as q, sp__law_places as q → t__law_places (endsD as q) (startD N__law_places.length as) := by
  rintro _ q ⟨ns, rfl, hl, hq⟩
  conv => whnf
  refine ⟨?_, ?_⟩
  · unfold rgOk
    have h1 : (0 : Int) ≤ max 1 (min 3 (((ns.map PyData.int).length : Nat) : Int)) := by omega
    have h2 : max 1 (min 3 (((ns.map PyData.int).length : Nat) : Int)) ≤ 3 := by omega
    refine ⟨by omega, by omega, by omega, by omega, by omega⟩
  · exact hq _ (by omega)
theorem len__law_pot : ∀ as q, sp__law_pot as q → as.length = 2 := fun _ _ ⟨_, _, h, _⟩ => by rw [h]; rfl
theorem mulOkL {i j : Int} (h : -(2 ^ 64) < i) (h2 : i < 2 ^ 64) : mulOk i j := .inl (.inl ⟨h, h2⟩)
theorem mulOkR {i j : Int} (h : -(2 ^ 64) < j) (h2 : j < 2 ^ 64) : mulOk i j := .inl (.inr ⟨h, h2⟩)
theorem atI_ints {ns : List Int} {i : Nat} (h : i < ns.length) : atI (ns.map PyData.int) ((i : Nat) : Int) = some (.int ns[i]) := by
  exact atI_nat (by simp [h])
theorem cut_ints {ns : List Int} {l u : Option Int} : ∃ ms : List Int, cutD (ns.map PyData.int) l u = ms.map PyData.int := by
  unfold cutD
  rw [← List.map_drop, ← List.map_take]
  exact ⟨_, rfl⟩
abbrev potRest : DTS := (dSeq (dSet 3 (dOp2 mulB (dOp2 modB (dOpN intB (dCons (dOpN absB (dCons (dVar 2) (dNil))) (dNil))) (dOp2 powB (dOp2 powB (dC (.int 10)) (dC (.int 60))) (dC (.int 5)))) (dOpN intB (dCons (dOp2 geB (dOpN absB (dCons (dVar 2) (dNil))) (dOp2 powB (dC (.int 10)) (dC (.int 18)))) (dNil))))) (dSeq (dSet 4 (dOp2 modB (dOpN intB (dCons (dVar 2) (dNil))) (dC (.int 2305843009213693951)))) (dRet (dLst (dCons (dVar 3) (dCons (dOp2 modB (dOpN intB (dCons (dOp2 addB (dOp2 addB (dOp2 mulB (dVar 4) (dC (.int 140347))) (dOp2 mulB (dOp2 mulB (dC (.int 33921)) (dVar 1)) (dVar 1))) (dC (.int 933))) (dNil))) (dC (.int 2305843009213693921))) (dCons (dC (.int 0)) (dNil))))))))
theorem pot_rest (q : EV → List D → Prop) (as : List DL.Arg) (ns : D) (i : Nat) (c : Int) (x y : DV) (hi : i < 3) (ha : as = [.dat ns, .dat (nI i)]) (hq : ∀ ys, Pot 0 ys → q (.tmp ys) []) : potRest (endsD as q) [.dat ns, .dat (nI i), .dat (.int c), x, y] := by
  subst ha
  conv => whnf
  refine ⟨by unfold powOk; decide +kernel, ?_⟩
  conv => whnf
  refine ⟨by unfold powOk; decide +kernel, ?_⟩
  conv => whnf
  refine ⟨by decide +kernel, ?_⟩
  conv => whnf
  refine ⟨by unfold powOk; decide +kernel, ?_⟩
  conv => whnf
  refine ⟨mulOkR (by split <;> decide) (by split <;> decide), ?_⟩
  conv => whnf
  refine ⟨by decide, ?_⟩
  conv => whnf
  refine ⟨mulOkR (by decide) (by decide), ?_⟩
  conv => whnf
  refine ⟨mulOkL (by decide) (by decide), ?_⟩
  conv => whnf
  refine ⟨mulOkR (by omega) (by omega), ?_⟩
  conv => whnf
  refine ⟨by decide, ?_⟩
  conv => whnf
  refine ⟨sz3, ?_⟩
  refine hq _ ⟨_, _, _, rfl, ?_, ⟨?_, ?_⟩, Int.le_refl 0, Int.le_refl 0⟩
  · refine Int.mul_nonneg (Int.emod_nonneg _ (by decide +kernel)) (by split <;> decide)
  · exact Int.emod_nonneg _ (by decide)
  · exact Int.lt_trans (Int.emod_lt_of_pos _ (by decide)) (by decide)
theorem ok__law_pot : ∀ as q, sp__law_pot as q → t__law_pot (endsD as q) (startD N__law_pot.length as) := by
  rintro _ q ⟨ns, i, rfl, hl, hi, hq⟩
  conv => whnf
  refine br_d (fun h => ?_) (fun h => ?_)
  · conv => whnf
    have hlt : i < ns.length := by
      rw [List.length_map] at h
      omega
    refine optW_mk (atI_ints hlt) ?_
    exact pot_rest q _ (.list (ns.map PyData.int)) i ns[i] .emp .emp hi rfl hq
  · conv => whnf
    obtain ⟨ms, e⟩ := cut_ints (ns := ns) (l := none) (u := some 1)
    refine optW_mk (by rw [e]; exact intsOf_map ms) ?_
    conv => whnf
    refine ⟨by decide, ?_⟩
    conv => whnf
    refine ⟨mulOkL (by decide) (by decide), ?_⟩
    exact pot_rest q _ (.list (ns.map PyData.int)) i _ .emp .emp hi rfl hq
theorem len__law_take : ∀ as q, sp__law_take as q → as.length = 2 := fun _ _ ⟨_, _, _, h, _⟩ => by rw [h]; rfl
theorem toN {i : Int} (h : 0 ≤ i) : i = ((i.toNat : Nat) : Int) := (Int.toNat_of_nonneg h).symm
theorem Bd.int {n : Nat} {x : Int} (h0 : 0 ≤ x) (h : x < 2 ^ n) : Bd n x := by
  obtain ⟨m, rfl⟩ := Int.eq_ofNat_of_zero_le h0
  exact Bd.nat (by exact_mod_cast h)
theorem primes (k : Int) (h0 : 0 ≤ k) (h : k < 5) : ∃ p : Int, atI [PyData.int 2147483647, .int 2147483629, .int 2147483587, .int 2147483579, .int 2147483563] k = some (.int p) ∧ 0 < p ∧ p < 2 ^ 31 := by
  have : k = 0 ∨ k = 1 ∨ k = 2 ∨ k = 3 ∨ k = 4 := by omega
  rcases this with rfl | rfl | rfl | rfl | rfl
  · exact ⟨_, rfl, by decide, by decide⟩
  · exact ⟨_, rfl, by decide, by decide⟩
  · exact ⟨_, rfl, by decide, by decide⟩
  · exact ⟨_, rfl, by decide, by decide⟩
  · exact ⟨_, rfl, by decide, by decide⟩
theorem ok__law_take : ∀ as q, sp__law_take as q → t__law_take (endsD as q) (startD N__law_take.length as) := by
  rintro _ q ⟨n, _, m, rfl, ⟨o, s, c, rfl, ho, ⟨hs0, hs1⟩, hc0, hc1⟩, hn, ⟨hm0, hm1⟩, hq⟩
  conv => whnf
  refine br_d (fun h => ?_) (fun h => ?_)
  · conv => whnf
    refine ⟨by omega, ?_⟩
    conv => whnf
    refine ⟨divOk_of (n := 40) (by omega) (Bd.nat hm1), ?_⟩
    show q (.dat (.int (o % (m : Int)))) [.int (o / (m : Int)), .int s, .int c]
    have h1 := Int.emod_nonneg o (b := (m : Int)) (by omega)
    have h2 := Int.emod_lt_of_pos o (b := (m : Int)) (by omega)
    rw [toN h1]
    exact hq _ _ (by omega) ⟨_, _, _, rfl, Int.ediv_nonneg ho (by omega), ⟨hs0, hs1⟩, hc0, by omega⟩
  · conv => whnf
    refine ⟨by decide, ?_⟩
    conv => whnf
    refine ⟨by decide, ?_⟩
    conv => whnf
    have k0 := Int.emod_nonneg (c + 1) (b := 5) (by decide)
    have k1 := Int.emod_lt_of_pos (c + 1) (b := 5) (by decide)
    obtain ⟨p, hp, p0, p1⟩ := primes _ k0 k1
    refine optW_mk hp ?_
    conv => whnf
    refine ⟨mulOkL (by decide) (by decide), ?_⟩
    conv => whnf
    have e1 : 111859 * (c + 1) ≤ 111859 * 200000 := by omega
    have e2 : 0 ≤ 111859 * (c + 1) := by omega
    refine ⟨mulOkL (by omega) (by omega), ?_⟩
    conv => whnf
    have e3 : 111859 * (c + 1) * (c + 1) ≤ 111859 * 200000 * 200000 := Int.mul_le_mul e1 (by omega) (by omega) (by decide)
    have e4 : 0 ≤ 111859 * (c + 1) * (c + 1) := Int.mul_nonneg e2 (by omega)
    have hB : Bd 62 (s + 111859 * (c + 1) * (c + 1) + 779) := Bd.int (by omega) (by omega)
    refine ⟨⟨by decide, ?_⟩, ?_⟩
    · have := hB.log (by decide)
      omega
    conv => whnf
    refine ⟨p0, ?_⟩
    conv => whnf
    refine ⟨by decide, ?_⟩
    conv => whnf
    refine ⟨mulOkL (by decide) (by decide), ?_⟩
    conv => whnf
    have b0 := Int.emod_nonneg ((s + 111859 * (c + 1) * (c + 1) + 779) ^ Int.toNat 3) (b := p) (by omega)
    have b1 := Int.emod_lt_of_pos ((s + 111859 * (c + 1) * (c + 1) + 779) ^ Int.toNat 3) (b := p) p0
    refine ⟨mulOkL (by omega) (by omega), ?_⟩
    conv => whnf
    refine ⟨by decide, ?_⟩
    conv => whnf
    refine ⟨.inl ⟨by decide, by decide⟩, ?_⟩
    conv => whnf
    refine ⟨by omega, ?_⟩
    generalize (((s + 111859 * (c + 1) * (c + 1) + 779) ^ Int.toNat 3 % p * ((s + 111859 * (c + 1) * (c + 1) + 779) ^ Int.toNat 3 % p % 10451 + 122 * (c + 1))) % 2305843009213693907 / 152) = v
    show q (.dat (.int (v % (m : Int)))) [.int o, .int s, .int (c + 1)]
    have h1 := Int.emod_nonneg v (b := (m : Int)) (by omega)
    have h2 := Int.emod_lt_of_pos v (b := (m : Int)) (by omega)
    rw [toN h1]
    exact hq _ _ (by omega) ⟨_, _, _, rfl, ho, ⟨hs0, hs1⟩, by omega, by omega⟩
theorem len__law_of : ∀ as q, sp__law_of as q → as.length = 2 := fun _ _ ⟨_, _, _, h, _⟩ => by rw [h]; rfl
theorem ok__law_of : ∀ as q, sp__law_of as q → t__law_of (endsD as q) (startD N__law_of.length as) := by
  rintro _ q ⟨n, xs, ds, rfl, hP, hn, ⟨h0, h1⟩, hq⟩
  conv => whnf
  refine ⟨rfl, rfl, ?_⟩
  conv => whnf
  refine ⟨n, xs, ds.length, rfl, hP, hn, ⟨h0, by omega⟩, fun r ys hr hP' => ?_⟩
  conv => whnf
  refine optW_mk (atI_nat (List.getElem?_eq_getElem hr)) ?_
  exact hq _ _ (List.getElem_mem hr) hP'
theorem erase_perm {α : Type} : ∀ (xs : List α) (r : Nat) (h : r < xs.length), ([xs[r]] ++ xs.eraseIdx r).Perm xs
  | x :: xs, 0, h => List.Perm.refl _
  | x :: xs, r + 1, h => by
    have hr : r < xs.length := by simpa using h
    have ih := erase_perm xs r hr
    show (xs[r] :: x :: xs.eraseIdx r).Perm (x :: xs)
    exact (List.Perm.swap _ _ _).trans (ih.cons x)
end K23
set_option Elab.async false
set_option linter.all false
set_option maxRecDepth 100000
set_option maxHeartbeats 400000
namespace K23
open PySem L2 DL
open PyProof.Rows (boot_repr boot_sum boot_all boot_any boot_max boot_min boot_abs boot_int boot_list boot_tuple boot_sorted)
theorem len__law_some : ∀ as q, sp__law_some as q → as.length = 3 := fun _ _ ⟨_, _, _, _, h, _⟩ => by rw [h]; rfl
theorem some_laps (E : DEnds) (a b : DV) : ∀ (m : Nat) (rests found xs : List D) (n : Nat) (i : Int) (w : DV), m ≤ rests.length → Pot n xs → n + m < 100000 → found.length + rests.length < 1000 →
    (∀ es rest ys w, (es ++ rest).Perm (found ++ rests) → es.length = found.length + m → Pot (n + m) ys → E.nx [.io ys, a, b, .own rest, .own es, w]) → forW (gdName 5) b1__law_some E (rangeD i m) [.io xs, a, b, .own rests, .own found, w] := by
  intro m
  induction m with
  | zero =>
    intro rests found xs n i w _ hP _ _ hq
    rw [rangeD_zero]
    exact hq found rests xs w (List.Perm.refl _) rfl hP
  | succ k ih =>
    intro rests found xs n i w hm hP hn hl hq
    rw [rangeD_succ]
    conv => whnf
    refine ⟨rfl, rfl, ?_⟩
    conv => whnf
    refine ⟨n, xs, rests.length, rfl, hP, by omega, ⟨by omega, by omega⟩, fun r ys hr hP' => ?_⟩
    conv => whnf
    refine ⟨by omega, ?_⟩
    conv => whnf
    refine ⟨by omega, ?_⟩
    have hix : seqIndex? ((r : Nat) : Int) rests.length = some r := by
      rw [seqIndex_of (by omega) (by omega)]
      simp
    refine optW_mk hix ?_
    refine optW_mk (List.getElem?_eq_getElem hr) ?_
    conv => whnf
    refine ⟨by show found.length < sizeLine; rw [sizeLine_eq]; omega, ?_⟩
    have hl2 : (rests.eraseIdx r).length + 1 = rests.length := by rw [List.length_eraseIdx, if_pos hr]; omega
    refine ih (rests.eraseIdx r) (found ++ [rests[r]]) ys (n + 1) (i + 1) _ (by omega) hP' (by omega) (by simp; omega) (fun es rest zs w' hp hle hz => ?_)
    refine hq es rest zs w' (hp.trans ?_) (by rw [hle]; simp; omega) (by have e : n + (k + 1) = n + 1 + k := by omega
                                                                         rw [e]; exact hz)
    rw [List.append_assoc]
    exact List.Perm.append_left _ (erase_perm _ _ hr)
theorem ok__law_some : ∀ as q, sp__law_some as q → t__law_some (endsD as q) (startD N__law_some.length as) := by
  rintro _ q ⟨n, xs, ds, m, rfl, hP, hn, ⟨hm, hl⟩, hq⟩
  conv => whnf
  refine ⟨Nat.zero_le _, ?_⟩
  conv => whnf
  refine ⟨rfl, ?_⟩
  conv => whnf
  refine ⟨sz2, ?_⟩
  conv => whnf
  refine ⟨by omega, ?_⟩
  conv => whnf
  refine ⟨by omega, ?_⟩
  refine some_laps _ _ _ m ds [] xs n 0 _ hm hP (by omega) (by simpa using hl) fun es rest ys w hp hle hz => ?_
  exact hq es rest ys (by simpa using hp) (by simpa using hle) hz
theorem Ords.szl {os : List Job} (h : Ords os) : (os.map Job.d).length ≤ sizeLine := by rw [List.length_map, sizeLine_eq]; have := h.len; omega
theorem len_is_orders : ∀ as q, sp_is_orders as q → as.length = 1 := fun _ _ ⟨_, h, _⟩ => by rw [h]; rfl
theorem bools_all {β : Type} (l : List β) : boolsOf ([] ++ l.map fun _ => (.bool true : D)) = some (l.map fun _ => true) := by
  have := boolsOf_map (l.map fun _ => true)
  rw [List.map_map] at this
  exact this
theorem all_tt {β : Type} (l : List β) : (l.map fun _ => true).all id = true := by simp
theorem orders_for (E : DEnds) (v e : DV) : ∀ (os : List Job) (w1 w2 w3 : DV), (∀ j ∈ os, j.1 ≤ 1000000 ∧ 0 < j.2 ∧ j.2 ≤ 1000000) → (∀ w1 w2 w3, E.nx [v, w1, w2, w3, e]) → forW (gdTup 3 (gdCons (gdName 1) (gdCons (gdName 2) (gdCons (gdName 3) (gdNil))))) b1_is_orders E (os.map Job.d) [v, w1, w2, w3, e]
  | [], _, _, _, _, h => h _ _ _
  | j :: os, w1, w2, w3, hj, h => by
    rw [List.map_cons]
    have ih := fun w1 w2 w3 => orders_for E v e os w1 w2 w3 (fun x hx => hj x (List.mem_cons_of_mem _ hx)) h
    obtain ⟨h1, h2, h3⟩ := hj j List.mem_cons_self
    conv => whnf
    refine ⟨rfl, ?_⟩
    conv => whnf
    refine ⟨rfl, ?_⟩
    conv => whnf
    refine ⟨_, _, _, rfl, ⟨by omega, by omega⟩, ?_⟩
    conv => whnf
    refine ⟨_, _, _, rfl, ⟨by omega, by omega⟩, ?_⟩
    conv => whnf
    refine ⟨_, _, _, rfl, ⟨by omega, by omega⟩, ?_⟩
    exact ih _ _ _
theorem ok_is_orders : ∀ as q, sp_is_orders as q → t_is_orders (endsD as q) (startD N_is_orders.length as) := by
  rintro _ q ⟨os, rfl, ho, hq⟩
  have h1 := ho.pos
  have h2 := ho.len
  conv => whnf
  refine ⟨_, _, _, rfl, ⟨by rw [List.length_map]; omega, by rw [List.length_map]; omega⟩, ?_⟩
  conv => whnf
  refine ⟨ho.szl, ?_⟩
  refine comp_map Job.d (fun _ => .bool true) trivial os [] (fun j hj acc ds h => ?_) ?_
  · conv => whnf
    refine ⟨trivial, ?_⟩
    conv => whnf
    refine ⟨_, _, _, rfl, ⟨show (3 : Int) ≤ 3 by decide, show (3 : Int) ≤ 3 by decide⟩, ?_⟩
    exact h
  · conv => whnf
    refine optW_mk (bools_all os) ?_
    conv => whnf
    refine br_f (by rw [all_tt]; rfl) ?_
    conv => whnf
    exact orders_for _ _ _ os _ _ _ ho.job fun _ _ _ => hq
theorem len_is_ready : ∀ as q, sp_is_ready as q → as.length = 1 := fun _ _ ⟨_, h, _⟩ => by rw [h]; rfl
theorem ok_is_ready : ∀ as q, sp_is_ready as q → t_is_ready (endsD as q) (startD N_is_ready.length as) := by
  rintro _ q ⟨os, rfl, ho, hq⟩
  conv => whnf
  refine ⟨os, rfl, ho, ?_⟩
  conv => whnf
  refine ⟨ho.szl, ?_⟩
  refine comp_map Job.d (fun _ => .bool true) trivial os [] (fun j hj acc ds h => ?_) ?_
  · conv => whnf
    refine ⟨trivial, ?_⟩
    exact h
  · conv => whnf
    refine optW_mk (bools_all os) ?_
    rw [all_tt]
    exact hq
theorem len_check_orders : ∀ as q, sp_check_orders as q → as.length = 1 := fun _ _ ⟨_, h, _⟩ => by rw [h]; rfl
theorem ok_check_orders : ∀ as q, sp_check_orders as q → t_check_orders (endsD as q) (startD N_check_orders.length as) := by
  rintro _ q ⟨os, rfl, ho, hq⟩
  conv => whnf
  refine ⟨os, rfl, ho, ?_⟩
  exact hq
theorem len_is_weights : ∀ as q, sp_is_weights as q → as.length = 2 := fun _ _ ⟨_, _, h, _⟩ => by rw [h]; rfl
theorem ok_is_weights : ∀ as q, sp_is_weights as q → t_is_weights (endsD as q) (startD N_is_weights.length as) := by
  rintro _ q ⟨os, ws, rfl, ho, ⟨hw1, hw2⟩, hq⟩
  conv => whnf
  refine ⟨_, _, _, rfl, ⟨by rw [List.length_map, List.length_map]; omega, by rw [List.length_map, List.length_map]; omega⟩, ?_⟩
  conv => whnf
  refine ⟨by rw [List.length_map, sizeLine_eq]; have := ho.len; omega, ?_⟩
  refine comp_map nI (fun _ => .bool true) trivial ws [] (fun x hx acc ds h => ?_) ?_
  · have := hw2 x hx
    conv => whnf
    refine ⟨trivial, ?_⟩
    conv => whnf
    refine ⟨_, _, _, rfl, ⟨by omega, by omega⟩, ?_⟩
    exact h
  · conv => whnf
    refine optW_mk (bools_all ws) ?_
    rw [all_tt]
    exact hq

end K23
set_option Elab.async false
set_option linter.all false
set_option maxRecDepth 100000
set_option maxHeartbeats 400000
namespace K23
open PySem L2 DL
open PyProof.Rows (boot_repr boot_sum boot_all boot_any boot_max boot_min boot_abs boot_int boot_list boot_tuple boot_sorted)
theorem gj_get {os : List Job} {k : Nat} (h : k < os.length) : os[k]? = some (gj os k) := by
  rw [List.getElem?_eq_getElem h]
  rw [gj_at (List.getElem?_eq_getElem h)]
theorem at_os {os : List Job} {k : Nat} (h : k < os.length) : atI (os.map Job.d) ((k : Nat) : Int) = some (Job.d (gj os k)) := atI_map (gj_get h)
theorem at_nats {l : List Nat} {k : Nat} (h : k < l.length) : atI (l.map nI) ((k : Nat) : Int) = some (nI (l.getD k 0)) := atI_map (by
  rw [List.getElem?_eq_getElem h, List.getD_eq_getElem?_getD, List.getElem?_eq_getElem h]
  rfl)
theorem gj_mem {os : List Job} {k : Nat} (h : k < os.length) : gj os k ∈ os := List.mem_of_getElem? (gj_get h)
theorem len_in_time : ∀ as q, sp_in_time as q → as.length = 2 := fun _ _ ⟨_, _, h, _⟩ => by rw [h]; rfl
theorem len__law_in_time : ∀ as q, sp__law_in_time as q → as.length = 2 := fun _ _ ⟨_, _, h, _⟩ => by rw [h]; rfl
theorem nodup_le {n : Nat} {l : List Nat} (h : l.Nodup ∧ ∀ k ∈ l, k < n) : l.length ≤ n := by
  have := (lot_of (os := List.replicate n (0, 0)) h.1 fun k hk => by rw [List.length_replicate]; exact h.2 k hk)
  have := lot_len this
  rw [List.length_map, List.length_replicate] at this
  exact this
theorem in_for (E : DEnds) (os : List Job) (s e : DV) : ∀ (l fnd : List Nat) (now : Nat) (w : DV), (∀ k ∈ l, k < os.length) → fnd.length + l.length ≤ 1000 → (∀ now' w, E.nx [.dat (osD os), s, .own (natsD (fnd ++ inI os now l)), .dat (nI now'), w, e]) →
    forW (gdName 4) b1_in_time E (natsD l) [.dat (osD os), s, .own (natsD fnd), .dat (nI now), w, e]
  | [], fnd, now, w, _, _, h => by
    have := h now w
    rw [inI, List.append_nil] at this
    exact this
  | k :: l, fnd, now, w, hk, hl, h => by
    have h0 := hk k List.mem_cons_self
    rw [List.length_cons] at hl
    unfold inI at h
    show forW (gdName 4) b1_in_time E (nI k :: natsD l) _
    conv => whnf
    refine optW_mk (at_os h0) ?_
    conv => whnf
    refine optW_mk (at_os h0) ?_
    conv => whnf
    refine br_d (fun hc => ?_) (fun hc => ?_)
    · have hc : now + (gj os k).2 ≤ (gj os k).1 := Int.ofNat_le.mp hc
      conv => whnf
      refine ⟨by show (natsD fnd).length < sizeLine; rw [List.length_map, sizeLine_eq]; omega, ?_⟩
      rw [if_pos hc] at h
      have ih := in_for E os s e l (fnd ++ [k]) (now + (gj os k).2) (.dat (nI k)) (fun x hx => hk x (List.mem_cons_of_mem _ hx)) (by simp; omega) (by simpa using h)
      rw [show natsD (fnd ++ [k]) = natsD fnd ++ [nI k] by simp] at ih
      exact ih
    · have hc : ¬ now + (gj os k).2 ≤ (gj os k).1 := fun z => hc (Int.ofNat_le.mpr z)
      rw [if_neg hc] at h
      exact in_for E os s e l fnd (now + (gj os k).2) (.dat (nI k)) (fun x hx => hk x (List.mem_cons_of_mem _ hx)) (by omega) h
theorem ok_in_time : ∀ as q, sp_in_time as q → t_in_time (endsD as q) (startD N_in_time.length as) := by
  rintro _ q ⟨os, l, rfl, ho, hl, hq⟩
  have hlen := nodup_le hl
  have h20 := ho.len
  have hn : (natsD l).length = l.length := List.length_map _
  conv => whnf
  refine ⟨os, rfl, ho, ?_⟩
  conv => whnf
  refine ⟨by rw [hn, sizeLine_eq]; omega, ?_⟩
  refine comp_map nI (fun _ => .bool true) trivial l [] (fun k hk acc ds h => ?_) ?_
  · have := hl.2 k hk
    conv => whnf
    refine ⟨trivial, ?_⟩
    conv => whnf
    refine ⟨_, _, _, rfl, ⟨by omega, by rw [List.length_map]; omega⟩, ?_⟩
    exact h
  conv => whnf
  refine optW_mk (bools_all l) ?_
  conv => whnf
  refine br_f (by rw [all_tt]; rfl) ?_
  have ei : intsOf (natsD l) = some (l.map fun n => ((n : Nat) : Int)) := by
    rw [← intsOf_map, List.map_map]
    rfl
  conv => whnf
  refine optW_mk ei ?_
  conv => whnf
  refine ⟨by rw [List.length_map]; omega, ?_⟩
  have er : (riseD (l.map fun n => ((n : Nat) : Int))).length = l.length := by
    rw [← nodup_len (ms := l.map fun n => ((n : Nat) : Int)) (ns := l.map fun n => ((n : Nat) : Int)) ?_ fun _ => Iff.rfl, List.length_map]
    refine List.pairwise_map.mpr (hl.1.imp fun h e => h (Int.ofNat.inj e))
  conv => whnf
  refine br_df (by rw [er, hn]; omega) ?_
  conv => whnf
  refine ⟨Nat.zero_le _, ?_⟩
  conv => whnf
  refine ⟨rfl, ?_⟩
  conv => whnf
  refine ⟨sz2, ?_⟩
  refine in_for _ os _ _ l [] 0 _ hl.2 (by simp; omega) fun now' w => ?_
  rw [List.nil_append]
  have hs := (inI_sub os l 0).length_le
  conv => whnf
  refine ⟨⟨by rw [List.length_map]; omega, (Ints.nats _).sort⟩, ?_⟩
  exact hq
theorem law_in_for (E : DEnds) (os : List Job) (s : DV) : ∀ (l fnd : List Nat) (now : Nat) (w : DV), (∀ k ∈ l, k < os.length) → fnd.length + l.length ≤ 1000 → (∀ now' w, E.nx [.dat (osD os), s, .own (natsD (fnd ++ inI os now l)), .dat (nI now'), w]) →
    forW (gdName 4) b1__law_in_time E (natsD l) [.dat (osD os), s, .own (natsD fnd), .dat (nI now), w]
  | [], fnd, now, w, _, _, h => by
    have := h now w
    rw [inI, List.append_nil] at this
    exact this
  | k :: l, fnd, now, w, hk, hl, h => by
    have h0 := hk k List.mem_cons_self
    rw [List.length_cons] at hl
    unfold inI at h
    show forW (gdName 4) b1__law_in_time E (nI k :: natsD l) _
    conv => whnf
    refine optW_mk (at_os h0) ?_
    conv => whnf
    refine optW_mk (at_os h0) ?_
    conv => whnf
    refine br_d (fun hc => ?_) (fun hc => ?_)
    · have hc : now + (gj os k).2 ≤ (gj os k).1 := Int.ofNat_le.mp hc
      conv => whnf
      refine ⟨sz 1 (by decide), ?_⟩
      conv => whnf
      refine ⟨by show (natsD fnd).length + 1 ≤ sizeLine; rw [List.length_map, sizeLine_eq]; omega, ?_⟩
      rw [if_pos hc] at h
      have ih := law_in_for E os s l (fnd ++ [k]) (now + (gj os k).2) (.dat (nI k)) (fun x hx => hk x (List.mem_cons_of_mem _ hx)) (by simp; omega) (by simpa using h)
      rw [show natsD (fnd ++ [k]) = natsD fnd ++ [nI k] by simp] at ih
      exact ih
    · have hc : ¬ now + (gj os k).2 ≤ (gj os k).1 := fun z => hc (Int.ofNat_le.mpr z)
      conv => whnf
      refine ⟨Nat.zero_le _, ?_⟩
      conv => whnf
      refine ⟨by show (natsD fnd).length + 0 ≤ sizeLine; rw [List.length_map, sizeLine_eq]; omega, ?_⟩
      rw [if_neg hc] at h
      have ih := law_in_for E os s l fnd (now + (gj os k).2) (.dat (nI k)) (fun x hx => hk x (List.mem_cons_of_mem _ hx)) (by omega) h
      show forW _ _ _ _ [_, _, .own (natsD fnd ++ []), _, _]
      rw [List.append_nil]
      exact ih
theorem ok__law_in_time : ∀ as q, sp__law_in_time as q → t__law_in_time (endsD as q) (startD N__law_in_time.length as) := by
  rintro _ q ⟨os, l, rfl, ho, hl, hq⟩
  have hlen := nodup_le hl
  have h20 := ho.len
  conv => whnf
  refine ⟨Nat.zero_le _, ?_⟩
  conv => whnf
  refine ⟨rfl, ?_⟩
  conv => whnf
  refine ⟨sz2, ?_⟩
  refine law_in_for _ os _ l [] 0 _ hl.2 (by simp; omega) fun now' w => ?_
  rw [List.nil_append]
  have hs := (inI_sub os l 0).length_le
  conv => whnf
  refine ⟨⟨by rw [List.length_map]; omega, (Ints.nats _).sort⟩, ?_⟩
  exact hq
theorem len_is_ahead : ∀ as q, sp_is_ahead as q → as.length = 4 := fun _ _ ⟨_, _, _, _, h, _⟩ => by rw [h]; rfl
theorem Wts.le {os : List Job} {ws : List Nat} (h : Wts os ws) {k : Nat} (hk : k < os.length) : k < ws.length ∧ ws.getD k 0 ≤ 1000 := by
  have h0 : k < ws.length := by rw [h.1]; exact hk
  refine ⟨h0, h.2 _ ?_⟩
  rw [List.getD_eq_getElem?_getD, List.getElem?_eq_getElem h0]
  exact List.getElem_mem h0
theorem ok_is_ahead : ∀ as q, sp_is_ahead as q → t_is_ahead (endsD as q) (startD N_is_ahead.length as) := by
  rintro _ q ⟨os, ws, a, b, rfl, ho, hw, ⟨ha, hb⟩, hq⟩
  obtain ⟨wa, wa2⟩ := hw.le ha
  obtain ⟨wb, wb2⟩ := hw.le hb
  conv => whnf
  refine optW_mk (at_nats wa) ?_
  conv => whnf
  refine optW_mk (at_os hb) ?_
  conv => whnf
  refine ⟨mulOkL (by omega) (by omega), ?_⟩
  conv => whnf
  refine optW_mk (at_nats wb) ?_
  conv => whnf
  refine optW_mk (at_os ha) ?_
  conv => whnf
  refine ⟨mulOkL (by omega) (by omega), ?_⟩
  conv => whnf
  have e : decide (((ws.getD b 0 : Nat) : Int) * (((gj os a).2 : Nat) : Int) < ((ws.getD a 0 : Nat) : Int) * (((gj os b).2 : Nat) : Int)) = decide (wt ws b * mi os a < wt ws a * mi os b) := by
    rw [← Int.natCast_mul, ← Int.natCast_mul]
    congr 1
    exact propext Int.ofNat_lt
  have e2 := hq
  rw [← e] at e2
  exact e2
theorem len_wait_of : ∀ as q, sp_wait_of as q → as.length = 3 := fun _ _ ⟨_, _, _, h, _⟩ => by rw [h]; rfl
theorem len__law_wait : ∀ as q, sp__law_wait as q → as.length = 3 := fun _ _ ⟨_, _, _, _, h, _⟩ => by rw [h]; rfl
theorem wait_for (E : DEnds) (os : List Job) (ws : List Nat) (hw : Wts os ws) (s : DV) : ∀ (l : List Nat) (now tot : Nat) (w : DV), (∀ k ∈ l, k < os.length) → (∀ now' w, E.nx [.dat (osD os), .dat (.tuple (natsD ws)), s, .dat (nI now'), .dat (nI (tot + cost (wt ws) (mi os) now l)), w]) →
    forW (gdName 5) b1_wait_of E (natsD l) [.dat (osD os), .dat (.tuple (natsD ws)), s, .dat (nI now), .dat (nI tot), w]
  | [], now, tot, w, _, h => h now w
  | k :: l, now, tot, w, hk, h => by
    have h0 := hk k List.mem_cons_self
    obtain ⟨w1, w2⟩ := hw.le h0
    rw [cost, ← Nat.add_assoc] at h
    have ih := wait_for E os ws hw s l (now + mi os k) (tot + wt ws k * (now + mi os k)) (.dat (nI k)) (fun x hx => hk x (List.mem_cons_of_mem _ hx)) h
    show forW (gdName 5) b1_wait_of E (nI k :: natsD l) _
    conv => whnf
    refine optW_mk (at_os h0) ?_
    conv => whnf
    refine optW_mk (at_nats w1) ?_
    conv => whnf
    refine ⟨mulOkL (by omega) (by omega), ?_⟩
    exact ih
theorem ok_wait_of : ∀ as q, sp_wait_of as q → t_wait_of (endsD as q) (startD N_wait_of.length as) := by
  rintro _ q ⟨os, ws, l, rfl, ho, hw, hl, hq⟩
  conv => whnf
  refine ⟨rfl, ?_⟩
  conv => whnf
  refine ⟨sz2, ?_⟩
  refine wait_for _ os ws hw _ l 0 0 _ hl fun now' w => ?_
  rw [Nat.zero_add]
  exact hq
theorem law_wait_for (E : DEnds) (os : List Job) (ws : List Nat) (hw : Wts os ws) (s : DV) : ∀ (l : List Nat) (now tot : Nat) (w : DV), (∀ k ∈ l, k < os.length) → (∀ now' w, E.nx [.dat (osD os), .dat (.list (natsD ws)), s, .dat (nI (tot + cost (wt ws) (mi os) now l)), .dat (nI now'), w]) →
    forW (gdName 5) b1__law_wait E (natsD l) [.dat (osD os), .dat (.list (natsD ws)), s, .dat (nI tot), .dat (nI now), w]
  | [], now, tot, w, _, h => h now w
  | k :: l, now, tot, w, hk, h => by
    have h0 := hk k List.mem_cons_self
    obtain ⟨w1, w2⟩ := hw.le h0
    rw [cost, ← Nat.add_assoc] at h
    have ih := law_wait_for E os ws hw s l (now + mi os k) (tot + wt ws k * (now + mi os k)) (.dat (nI k)) (fun x hx => hk x (List.mem_cons_of_mem _ hx)) h
    show forW (gdName 5) b1__law_wait E (nI k :: natsD l) _
    conv => whnf
    refine optW_mk (at_os h0) ?_
    conv => whnf
    refine optW_mk (at_nats w1) ?_
    conv => whnf
    refine ⟨mulOkL (by omega) (by omega), ?_⟩
    exact ih
theorem ok__law_wait : ∀ as q, sp__law_wait as q → t__law_wait (endsD as q) (startD N__law_wait.length as) := by
  rintro _ q ⟨os, ws, d, l, rfl, ho, hw, hd, hl, hq⟩
  rcases hd with rfl | rfl
  · conv => whnf
    refine ⟨rfl, ?_⟩
    conv => whnf
    refine ⟨sz2, ?_⟩
    refine law_wait_for _ os ws hw _ l 0 0 _ hl fun now' w => ?_
    rw [Nat.zero_add]
    exact hq
  · conv => whnf
    refine ⟨rfl, ?_⟩
    conv => whnf
    refine ⟨sz2, ?_⟩
    refine law_wait_for _ os ws hw _ l 0 0 _ hl fun now' w => ?_
    rw [Nat.zero_add]
    exact hq

end K23
set_option Elab.async false
set_option linter.all false
set_option maxRecDepth 100000
set_option maxHeartbeats 400000
namespace K23
open PySem L2 DL
open PyProof.Rows (boot_repr boot_sum boot_all boot_any boot_max boot_min boot_abs boot_int boot_list boot_tuple boot_sorted)
theorem ixN_nat {n k : Nat} (h : k < n) : ixN n ((k : Nat) : Int) = some k := by
  unfold ixN
  rw [if_pos (by omega), if_pos (by omega)]
  rfl
theorem sortKey_os (os : List Job) : sortKeyD 1 (os.map Job.d) = (ss os).map Job.d := by
  unfold sortKeyD ss
  refine (List.map_mergeSort fun a _ b _ => ?_).symm
  show dueLe a b = !PySem.W.dataLt (.int ((b.1 : Nat) : Int)) (.int ((a.1 : Nat) : Int))
  rw [PySem.W.dataLt_int, PySem.W.not_lt_int]
  unfold dueLe
  congr 1
  exact propext Int.ofNat_le.symm
theorem key_os (os : List Job) (h : os.length ≤ 20) : keyOk 1 (os.map Job.d) := ⟨by rw [List.length_map]; omega, fun d hd => by
  obtain ⟨j, _, rfl⟩ := List.mem_map.mp hd
  exact ⟨_, _, rfl, rfl⟩⟩
theorem most_in (E : DEnds) (o f0 v2 : DV) (due m : Nat) : ∀ (r A : List Nat) (a i : Nat) (w6 w7 : DV), A.length = i + 1 → A.length + r.length ≤ 1000 → (∀ w6 w7, E.nx [o, f0, v2, .dat (nI due), .dat (nI m), .own (natsD (A ++ go m due a r)), w6, w7]) →
    forW (gdTup 2 (gdCons (gdName 6) (gdCons (gdName 7) (gdNil)))) b1__law_most_in_time E (((a :: r).zipIdx i).map fun p => PyData.tuple [nI p.2, nI p.1]) [o, f0, v2, .dat (nI due), .dat (nI m), .own (natsD (A ++ r)), w6, w7]
  | [], A, a, i, w6, w7, hA, hl, h => by
    have el : (natsD (A ++ [])).length = i + 1 := by rw [List.length_map, List.append_nil, hA]
    unfold go at h
    conv => whnf
    refine ⟨rfl, ?_⟩
    conv => whnf
    refine ⟨rfl, ?_⟩
    conv => whnf
    refine br_d (fun hc => ?_) (fun hc => ?_)
    · have hc : a + m ≤ due := Int.ofNat_le.mp hc
      rw [if_pos hc] at h
      conv => whnf
      refine br_dt (by rw [el]; rfl) ?_
      conv => whnf
      refine ⟨by show (natsD (A ++ [])).length < sizeLine; rw [el, sizeLine_eq]; simp at hl; omega, ?_⟩
      have := h (.dat (nI i)) (.dat (nI a))
      rw [show natsD (A ++ [a + m]) = natsD (A ++ []) ++ [nI (a + m)] by simp] at this
      exact this
    · have hc : ¬ a + m ≤ due := fun z => hc (Int.ofNat_le.mpr z)
      rw [if_neg hc] at h
      exact h _ _
  | x :: r, A, a, i, w6, w7, hA, hl, h => by
    have el : (natsD (A ++ x :: r)).length = i + 1 + (r.length + 1) := by rw [List.length_map, List.length_append, hA]; rfl
    have hx : (A ++ x :: r)[i + 1]? = some x := by rw [← hA, List.getElem?_append_right (Nat.le_refl _), Nat.sub_self]; rfl
    have hix : ixN (natsD (A ++ x :: r)).length (((i + 1 : Nat) : Int)) = some (i + 1) := ixN_nat (by rw [el]; omega)
    have hat : atI (natsD (A ++ x :: r)) (((i + 1 : Nat) : Int)) = some (nI x) := atI_map hx
    rw [List.length_cons] at hl
    unfold go at h
    rw [List.zipIdx_cons, List.map_cons]
    conv => whnf
    refine ⟨rfl, ?_⟩
    conv => whnf
    refine ⟨rfl, ?_⟩
    conv => whnf
    refine br_d (fun hc => ?_) (fun hc => ?_)
    · have hc : a + m ≤ due := Int.ofNat_le.mp hc
      rw [if_pos hc] at h
      have ih := most_in E o f0 v2 due m r (A ++ [min x (a + m)]) x (i + 1) (.dat (nI i)) (.dat (nI a)) (by simp [hA]) (by simp; omega) (fun w6 w7 => by rw [List.append_assoc]; exact h w6 w7)
      conv => whnf
      refine br_df (by rw [el]; omega) ?_
      conv => whnf
      refine optW_mk hat ?_
      conv => whnf
      refine optW_mk hix ?_
      have es : (natsD (A ++ x :: r)).set (i + 1) (.int (min ((x : Nat) : Int) (((a : Nat) : Int) + ((m : Nat) : Int)))) = natsD (A ++ [min x (a + m)] ++ r) := by
        have e1 : (min ((x : Nat) : Int) (((a : Nat) : Int) + ((m : Nat) : Int))) = (((min x (a + m) : Nat)) : Int) := by omega
        rw [e1, ← List.map_set, ← hA, List.set_append_right _ _ (Nat.le_refl _), Nat.sub_self]
        simp
      rw [es]
      exact ih
    · have hc : ¬ a + m ≤ due := fun z => hc (Int.ofNat_le.mpr z)
      rw [if_neg hc] at h
      have ih := most_in E o f0 v2 due m r (A ++ [x]) x (i + 1) (.dat (nI i)) (.dat (nI a)) (by simp [hA]) (by simp; omega) (fun w6 w7 => by rw [List.append_assoc]; exact h w6 w7)
      rw [show A ++ x :: r = A ++ [x] ++ r by simp]
      exact ih
theorem go_len (m due : Nat) : ∀ (r : List Nat) (a : Nat), (go m due a r).length ≤ r.length + 1
  | [], a => by unfold go; split <;> simp
  | x :: r, a => by unfold go; simp only [List.length_cons]; have := go_len m due r x; omega
theorem most_out (E : DEnds) (o : DV) : ∀ (l : List Job) (f : List Nat) (F w2 w3 w4 w5 w6 w7 : DV), (F = .own (natsD (0 :: f)) ∨ F = .dat (.list (natsD (0 :: f)))) → f.length + l.length ≤ 500 →
    (∀ F w2 w3 w4 w5 w6 w7, (F = .own (natsD (l.foldl dpStep (0 :: f))) ∨ F = .dat (.list (natsD (l.foldl dpStep (0 :: f))))) → E.nx [o, F, w2, w3, w4, w5, w6, w7]) →
    forW (gdTup 3 (gdCons (gdName 2) (gdCons (gdName 3) (gdCons (gdName 4) (gdNil))))) b2__law_most_in_time E (l.map Job.d) [o, F, w2, w3, w4, w5, w6, w7]
  | [], f, F, w2, w3, w4, w5, w6, w7, hF, _, h => h F w2 w3 w4 w5 w6 w7 hF
  | j :: l, f, F, w2, w3, w4, w5, w6, w7, hF, hl, h => by
    rw [List.length_cons] at hl
    have hlen : (natsD (0 :: f)).length ≤ sizeLine := by rw [List.length_map, sizeLine_eq]; simp; omega
    have key : ∀ w6 w7, forW (gdTup 3 (gdCons (gdName 2) (gdCons (gdName 3) (gdCons (gdName 4) (gdNil))))) b2__law_most_in_time E (l.map Job.d) [o, .dat (.list (natsD (0 :: go j.2 j.1 0 f))), .dat (.int 0), .dat (nI j.1), .dat (nI j.2), .dat (.list (natsD (0 :: go j.2 j.1 0 f))), w6, w7] := fun w6 w7 =>
      most_out E o l (go j.2 j.1 0 f) _ _ _ _ _ _ _ (.inr rfl) (by have := go_len j.2 j.1 f 0; omega) h
    have e0 : enumD (natsD (0 :: f)) = ((0 :: f).zipIdx 0).map fun p => PyData.tuple [nI p.2, nI p.1] := enumD_map nI _
    have hin : ∀ w6 w7 : DV, ∀ L, L = natsD (0 :: f) → ∀ E' : DEnds, (∀ w6 w7, E'.nx [o, .dat (.list L), .dat (.int 0), .dat (nI j.1), .dat (nI j.2), .own (natsD (0 :: go j.2 j.1 0 f)), w6, w7]) →
        forW (gdTup 2 (gdCons (gdName 6) (gdCons (gdName 7) (gdNil)))) b1__law_most_in_time E' (enumD L) [o, .dat (.list L), .dat (.int 0), .dat (nI j.1), .dat (nI j.2), .own L, w6, w7] := fun w6 w7 L hL E' hE => by
      subst hL
      rw [e0]
      exact most_in _ o _ _ j.1 j.2 f [0] 0 0 w6 w7 rfl (by simp; omega) hE
    have hin2 := fun w6 w7 => hin w6 w7 _ rfl
    clear hin e0
    generalize natsD (0 :: f) = L at hF hlen hin2
    rcases hF with rfl | rfl
    · rw [List.map_cons]
      conv => whnf
      refine ⟨rfl, ?_⟩
      conv => whnf
      refine ⟨rfl, ?_⟩
      conv => whnf
      exact hin2 w6 w7 _ key
    · rw [List.map_cons]
      conv => whnf
      refine ⟨rfl, ?_⟩
      conv => whnf
      refine ⟨rfl, ?_⟩
      conv => whnf
      exact hin2 w6 w7 _ key
theorem len__law_most_in_time : ∀ as q, sp__law_most_in_time as q → as.length = 1 := fun _ _ ⟨_, h, _⟩ => by rw [h]; rfl
theorem ok__law_most_in_time : ∀ as q, sp__law_most_in_time as q → t__law_most_in_time (endsD as q) (startD N__law_most_in_time.length as) := by
  rintro _ q ⟨os, rfl, ho, hq⟩
  conv => whnf
  refine ⟨sz 1 (by decide), ?_⟩
  conv => whnf
  refine ⟨key_os os ho.len, ?_⟩
  show forW _ _ _ (sortKeyD 1 (os.map Job.d)) _
  rw [sortKey_os]
  have hl := ho.len
  refine most_out _ _ (ss os) [] _ _ _ _ _ _ _ (.inl rfl) (by rw [(ss_perm os).length_eq]; simp; omega) fun F w2 w3 w4 w5 w6 w7 hF => ?_
  have hlen : (natsD ((ss os).foldl dpStep [0])).length = opt os + 1 := by rw [List.length_map]; exact dp_len os
  have e : (((natsD ((ss os).foldl dpStep [0])).length : Nat) : Int) - 1 = ((opt os : Nat) : Int) := by rw [hlen]; omega
  rcases hF with rfl | rfl
  · conv => whnf
    have := hq
    rw [show nI (opt os) = .int ((((natsD ((ss os).foldl dpStep [0])).length : Nat) : Int) - 1) by rw [e]] at this
    exact this
  · conv => whnf
    have := hq
    rw [show nI (opt os) = .int ((((natsD ((ss os).foldl dpStep [0])).length : Nat) : Int) - 1) by rw [e]] at this
    exact this

end K23
set_option Elab.async false
set_option linter.all false
set_option maxRecDepth 100000
set_option maxHeartbeats 400000
namespace K23
open PySem L2 DL
open PyProof.Rows (boot_repr boot_sum boot_all boot_any boot_max boot_min boot_abs boot_int boot_list boot_tuple boot_sorted)
/-- a job by its due and its number -/
def keyD (p : JN) : D := .tuple [nI p.1.1, nI p.2]
theorem keyD_le (a b : JN) : PySem.W.dataLe false (fun d : D => d) (keyD a) (keyD b) = keyLe a b := by
  show (!PySem.W.dataLt (keyD b) (keyD a)) = _
  unfold keyD
  rw [PySem.W.dataLt_ii]
  unfold keyLe
  by_cases h : b.1.1 < a.1.1 ∨ (b.1.1 = a.1.1 ∧ b.2 < a.2)
  · rw [decide_eq_true (by omega), decide_eq_false (by omega)]
    rfl
  · rw [decide_eq_false (by omega), decide_eq_true (by omega)]
    rfl
theorem sort_os (os : List Job) : sortD (os.zipIdx.map keyD) = (zs os).map keyD := by
  rw [sortD_map keyD keyLe _ keyD_le]
  unfold zs
  rfl
theorem keyD_tups (l : List JN) : Tups 2 (l.map keyD) := fun d hd => by
  obtain ⟨p, _, rfl⟩ := List.mem_map.mp hd
  exact ⟨[((p.1.1 : Nat) : Int), ((p.2 : Nat) : Int)], rfl, rfl⟩
theorem enum_os (os : List Job) : enumD (os.map Job.d) = os.zipIdx.map fun p => PyData.tuple [nI p.2, Job.d p.1] := enumD_map Job.d os
theorem enum_len (os : List Job) : (enumD (os.map Job.d)).length = os.length := by rw [enumD_len, List.length_map]
/-- minutes, place turned about, number -/
def lonD (p : JN × Nat) : D := .tuple [nI p.1.1.2, .int (-((p.2 : Nat) : Int)), nI p.1.2]
def lonLt (p q : JN × Nat) : Bool := decide (p.1.1.2 < q.1.1.2 ∨ (p.1.1.2 = q.1.1.2 ∧ (q.2 < p.2 ∨ (q.2 = p.2 ∧ p.1.2 < q.1.2))))
theorem lonD_lt (p q : JN × Nat) : PySem.W.dataLt (lonD p) (lonD q) = lonLt p q := by
  have := dataLt_tupI [((p.1.1.2 : Nat) : Int), -((p.2 : Nat) : Int), ((p.1.2 : Nat) : Int)] [((q.1.1.2 : Nat) : Int), -((q.2 : Nat) : Int), ((q.1.2 : Nat) : Int)]
  unfold lonD lonLt
  refine Eq.trans this ?_
  congr 1
  apply propext
  simp only [List.cons_lt_cons_iff]
  have : ¬ ([] : List Int) < [] := List.lt_irrefl _
  constructor
  · rintro (h | ⟨h1, h | ⟨h2, h | ⟨h3, h⟩⟩⟩)
    · exact .inl (by omega)
    · exact .inr ⟨by omega, .inl (by omega)⟩
    · exact .inr ⟨by omega, .inr ⟨by omega, by omega⟩⟩
    · exact absurd h this
  · rintro (h | ⟨h1, h | ⟨h2, h⟩⟩)
    · exact .inl (by omega)
    · exact .inr ⟨by omega, .inl (by omega)⟩
    · exact .inr ⟨by omega, .inr ⟨by omega, .inl (by omega)⟩⟩
theorem lon_fold : ∀ (r : List JN) (z : JN) (i k : Nat), i < k → ((r.zipIdx k).foldl (fun a y => if lonLt a y = true then y else a) (z, i)).1 = longest z r
  | [], z, i, k, _ => rfl
  | y :: r, z, i, k, h => by
    rw [List.zipIdx_cons, List.foldl_cons]
    unfold longest
    by_cases hz : z.1.2 < y.1.2
    · rw [if_pos (show lonLt (z, i) (y, k) = true from decide_eq_true (.inl hz)), if_pos hz]
      exact lon_fold r y k (k + 1) (Nat.lt_succ_self k)
    · rw [if_neg (show ¬ lonLt (z, i) (y, k) = true from by
        unfold lonLt
        rw [decide_eq_true_eq]
        dsimp only
        omega), if_neg hz]
      exact lon_fold r z i (k + 1) (by omega)
theorem max_long (y : JN) (r : List JN) : ∃ c : Int, maxOf (lonD (y, 0)) ((r.zipIdx 1).map lonD) = .tuple [nI (long (y :: r)).1.2, .int c, nI (long (y :: r)).2] := by
  rw [maxOf_map lonD lonLt lonD_lt]
  have := lon_fold r y 0 1 (by decide)
  generalize (r.zipIdx 1).foldl (fun a y => if lonLt a y = true then y else a) (y, 0) = p at this
  refine ⟨-((p.2 : Nat) : Int), ?_⟩
  unfold lonD
  rw [this]
  rfl
theorem lon_tups (l : List (JN × Nat)) : Tups 3 (l.map lonD) := fun d hd => by
  obtain ⟨p, _, rfl⟩ := List.mem_map.mp hd
  exact ⟨[((p.1.1.2 : Nat) : Int), -((p.2 : Nat) : Int), ((p.1.2 : Nat) : Int)], rfl, rfl⟩
abbrev ats (l : List JN) : List D := l.map fun z => nI z.2
theorem ats_snoc (l : List JN) (z : JN) : ats (l ++ [z]) = ats l ++ [nI z.2] := by simp
theorem enum_ats (l : List JN) : enumD (ats l) = l.zipIdx.map fun p => PyData.tuple [nI p.2, nI p.1.2] := enumD_map _ l
/-- all of a line are orders -/
def Of (os : List Job) (l : List JN) : Prop := ∀ z ∈ l, z.2 < os.length ∧ gj os z.2 = z.1
theorem mhStep_of {os : List Job} {l : List JN} {z : JN} (h : Of os l) (hz : z.2 < os.length ∧ gj os z.2 = z.1) : Of os (mhStep l z) := fun y hy => by
  rcases mhStep_mem hy with q | q
  · exact h y q
  · rw [q]; exact hz
theorem mhStep_len (l : List JN) (z : JN) : (mhStep l z).length ≤ l.length + 1 := by
  unfold mhStep
  split
  · simp
  · exact Nat.le_trans (List.length_filter_le _ _) (by simp)
theorem fewest_for (E : DEnds) (os : List Job) (w6 w7 w8 : DV) : ∀ (r l : List JN) (D0 : Nat) (f : List Nat) (w3 w4 w5 : DV), MH l D0 f → (∀ z ∈ r, D0 ≤ z.1.1) → r.Pairwise (fun a b => keyLe a b = true) → (r.map (·.2)).Nodup → (∀ z ∈ r, z.2 ∉ l.map (·.2)) →
    Of os l → Of os r → l.length + r.length ≤ 100 → (∀ w3 w4 w5, E.nx [.dat (osD os), .own (ats (r.foldl mhStep l)), .dat (nI (mins (jobs (r.foldl mhStep l)))), w3, w4, w5, .emp, .emp, .emp]) →
    forW (gdTup 2 (gdCons (gdName 3) (gdCons (gdName 4) (gdNil)))) b1_fewest_late E (r.map keyD) [.dat (osD os), .own (ats l), .dat (nI (mins (jobs l))), w3, w4, w5, .emp, .emp, .emp]
  | [], l, D0, f, w3, w4, w5, hM, hD, hp, hn, hz, ol, or, hl, h => h w3 w4 w5
  | z :: r, l, D0, f, w3, w4, w5, hM, hD, hp, hn, hz, ol, or, hl, h => by
    have hp' := List.pairwise_cons.mp hp
    have hn' := List.nodup_cons.mp hn
    have z1 := hz z List.mem_cons_self
    obtain ⟨z2, z3⟩ := or z List.mem_cons_self
    have hM' := hM.step z (hD z List.mem_cons_self) z1
    rw [List.length_cons] at hl
    have hl' := mhStep_len l z
    have ih := fun w3 w4 w5 => fewest_for E os w6 w7 w8 r (mhStep l z) z.1.1 (dpStep f z.1) w3 w4 w5 hM' (fun y hy => by
        have := hp'.1 y hy
        unfold keyLe at this
        simp only [decide_eq_true_eq] at this
        omega) hp'.2 hn'.2 (fun y hy hm => by
        obtain ⟨w, hw, e⟩ := List.mem_map.mp hm
        rcases mhStep_mem hw with q | q
        · exact hz y (List.mem_cons_of_mem _ hy) (List.mem_map.mpr ⟨w, q, e⟩)
        · rw [q] at e
          exact hn'.1 (List.mem_map.mpr ⟨y, hy, e.symm⟩)) (mhStep_of ol ⟨z2, z3⟩) (fun y hy => or y (List.mem_cons_of_mem _ hy)) (by omega) h
    have em : mins (jobs (l ++ [z])) = mins (jobs l) + z.1.2 := by rw [jobs_app, mins_app]; simp [jobs]
    have hlen : (ats l).length < sizeLine := by rw [List.length_map, sizeLine_eq]; omega
    rw [List.map_cons]
    conv => whnf
    refine ⟨rfl, ?_⟩
    conv => whnf
    refine ⟨rfl, ?_⟩
    conv => whnf
    refine ⟨hlen, ?_⟩
    conv => whnf
    refine optW_mk (at_os z2) ?_
    rw [z3]
    rw [← ats_snoc]
    conv => whnf
    refine br_d (fun hc => ?_) (fun hc => ?_)
    · have hc : ¬ mins (jobs (l ++ [z])) ≤ z.1.1 := by
        have hc : ((z.1.1 : Nat) : Int) < ((mins (jobs l) : Nat) : Int) + ((z.1.2 : Nat) : Int) := hc
        omega
      have est : mhStep l z = (l ++ [z]).filter fun y => decide (y.2 ≠ (long (l ++ [z])).2) := by unfold mhStep; rw [if_neg hc]
      obtain ⟨a, b, e, _, _⟩ := long_is (l := l ++ [z]) (by simp)
      have ol' : Of os (l ++ [z]) := fun y hy => by
        rcases List.mem_append.mp hy with q | q
        · exact ol y q
        · rw [List.mem_singleton.mp q]; exact ⟨z2, z3⟩
      have hlong := ol' (long (l ++ [z])) (by
        have : long (l ++ [z]) ∈ a ++ long (l ++ [z]) :: b := by simp
        rw [← e] at this
        exact this)
      have nd' : ((l ++ [z]).map (·.2)).Nodup := by
        rw [List.map_append]
        refine List.nodup_append.mpr ⟨hM.nd, by simp, fun a ha b hb e => ?_⟩
        have hb : b = z.2 := by simpa using hb
        rw [e, hb] at ha
        exact z1 ha
      have emid : mins (jobs (l ++ [z])) = mins (jobs (mhStep l z)) + (long (l ++ [z])).1.2 := by
        rw [est]
        generalize long (l ++ [z]) = o at e
        rw [e] at nd' ⊢
        rw [del_nodup nd', jobs_app, jobs_app, mins_app, mins_app]
        show _ + mins (o.1 :: jobs b) = _
        rw [mins_cons]
        omega
      obtain ⟨y, ys, ey⟩ : ∃ y ys, l ++ [z] = y :: ys := by cases l with
        | nil => exact ⟨_, _, rfl⟩
        | cons y l => exact ⟨_, _, rfl⟩
      have hlen2 : (l ++ [z]).length ≤ 100 := by simp; omega
      have ee := enum_ats (l ++ [z])
      have hcl : (enumD (ats (l ++ [z]))).length ≤ sizeLine := by rw [enumD_len, List.length_map, sizeLine_eq]; omega
      have hcl2 : (ats (l ++ [z])).length ≤ sizeLine := by rw [List.length_map, sizeLine_eq]; omega
      have efil : (l ++ [z]).filter (fun y => decide (y.2 ≠ (long (l ++ [z])).2)) = mhStep l z := est.symm
      generalize hL : l ++ [z] = L at *
      generalize hA : ats L = A at *
      conv => whnf
      refine ⟨hcl, ?_⟩
      rw [ee]
      refine comp_map (fun p : JN × Nat => PyData.tuple [nI p.2, nI p.1.2]) lonD (by rfl) L.zipIdx [] (fun p hp acc ds h => ?_) ?_
      · have hp1 := ol' p.1 (by
          obtain ⟨p1, p2⟩ := p
          exact List.mem_of_getElem? (List.mem_zipIdx_iff_getElem?.mp hp))
        conv => whnf
        refine ⟨rfl, ?_⟩
        conv => whnf
        refine ⟨rfl, ?_⟩
        conv => whnf
        refine ⟨rfl, ?_⟩
        conv => whnf
        refine optW_mk (at_os hp1.1) ?_
        rw [hp1.2]
        conv => whnf
        refine ⟨sz 3 (by decide), ?_⟩
        exact h
      · obtain ⟨c, hc⟩ := max_long y ys
        have em2 : [] ++ L.zipIdx.map lonD = lonD (y, 0) :: (ys.zipIdx 1).map lonD := by rw [ey]; rfl
        rw [em2]
        conv => whnf
        refine ⟨by
          have := lon_tups L.zipIdx
          rw [ey] at this
          exact this.mm, ?_⟩
        rw [hc, ← ey]
        conv => whnf
        refine ⟨hcl2, ?_⟩
        rw [← hA]
        refine comp_filter (fun z : JN => nI z.2) (fun z => nI z.2) (fun y => decide (y.2 ≠ (long L).2)) (by rfl) L [] (fun p hp acc ds h1 h2 => ?_) ?_
        · conv => whnf
          refine ⟨rfl, ?_⟩
          conv => whnf
          refine br_n (fun hne => ?_) (fun heq => ?_)
          · conv => whnf
            exact h1 (decide_eq_true fun q => hne (by rw [q]))
          · conv => whnf
            exact h2 (by
              have : p.2 = (long L).2 := Int.ofNat.inj heq
              simp [this])
        · rw [efil]
          conv => whnf
          refine optW_mk (at_os hlong.1) ?_
          rw [hlong.2]
          have et : ((mins (jobs l) : Nat) : Int) + ((z.1.2 : Nat) : Int) - (((long L).1.2 : Nat) : Int) = ((mins (jobs (mhStep l z)) : Nat) : Int) := by omega
          show forW _ _ _ _ [_, _, .dat (.int (((mins (jobs l) : Nat) : Int) + ((z.1.2 : Nat) : Int) - (((long L).1.2 : Nat) : Int))), _, _, _, _, _, _]
          rw [et]
          exact ih _ _ _
    · have hc : mins (jobs (l ++ [z])) ≤ z.1.1 := by
        have hc : ¬ ((z.1.1 : Nat) : Int) < ((mins (jobs l) : Nat) : Int) + ((z.1.2 : Nat) : Int) := hc
        omega
      have est : mhStep l z = l ++ [z] := by unfold mhStep; rw [if_pos hc]
      rw [est] at ih
      rw [em] at ih
      exact ih _ _ _
theorem zs_of (os : List Job) : Of os (zs os) := fun z hz => by
  have := zs_at hz
  exact ⟨(List.getElem?_eq_some_iff.mp this).1, gj_at this⟩
theorem zs_len (os : List Job) : (zs os).length = os.length := by rw [(zs_perm os).length_eq, List.length_zipIdx]
theorem len_fewest_late : ∀ as q, sp_fewest_late as q → as.length = 1 := fun _ _ ⟨_, h, _⟩ => by rw [h]; rfl
theorem ok_fewest_late : ∀ as q, sp_fewest_late as q → t_fewest_late (endsD as q) (startD N_fewest_late.length as) := by
  rintro _ q ⟨os, rfl, ho, hq⟩
  have h20 := ho.len
  have ee := enum_os os
  have el := enum_len os
  conv => whnf
  refine ⟨os, rfl, ho, ?_⟩
  conv => whnf
  refine ⟨Nat.zero_le _, ?_⟩
  conv => whnf
  refine ⟨rfl, ?_⟩
  conv => whnf
  refine ⟨sz2, ?_⟩
  conv => whnf
  refine ⟨by show (enumD (os.map Job.d)).length ≤ sizeLine; rw [el, sizeLine_eq]; omega, ?_⟩
  show compW _ _ _ _ _ _ (enumD (os.map Job.d)) _ _
  rw [ee]
  refine comp_map (fun p : JN => PyData.tuple [nI p.2, Job.d p.1]) keyD trivial os.zipIdx [] (fun p hp acc ds h => ?_) ?_
  · conv => whnf
    refine ⟨trivial, ?_⟩
    conv => whnf
    refine ⟨rfl, ?_⟩
    conv => whnf
    refine ⟨rfl, ?_⟩
    conv => whnf
    refine ⟨sz2, ?_⟩
    exact h
  have hs : sortD ([] ++ os.zipIdx.map keyD) = (zs os).map keyD := sort_os os
  have hal : ([] ++ os.zipIdx.map keyD).length ≤ 1000000 ∧ alikeD ([] ++ os.zipIdx.map keyD) := ⟨by simp; omega, (keyD_tups os.zipIdx).sort⟩
  conv => whnf
  refine ⟨hal, ?_⟩
  rw [hs]
  refine fewest_for _ os .emp .emp .emp (zs os) [] 0 [0] _ _ _ MH.start (fun _ _ => Nat.zero_le _) (zs_sorted os) (zs_nodup os) (fun _ _ => by simp) (fun _ h => nomatch h) (zs_of os) (by rw [zs_len]; simp; omega) fun w3 w4 w5 => ?_
  have e1 : (zs os).foldl mhStep [] = mh os := by unfold mh; rfl
  rw [e1]
  have e2 : ats (mh os) = natsD (mhN os) := by unfold mhN; rw [natsD, List.map_map]; rfl
  rw [e2]
  have hol := opt_le os
  have hml := mhN_len os
  conv => whnf
  refine ⟨by rw [List.length_map]; omega, ?_⟩
  conv => whnf
  refine ⟨by rw [List.length_map]; omega, ?_⟩
  have er : rangeD 0 ((((os.map Job.d).length : Nat) : Int)).toNat = (List.range os.length).map nI := by
    rw [List.length_map]
    have : (((os.length : Nat) : Int)).toNat = os.length := by omega
    rw [this, range_nats]
  conv => whnf
  refine ⟨by rw [rangeD_len, List.length_map, sizeLine_eq]; omega, ?_⟩
  rw [er]
  refine comp_filter nI nI (fun k => decide (k ∉ mhN os)) trivial (List.range os.length) [] (fun k hk acc ds h1 h2 => ?_) ?_
  · conv => whnf
    refine ⟨trivial, ?_⟩
    conv => whnf
    refine ⟨⟨(Ints.nats _).plain, rfl, Nat.zero_le _⟩, ?_⟩
    conv => whnf
    refine br_of (fun hb => ?_) (fun hb => ?_)
    · have hb : (!anyEq (natsD (mhN os)) (nI k)) = true := hb
      rw [anyEq_nats] at hb
      conv => whnf
      exact h1 (by simpa using hb)
    · have hb : (!anyEq (natsD (mhN os)) (nI k)) = false := hb
      rw [anyEq_nats] at hb
      conv => whnf
      exact h2 (by simpa using hb)
  · conv => whnf
    refine ⟨sz2, ?_⟩
    exact hq
theorem max_mins {l : List JN} {y : JN} {r : List JN} (e : l = y :: r) : maxOf (nI y.1.2) (r.map fun z => nI z.1.2) = nI (long l).1.2 := by
  have e1 : (r.map fun z => nI z.1.2) = (r.map fun z => ((z.1.2 : Nat) : Int)).map PyData.int := by rw [List.map_map]; rfl
  rw [e1, maxOf_ints]
  obtain ⟨a, b, ea, h1, h2⟩ := long_is (l := l) (by rw [e]; simp)
  have hmax : ∀ w ∈ l, w.1.2 ≤ (long l).1.2 := fun w hw => by
    rw [ea] at hw
    rcases List.mem_append.mp hw with q | q
    · exact Nat.le_of_lt (h1 w q)
    · rcases List.mem_cons.mp q with q | q
      · rw [q]; exact Nat.le_refl _
      · exact h2 w q
  have hin : long l ∈ l := by
    have : long l ∈ a ++ long l :: b := by simp
    rw [← ea] at this
    exact this
  obtain ⟨g1, g2, g3⟩ := foldl_max (r.map fun z => ((z.1.2 : Nat) : Int)) ((y.1.2 : Nat) : Int)
  congr 1
  refine Int.le_antisymm ?_ ?_
  · rcases g1 with g | g
    · rw [g]; exact Int.ofNat_le.mpr (hmax y (by rw [e]; simp))
    · obtain ⟨w, hw, ew⟩ := List.mem_map.mp g
      rw [← ew]
      exact Int.ofNat_le.mpr (hmax w (by rw [e]; exact List.mem_cons_of_mem _ hw))
  · generalize hlo : long l = lo at *
    rw [e] at hin
    rcases List.mem_cons.mp hin with q | q
    · rw [q]; exact g2
    · exact g3 _ (List.mem_map.mpr ⟨_, q, rfl⟩)
set_option maxHeartbeats 4000000 in
theorem told_for (E : DEnds) (os : List Job) (w6 w7 : DV) : ∀ (r l : List JN) (lt : List Nat) (D0 : Nat) (f : List Nat) (w3 w4 w5 : DV), MH l D0 f → (∀ z ∈ r, D0 ≤ z.1.1) → r.Pairwise (fun a b => keyLe a b = true) → (r.map (·.2)).Nodup → (∀ z ∈ r, z.2 ∉ l.map (·.2)) →
    Of os l → Of os r → l.length + r.length ≤ 100 → lt.length + r.length ≤ 100 → (∀ w3 w4 w5, E.nx [.dat (osD os), .own (ats (r.foldl mhStepL (l, lt)).1), .own (natsD (r.foldl mhStepL (l, lt)).2), w3, w4, w5, .emp, .emp, .emp]) →
    forW (gdName 3) b1__law_told_way E (r.map fun z => nI z.2) [.dat (osD os), .own (ats l), .own (natsD lt), w3, w4, w5, .emp, .emp, .emp]
  | [], l, lt, D0, f, w3, w4, w5, hM, hD, hp, hn, hz, ol, or, hl, hlt, h => h w3 w4 w5
  | z :: r, l, lt, D0, f, w3, w4, w5, hM, hD, hp, hn, hz, ol, or, hl, hlt, h => by
    have hp' := List.pairwise_cons.mp hp
    have hn' := List.nodup_cons.mp hn
    have z1 := hz z List.mem_cons_self
    obtain ⟨z2, z3⟩ := or z List.mem_cons_self
    have hM' := hM.step z (hD z List.mem_cons_self) z1
    rw [List.length_cons] at hl hlt
    have hl' := mhStep_len l z
    have ih := fun (lt' : List Nat) (hlt' : lt'.length + r.length ≤ 100) h w3 w4 w5 => told_for E os w6 w7 r (mhStep l z) lt' z.1.1 (dpStep f z.1) w3 w4 w5 hM' (fun y hy => by
        have := hp'.1 y hy
        unfold keyLe at this
        simp only [decide_eq_true_eq] at this
        omega) hp'.2 hn'.2 (fun y hy hm => by
        obtain ⟨w, hw, e⟩ := List.mem_map.mp hm
        rcases mhStep_mem hw with q | q
        · exact hz y (List.mem_cons_of_mem _ hy) (List.mem_map.mpr ⟨w, q, e⟩)
        · rw [q] at e
          exact hn'.1 (List.mem_map.mpr ⟨y, hy, e.symm⟩)) (mhStep_of ol ⟨z2, z3⟩) (fun y hy => or y (List.mem_cons_of_mem _ hy)) (by omega) hlt' h
    have em : mins (jobs (l ++ [z])) = mins (jobs l) + z.1.2 := by rw [jobs_app, mins_app]; simp [jobs]
    have hlen : (ats l).length < sizeLine := by rw [List.length_map, sizeLine_eq]; omega
    have hltl : (natsD lt).length < sizeLine := by rw [List.length_map, sizeLine_eq]; omega
    have ol' : Of os (l ++ [z]) := fun y hy => by
      rcases List.mem_append.mp hy with q | q
      · exact ol y q
      · rw [List.mem_singleton.mp q]; exact ⟨z2, z3⟩
    have hcl2 : (ats (l ++ [z])).length ≤ sizeLine := by rw [List.length_map, sizeLine_eq]; simp; omega
    have esum : intsOf ([] ++ (l ++ [z]).map fun y => nI y.1.2) = some ((l ++ [z]).map fun y => ((y.1.2 : Nat) : Int)) := by
      rw [← intsOf_map, List.map_map]
      rfl
    have esum2 : ((l ++ [z]).map fun y => ((y.1.2 : Nat) : Int)).sum = ((mins (jobs (l ++ [z])) : Nat) : Int) := by
      rw [mins_jobs]
      generalize l ++ [z] = L
      induction L with
      | nil => rfl
      | cons y L ih => rw [List.map_cons, List.sum_cons, ih, List.map_cons, List.sum_cons, Int.natCast_add]
    obtain ⟨a, b, e, ha1, hb1⟩ := long_is (l := l ++ [z]) (by simp)
    have hlin : long (l ++ [z]) ∈ l ++ [z] := by
      have : long (l ++ [z]) ∈ a ++ long (l ++ [z]) :: b := by simp
      rw [← e] at this
      exact this
    have hlong := ol' _ hlin
    obtain ⟨y, ys, ey⟩ : ∃ y ys, l ++ [z] = y :: ys := by cases l with
      | nil => exact ⟨_, _, rfl⟩
      | cons y l => exact ⟨_, _, rfl⟩
    have hst : mhStepL (l, lt) z = (mhStep l z, if mins (jobs (l ++ [z])) ≤ z.1.1 then lt else lt ++ [(long (l ++ [z])).2]) := rfl
    have hst2 : mhStep l z = if mins (jobs (l ++ [z])) ≤ z.1.1 then l ++ [z] else (l ++ [z]).filter fun y => decide (y.2 ≠ (long (l ++ [z])).2) := rfl
    have efirst : (l ++ [z]).filter (fun y => decide (y.1.2 = (long (l ++ [z])).1.2)) = long (l ++ [z]) :: b.filter (fun y => decide (y.1.2 = (long (l ++ [z])).1.2)) := by
      generalize long (l ++ [z]) = o at e ha1
      rw [e, List.filter_append, List.filter_eq_nil_iff.mpr (fun y hy => by have := ha1 y hy; simp; omega), List.filter_cons, if_pos (by simp)]
      rfl
    rw [List.foldl_cons, hst] at h
    rw [List.map_cons]
    conv => whnf
    refine ⟨hlen, ?_⟩
    rw [← ats_snoc]
    conv => whnf
    refine ⟨hcl2, ?_⟩
    generalize hL : l ++ [z] = L at *
    generalize hA : ats L = A at *
    rw [← hA]
    refine comp_map (fun z : JN => nI z.2) (fun z => nI z.1.2) (by rfl) L [] (fun p hp acc ds h => ?_) ?_
    · have hp1 := ol' p hp
      conv => whnf
      refine ⟨rfl, ?_⟩
      conv => whnf
      refine optW_mk (at_os hp1.1) ?_
      rw [hp1.2]
      exact h
    conv => whnf
    refine optW_mk esum ?_
    rw [esum2]
    conv => whnf
    refine optW_mk (at_os z2) ?_
    rw [z3]
    conv => whnf
    refine br_d (fun hc => ?_) (fun hc => ?_)
    · have hc : ¬ mins (jobs L) ≤ z.1.1 := by
        have hc : ((z.1.1 : Nat) : Int) < ((mins (jobs L) : Nat) : Int) := hc
        omega
      rw [if_neg hc] at h hst2
      have ih := ih _ (by simp; omega) h
      conv => whnf
      refine ⟨by rw [hA]; exact hcl2, ?_⟩
      refine comp_map (fun z : JN => nI z.2) (fun z => nI z.1.2) (by rfl) L [] (fun p hp acc ds h => ?_) ?_
      · have hp1 := ol' p hp
        conv => whnf
        refine ⟨rfl, ?_⟩
        conv => whnf
        refine optW_mk (at_os hp1.1) ?_
        rw [hp1.2]
        exact h
      have emm : [] ++ L.map (fun z : JN => nI z.1.2) = nI y.1.2 :: ys.map fun z => nI z.1.2 := by rw [ey]; rfl
      rw [emm]
      conv => whnf
      refine ⟨by
        have : Ints (nI y.1.2 :: ys.map fun z => nI z.1.2) := fun d hd => by
          rcases List.mem_cons.mp hd with rfl | hd
          · exact ⟨_, rfl⟩
          · obtain ⟨w, _, rfl⟩ := List.mem_map.mp hd
            exact ⟨_, rfl⟩
        exact this.mm, ?_⟩
      rw [max_mins ey]
      conv => whnf
      refine ⟨by rw [hA]; exact hcl2, ?_⟩
      refine comp_filter (fun z : JN => nI z.2) (fun z => nI z.2) (fun y => decide (y.1.2 = (long L).1.2)) (by rfl) L [] (fun p hp acc ds h1 h2 => ?_) ?_
      · have hp1 := ol' p hp
        conv => whnf
        refine ⟨rfl, ?_⟩
        conv => whnf
        refine optW_mk (at_os hp1.1) ?_
        rw [hp1.2]
        conv => whnf
        refine br_d (fun heq => ?_) (fun hne => ?_)
        · conv => whnf
          exact h1 (decide_eq_true (Int.ofNat.inj heq))
        · conv => whnf
          exact h2 (decide_eq_false fun q => hne (by rw [q]))
      rw [efirst]
      conv => whnf
      refine optW_mk (show atI (nI (long L).2 :: (b.filter fun y => decide (y.1.2 = (long L).1.2)).map fun z => nI z.2) ((0 : Nat) : Int) = some (nI (long L).2) from atI_nat rfl) ?_
      conv => whnf
      refine ⟨by rw [hA]; exact hcl2, ?_⟩
      refine comp_filter (fun z : JN => nI z.2) (fun z => nI z.2) (fun y => decide (y.2 ≠ (long L).2)) (by rfl) L [] (fun p hp acc ds h1 h2 => ?_) ?_
      · conv => whnf
        refine ⟨rfl, ?_⟩
        conv => whnf
        refine br_n (fun hne => ?_) (fun heq => ?_)
        · conv => whnf
          exact h1 (decide_eq_true fun q => hne (by rw [q]))
        · conv => whnf
          exact h2 (by
            have : p.2 = (long L).2 := Int.ofNat.inj heq
            simp [this])
      rw [← hst2]
      conv => whnf
      refine ⟨hltl, ?_⟩
      have := ih (.dat (nI z.2)) (.dat (nI (long L).1.2)) (.dat (nI (long L).2))
      rw [show natsD (lt ++ [(long L).2]) = natsD lt ++ [nI (long L).2] by simp] at this
      exact this
    · have hc : mins (jobs L) ≤ z.1.1 := by
        have hc : ¬ ((z.1.1 : Nat) : Int) < ((mins (jobs L) : Nat) : Int) := hc
        omega
      rw [if_pos hc] at h hst2
      have ih := ih _ (by omega) h
      rw [hst2] at ih
      exact ih _ _ _
theorem len__law_told_way : ∀ as q, sp__law_told_way as q → as.length = 1 := fun _ _ ⟨_, h, _⟩ => by rw [h]; rfl
theorem ok__law_told_way : ∀ as q, sp__law_told_way as q → t__law_told_way (endsD as q) (startD N__law_told_way.length as) := by
  rintro _ q ⟨os, rfl, ho, hq⟩
  have h20 := ho.len
  have ee := enum_os os
  have el := enum_len os
  conv => whnf
  refine ⟨Nat.zero_le _, ?_⟩
  conv => whnf
  refine ⟨Nat.zero_le _, ?_⟩
  conv => whnf
  refine ⟨rfl, ?_⟩
  conv => whnf
  refine ⟨sz2, ?_⟩
  conv => whnf
  refine ⟨by show (enumD (os.map Job.d)).length ≤ sizeLine; rw [el, sizeLine_eq]; omega, ?_⟩
  show compW _ _ _ _ _ _ (enumD (os.map Job.d)) _ _
  rw [ee]
  refine comp_map (fun p : JN => PyData.tuple [nI p.2, Job.d p.1]) keyD trivial os.zipIdx [] (fun p hp acc ds h => ?_) ?_
  · conv => whnf
    refine ⟨trivial, ?_⟩
    conv => whnf
    refine ⟨rfl, ?_⟩
    conv => whnf
    refine ⟨rfl, ?_⟩
    conv => whnf
    refine ⟨sz2, ?_⟩
    exact h
  have hs : sortD ([] ++ os.zipIdx.map keyD) = (zs os).map keyD := sort_os os
  have hal : ([] ++ os.zipIdx.map keyD).length ≤ 1000000 ∧ alikeD ([] ++ os.zipIdx.map keyD) := ⟨by simp; omega, (keyD_tups os.zipIdx).sort⟩
  conv => whnf
  refine ⟨hal, ?_⟩
  rw [hs]
  conv => whnf
  refine ⟨by rw [List.length_map, zs_len, sizeLine_eq]; omega, ?_⟩
  refine comp_map keyD (fun z : JN => nI z.2) trivial (zs os) [] (fun p hp acc ds h => ?_) ?_
  · conv => whnf
    refine ⟨trivial, ?_⟩
    conv => whnf
    refine ⟨rfl, ?_⟩
    conv => whnf
    refine ⟨rfl, ?_⟩
    exact h
  conv => whnf
  refine told_for _ os .emp .emp (zs os) [] [] 0 [0] _ _ _ MH.start (fun _ _ => Nat.zero_le _) (zs_sorted os) (zs_nodup os) (fun _ _ => by simp) (fun _ h => nomatch h) (zs_of os) (by rw [zs_len]; simp; omega) (by rw [zs_len]; simp; omega) fun w3 w4 w5 => ?_
  rw [mhL_is]
  have e2 : ats (mh os) = natsD (mhN os) := by unfold mhN; rw [natsD, List.map_map]; rfl
  have hll : (lateL os).length ≤ 1000 := by
    rw [(late_perm os).length_eq]
    have := List.length_filter_le (fun k => decide (k ∉ mhN os)) (List.range os.length)
    rw [List.length_range] at this
    unfold lateN
    omega
  have hsl : sortD (natsD (lateL os)) = natsD (lateN os) := sortD_nats_eq (late_perm os) ((List.pairwise_lt_range.sublist List.filter_sublist).imp Nat.le_of_lt)
  conv => whnf
  refine ⟨⟨by rw [List.length_map]; show (lateL os).length ≤ 1000000; omega, (Ints.nats _).sort⟩, ?_⟩
  conv => whnf
  refine ⟨sz2, ?_⟩
  conv => whnf
  rw [hsl, e2]
  exact hq

end K23
set_option Elab.async false
set_option linter.all false
set_option maxRecDepth 100000
set_option maxHeartbeats 400000
namespace K23
open PySem L2 DL
open PyProof.Rows (boot_repr boot_sum boot_all boot_any boot_max boot_min boot_abs boot_int boot_list boot_tuple boot_sorted)
/-! ### worked -/
def lf (os : List Job) (A : List JN) (k : Nat) : Nat := if k ∈ A.map (·.2) then 0 else mi os k
def dn (os : List Job) (A : List JN) (k : Nat) : Nat := if k ∈ A.map (·.2) then doneAt os k else 0
def rowD (n : Nat) (f : Nat → Nat) : List D := (List.range n).map fun k => nI (f k)
theorem rowD_len (n : Nat) (f : Nat → Nat) : (rowD n f).length = n := by unfold rowD; rw [List.length_map, List.length_range]
theorem rowD_at {n : Nat} {f : Nat → Nat} {k : Nat} (h : k < n) : atI (rowD n f) ((k : Nat) : Int) = some (nI (f k)) := atI_nat (by unfold rowD; rw [List.getElem?_map, List.getElem?_range h]; rfl)
theorem rowD_set {n : Nat} {f g : Nat → Nat} {k v : Nat} (h : k < n) (hk : g k = v) (ho : ∀ i, i ≠ k → g i = f i) : (rowD n f).set k (nI v) = rowD n g := by
  refine List.ext_getElem? fun i => ?_
  unfold rowD
  by_cases hi : i < n
  · by_cases e : k = i
    · subst e
      rw [List.getElem?_set_self (by simpa using hi), List.getElem?_map, List.getElem?_range hi]
      show some (nI v) = some (nI (g k))
      rw [hk]
    · rw [List.getElem?_set_ne e, List.getElem?_map, List.getElem?_map, List.getElem?_range hi]
      show some (nI (f i)) = some (nI (g i))
      rw [ho i fun z => e z.symm]
  · rw [List.getElem?_eq_none (by simp; omega), List.getElem?_eq_none (by simp; omega)]
theorem lf_snoc {os : List Job} {A : List JN} {z : JN} : lf os (A ++ [z]) z.2 = 0 ∧ ∀ i, i ≠ z.2 → lf os (A ++ [z]) i = lf os A i := by
  unfold lf
  refine ⟨if_pos (by simp), fun i hi => ?_⟩
  have : i ∈ (A ++ [z]).map (·.2) ↔ i ∈ A.map (·.2) := by simp [hi]
  by_cases h : i ∈ A.map (·.2)
  · rw [if_pos h, if_pos (this.mpr h)]
  · rw [if_neg h, if_neg fun q => h (this.mp q)]
theorem dn_snoc {os : List Job} {A : List JN} {z : JN} : dn os (A ++ [z]) z.2 = doneAt os z.2 ∧ ∀ i, i ≠ z.2 → dn os (A ++ [z]) i = dn os A i := by
  unfold dn
  refine ⟨if_pos (by simp), fun i hi => ?_⟩
  have : i ∈ (A ++ [z]).map (·.2) ↔ i ∈ A.map (·.2) := by simp [hi]
  by_cases h : i ∈ A.map (·.2)
  · rw [if_pos h, if_pos (this.mpr h)]
  · rw [if_neg h, if_neg fun q => h (this.mp q)]
theorem fold_min : ∀ (l : List JN) (x : JN), (l.foldl (fun a y => if (!keyLe a y) = true then y else a) x) ∈ x :: l ∧ ∀ y ∈ x :: l, keyLe (l.foldl (fun a y => if (!keyLe a y) = true then y else a) x) y = true
  | [], x => ⟨by simp, fun y hy => by rw [List.mem_singleton.mp hy]; exact keyLe_refl x⟩
  | y :: l, x => by
    rw [List.foldl_cons]
    by_cases h : keyLe x y = true
    · rw [if_neg (by simp [h])]
      obtain ⟨h1, h2⟩ := fold_min l x
      refine ⟨?_, fun w hw => ?_⟩
      · rcases List.mem_cons.mp h1 with q | q
        · rw [q]; simp
        · exact List.mem_cons_of_mem _ (List.mem_cons_of_mem _ q)
      · rcases List.mem_cons.mp hw with rfl | hw
        · exact h2 _ List.mem_cons_self
        · rcases List.mem_cons.mp hw with rfl | hw
          · exact keyLe_trans _ _ _ (h2 x List.mem_cons_self) h
          · exact h2 w (List.mem_cons_of_mem _ hw)
    · rw [if_pos (by simp [h])]
      obtain ⟨h1, h2⟩ := fold_min l y
      have hyx : keyLe y x = true := by
        have := keyLe_total x y
        simp only [Bool.or_eq_true] at this
        rcases this with q | q
        · exact absurd q h
        · exact q
      refine ⟨List.mem_cons_of_mem _ h1, fun w hw => ?_⟩
      rcases List.mem_cons.mp hw with rfl | hw
      · exact keyLe_trans _ _ _ (h2 y List.mem_cons_self) hyx
      · exact h2 w hw
theorem keyD_lt (a b : JN) : PySem.W.dataLt (keyD a) (keyD b) = !keyLe b a := by
  have := keyD_le b a
  rw [dataLe_lt] at this
  rw [← this, Bool.not_not]
theorem min_keys {z : JN} {y : JN} {l : List JN} (hz : z ∈ y :: l) (h : ∀ w ∈ y :: l, keyLe z w = true) (one : ∀ w ∈ y :: l, w.2 = z.2 → w = z) : minOf (keyD y) (l.map keyD) = keyD z := by
  rw [minOf_map keyD (fun a b => !keyLe b a) keyD_lt]
  obtain ⟨h1, h2⟩ := fold_min l y
  congr 1
  exact one _ h1 (keyLe_anti (h2 z hz) (h _ h1))
def Trip (d : D) : Prop := ∃ a b c : Int, d = .tuple [.int a, .int b, .int c]
theorem trip_sh {fs : List D} (h : ∀ d ∈ fs, Trip d) : SeqAt.shaped (.list fs) = true := Tups.shL (k := 3) fun d hd => by
  obtain ⟨a, b, c, rfl⟩ := h d hd
  exact ⟨[a, b, c], rfl, rfl⟩
theorem nil_sh : SeqAt.shaped (.list []) = true := Ints.shL fun _ h => nomatch h
theorem truthy_row (n : Nat) (f : Nat → Nat) : (rowD n f).any truthyD = (List.range n).any fun k => decide (f k ≠ 0) := by
  have e : rowD n f = ((List.range n).map fun k => ((f k : Nat) : Int)).map PyData.int := by unfold rowD; rw [List.map_map]; rfl
  rw [e, truthy_ints, List.any_map]
  congr 1
  funext k
  show decide (((f k : Nat) : Int) ≠ 0) = _
  congr 1
  apply propext
  omega
theorem row_ints (n : Nat) (f : Nat → Nat) : Ints (rowD n f) := fun d hd => by obtain ⟨k, _, rfl⟩ := List.mem_map.mp hd; exact ⟨_, rfl⟩
theorem fits_ints {xs : List D} (h : Ints xs) : ∀ x ∈ xs, x.fits63 := fun x hx => by obtain ⟨i, rfl⟩ := h x hx; unfold PyData.fits63; trivial
/-- what a lap of the work knows -/
structure Lap (os : List Job) (A B : List JN) (z : JN) (RL RD : List D) : Prop where
  eq : zs os = A ++ z :: B
  rl : RL = rowD os.length (lf os A)
  rd : RD = rowD os.length (dn os A)
  ord : Ords os
section
variable {os : List Job} {A B : List JN} {z : JN} {RL RD : List D} (L : Lap os A B z RL RD)
include L
theorem Lap.zin : z ∈ zs os := by rw [L.eq]; simp
theorem Lap.zlt : z.2 < os.length := (zs_of os z L.zin).1
theorem Lap.zgj : gj os z.2 = z.1 := (zs_of os z L.zin).2
theorem Lap.lfz : lf os A z.2 = z.1.2 := by
  have znot : z.2 ∉ A.map (·.2) := fun q => by
    have := zs_nodup os
    rw [L.eq, List.map_append] at this
    exact (List.nodup_append.mp this).2.2 _ q _ (by simp) rfl
  unfold lf
  rw [if_neg znot]
  show (gj os z.2).2 = _
  rw [L.zgj]
theorem Lap.zpos : 0 < z.1.2 := by
  have := (L.ord.job _ (gj_mem L.zlt)).2.1
  rw [L.zgj] at this
  exact this
theorem Lap.lenA : A.length + B.length + 1 = os.length := by
  have := zs_len os
  rw [L.eq, List.length_append, List.length_cons] at this
  omega
theorem Lap.left {k : Nat} (h : k < os.length) : atI RL ((k : Nat) : Int) = some (nI (lf os A k)) := by rw [L.rl]; exact rowD_at h
theorem Lap.ixl : ixN RL.length ((z.2 : Nat) : Int) = some z.2 := ixN_nat (by rw [L.rl, rowD_len]; exact L.zlt)
theorem Lap.ixd : ixN RD.length ((z.2 : Nat) : Int) = some z.2 := ixN_nat (by rw [L.rd, rowD_len]; exact L.zlt)
theorem Lap.setl : RL.set z.2 (nI 0) = rowD os.length (lf os (A ++ [z])) := by rw [L.rl]; exact rowD_set L.zlt lf_snoc.1 lf_snoc.2
theorem Lap.setd : RD.set z.2 (nI (mins (jobs A) + z.1.2)) = rowD os.length (dn os (A ++ [z])) := by
  rw [L.rd]
  exact rowD_set L.zlt (by rw [dn_snoc.1, doneAt_is L.eq]) dn_snoc.2
theorem Lap.ej : mins (jobs (A ++ [z])) = mins (jobs A) + z.1.2 := by rw [jobs_app, mins_app]; simp [jobs]
theorem Lap.pin {p : JN} (hp : p ∈ os.zipIdx) : p.2 < os.length ∧ gj os p.2 = p.1 := by
  have := List.mem_zipIdx_iff_getElem?.mp hp
  exact ⟨(List.getElem?_eq_some_iff.mp this).1, gj_at this⟩
def duesD (os : List Job) : D := .list (os.map fun j => nI j.1)
def nowD (A : List JN) (z : JN) : D := .int (((mins (jobs A) : Nat) : Int) + ((z.1.2 : Nat) : Int))
theorem lap_p1 (E : DEnds) (fs : List D) (w6 w8 : DV) (h : E.nx [.dat (osD os), .dat (duesD os), .own (rowD os.length (lf os (A ++ [z]))), .own (rowD os.length (dn os (A ++ [z]))), .own fs, .dat (nI (mins (jobs (A ++ [z])))), w6, .dat (nI z.2), w8, .dat (nowD A z), .emp, .emp]) :
    p1_worked E [.dat (osD os), .dat (duesD os), .own RL, .own RD, .own fs, .dat (nI (mins (jobs A))), w6, .dat (nI z.2), w8, .dat (nowD A z), .emp, .emp] := by
  rw [← L.setl, ← L.setd, L.ej] at h
  conv => whnf
  refine optW_mk (L.left L.zlt) ?_
  rw [L.lfz]
  conv => whnf
  refine ⟨rfl, ?_⟩
  conv => whnf
  refine ⟨sz2, ?_⟩
  conv => whnf
  refine optW_mk L.ixl ?_
  conv => whnf
  refine ⟨rfl, ?_⟩
  conv => whnf
  refine optW_mk L.ixd ?_
  have e0 : ((z.1.2 : Nat) : Int) - (((mins (jobs A) : Nat) : Int) + ((z.1.2 : Nat) : Int) - ((mins (jobs A) : Nat) : Int)) = ((0 : Nat) : Int) := by omega
  rw [show nI 0 = .int (((z.1.2 : Nat) : Int) - (((mins (jobs A) : Nat) : Int) + ((z.1.2 : Nat) : Int) - ((mins (jobs A) : Nat) : Int))) by rw [e0]] at h
  exact h
theorem lap_p2 (E : DEnds) (fs : List D) (hf : ∀ d ∈ fs, Trip d) (hfl : fs.length ≤ A.length) (w6 w8 : DV)
    (h : ∀ fs', (∀ d ∈ fs', Trip d) → fs'.length ≤ A.length + 1 → E.nx [.dat (osD os), .dat (duesD os), .own (rowD os.length (lf os (A ++ [z]))), .own (rowD os.length (dn os (A ++ [z]))), .own fs', .dat (nI (mins (jobs (A ++ [z])))), w6, .dat (nI z.2), w8, .dat (nowD A z), .emp, .emp]) :
    p2_worked E [.dat (osD os), .dat (duesD os), .own RL, .own RD, .own fs, .dat (nI (mins (jobs A))), w6, .dat (nI z.2), w8, .dat (nowD A z), .emp, .emp] := by
  have hlA := L.lenA
  have h20 := L.ord.len
  have fin := fun fs' h1 h2 => lap_p1 L E fs' w6 w8 (h fs' h1 h2)
  conv => whnf
  refine ⟨Nat.zero_le _, ?_⟩
  conv => whnf
  refine ⟨trip_sh hf, nil_sh, ?_⟩
  rcases List.eq_nil_or_concat fs with rfl | ⟨gs, d, e⟩
  · conv => whnf
    refine ⟨sz 3 (by decide), ?_⟩
    conv => whnf
    refine ⟨by show 0 < sizeLine; rw [sizeLine_eq]; decide, ?_⟩
    exact fin [.tuple [nI z.2, nI (mins (jobs A)), nowD A z]] (fun d hd => ⟨_, _, _, List.mem_singleton.mp hd⟩) (by show 1 ≤ _; omega)
  · have e : fs = gs ++ [d] := by simpa using e
    subst e
    obtain ⟨a, b, c, rfl⟩ := hf d (by simp)
    have hneq : (!PyData.eqv (.list (gs ++ [PyData.tuple [.int a, .int b, .int c]])) (.list [])) = true := by cases gs <;> simp [PyData.eqv, PyData.eqvAll]
    rw [List.length_append] at hfl
    have hfl : gs.length + 1 ≤ A.length := hfl
    have happ : dDrop (dApp 4 (dTup (dCons (dVar 7) (dCons (dVar 5) (dCons (dVar 9) (dNil)))))) { E with nx := p1_worked E } [.dat (osD os), .dat (duesD os), .own RL, .own RD, .own (gs ++ [PyData.tuple [.int a, .int b, .int c]]), .dat (nI (mins (jobs A))), w6, .dat (nI z.2), w8, .dat (nowD A z), .emp, .emp] := by
      conv => whnf
      refine ⟨sz 3 (by decide), ?_⟩
      conv => whnf
      refine ⟨by rw [List.length_append, sizeLine_eq]; simp; omega, ?_⟩
      exact fin _ (fun d hd => by
        rcases List.mem_append.mp hd with hd | hd
        · exact hf d hd
        · rw [List.mem_singleton] at hd
          exact ⟨_, _, _, hd⟩) (by simp; omega)
    conv => whnf
    refine br_t hneq ?_
    conv => whnf
    refine optW_mk (atI_last _ _) ?_
    conv => whnf
    refine br_d (fun h1 => ?_) (fun h1 => ?_)
    · conv => whnf
      refine optW_mk (atI_last _ _) ?_
      conv => whnf
      refine br_d (fun h2 => ?_) (fun h2 => ?_)
      · conv => whnf
        refine optW_mk (atI_last _ _) ?_
        conv => whnf
        refine ⟨sz 3 (by decide), ?_⟩
        have hix : ixN (gs ++ [PyData.tuple [.int a, .int b, .int c]]).length (-1) = some gs.length := by
          unfold ixN
          rw [if_neg (by decide), if_pos (by simp; omega)]
          simp
          omega
        conv => whnf
        refine optW_mk hix ?_
        refine fin _ (fun d hd => ?_) (by rw [List.length_set]; simp; omega)
        rcases List.mem_or_eq_of_mem_set hd with hd | hd
        · exact hf d hd
        · exact ⟨_, _, _, hd⟩
      · exact happ
    · exact happ
theorem lap_p4 (E : DEnds) (fs : List D) (hf : ∀ d ∈ fs, Trip d) (hfl : fs.length ≤ A.length) (w6 w8 w9 : DV)
    (h : ∀ w8 fs', (∀ d ∈ fs', Trip d) → fs'.length ≤ A.length + 1 → E.nx [.dat (osD os), .dat (duesD os), .own (rowD os.length (lf os (A ++ [z]))), .own (rowD os.length (dn os (A ++ [z]))), .own fs', .dat (nI (mins (jobs (A ++ [z])))), w6, .dat (nI z.2), w8, .dat (nowD A z), .emp, .emp]) :
    p4_worked E [.dat (osD os), .dat (duesD os), .own RL, .own RD, .own fs, .dat (nI (mins (jobs A))), w6, .dat (nI z.2), w8, w9, .emp, .emp] := by
  have h20 := L.ord.len
  have ee := enum_os os
  have el := enum_len os
  conv => whnf
  refine ⟨by show (enumD (os.map Job.d)).length ≤ sizeLine; rw [el, sizeLine_eq]; omega, ?_⟩
  show compW _ _ _ _ _ _ (enumD (os.map Job.d)) _ _
  rw [ee]
  refine comp_filter (fun p : JN => PyData.tuple [nI p.2, Job.d p.1]) keyD (fun _ => false) trivial os.zipIdx [] (fun p hp acc ds h1 h2 => ?_) ?_
  · obtain ⟨p1, p2⟩ := L.pin hp
    conv => whnf
    refine ⟨trivial, ?_⟩
    conv => whnf
    refine ⟨rfl, ?_⟩
    conv => whnf
    refine ⟨rfl, ?_⟩
    conv => whnf
    refine optW_mk (L.left p1) ?_
    conv => whnf
    refine br_d (fun hc => ?_) (fun hc => ?_)
    · conv => whnf
      exact h2 rfl
    · conv => whnf
      exact h2 rfl
  have enil : os.zipIdx.filter (fun _ : JN => false) = [] := List.filter_eq_nil_iff.mpr fun _ _ h => by cases h
  rw [enil]
  conv => whnf
  refine optW_mk (L.left L.zlt) ?_
  rw [L.lfz]
  conv => whnf
  refine ⟨sz 1 (by decide), ?_⟩
  conv => whnf
  refine ⟨(Ints.map [((mins (jobs A) : Nat) : Int) + ((z.1.2 : Nat) : Int)]).mm, ?_⟩
  have emin : minOf (PyData.int (((mins (jobs A) : Nat) : Int) + ((z.1.2 : Nat) : Int))) [] = nowD A z := minOf_ints _ []
  rw [emin]
  exact lap_p2 L E fs hf hfl w6 (.dat (.list [])) (h _)
/-- those that are left -/
def restL (os : List Job) (A : List JN) : List JN := os.zipIdx.filter fun p => decide (0 < lf os A p.2)
theorem Lap.rest {p : JN} (hp : p ∈ restL os A) : keyLe z p = true := by
  obtain ⟨p1, p2⟩ := List.mem_filter.mp hp
  have p2 : 0 < lf os A p.2 := of_decide_eq_true p2
  have pz : p ∈ A ++ z :: B := by rw [← L.eq]; exact (zs_perm os).mem_iff.mpr p1
  have hs := zs_sorted os
  rw [L.eq] at hs
  have hs2 := List.pairwise_cons.mp (List.pairwise_append.mp hs).2.1
  rcases List.mem_append.mp pz with q | q
  · unfold lf at p2
    rw [if_pos (List.mem_map_of_mem q)] at p2
    exact absurd p2 (Nat.lt_irrefl 0)
  · rcases List.mem_cons.mp q with q | q
    · rw [q]; exact keyLe_refl z
    · exact hs2.1 p q
theorem Lap.zrest : z ∈ restL os A := List.mem_filter.mpr ⟨(zs_perm os).mem_iff.mp L.zin, decide_eq_true (by rw [L.lfz]; exact L.zpos)⟩
theorem Lap.one {w : JN} (hw : w ∈ restL os A) (e : w.2 = z.2) : w = z := by
  have := (L.pin (List.mem_filter.mp hw).1).2
  refine Prod.ext ?_ e
  rw [← this, e, L.zgj]
theorem lap_p6 (E : DEnds) (fs : List D) (hf : ∀ d ∈ fs, Trip d) (hfl : fs.length ≤ A.length) (w7 w8 w9 : DV)
    (h : ∀ w6 w8 fs', (∀ d ∈ fs', Trip d) → fs'.length ≤ A.length + 1 → E.nx [.dat (osD os), .dat (duesD os), .own (rowD os.length (lf os (A ++ [z]))), .own (rowD os.length (dn os (A ++ [z]))), .own fs', .dat (nI (mins (jobs (A ++ [z])))), w6, .dat (nI z.2), w8, .dat (nowD A z), .emp, .emp]) :
    p6_worked E [.dat (osD os), .dat (duesD os), .own RL, .own RD, .own fs, .dat (nI (mins (jobs A))), .own ((restL os A).map keyD), w7, w8, w9, .emp, .emp] := by
  have hz := L.zrest
  have hk := fun p => L.rest (p := p)
  have ho := fun p => L.one (w := p)
  cases ey : restL os A with
  | nil => rw [ey] at hz; cases hz
  | cons y ys =>
    rw [ey] at hz hk ho
    have hsm : SeqAt.shaped (.list ((y :: ys).map keyD)) = true := (keyD_tups (y :: ys)).shL
    conv => whnf
    refine ⟨Nat.zero_le _, ?_⟩
    conv => whnf
    refine ⟨hsm, nil_sh, ?_⟩
    conv => whnf
    refine ⟨(keyD_tups (y :: ys)).mm, ?_⟩
    rw [min_keys hz hk ho]
    exact lap_p4 L E fs hf hfl _ w8 w9 (h _)
theorem lap_b (E : DEnds) (fs : List D) (hf : ∀ d ∈ fs, Trip d) (hfl : fs.length ≤ A.length) (w6 w7 w8 w9 : DV)
    (h : ∀ w6 w8 fs', (∀ d ∈ fs', Trip d) → fs'.length ≤ A.length + 1 → E.nx [.dat (osD os), .dat (duesD os), .own (rowD os.length (lf os (A ++ [z]))), .own (rowD os.length (dn os (A ++ [z]))), .own fs', .dat (nI (mins (jobs (A ++ [z])))), w6, .dat (nI z.2), w8, .dat (nowD A z), .emp, .emp]) :
    b1_worked E [.dat (osD os), .dat (duesD os), .own RL, .own RD, .own fs, .dat (nI (mins (jobs A))), w6, w7, w8, w9, .emp, .emp] := by
  have h20 := L.ord.len
  have ee := enum_os os
  have el := enum_len os
  have hdue : ∀ k, k < os.length → atI (os.map fun j => nI j.1) ((k : Nat) : Int) = some (nI (gj os k).1) := fun k hk => atI_map (enc := fun j : Job => nI j.1) (gj_get hk)
  conv => whnf
  refine ⟨by show (enumD (os.map Job.d)).length ≤ sizeLine; rw [el, sizeLine_eq]; omega, ?_⟩
  show compW _ _ _ _ _ _ (enumD (os.map Job.d)) _ _
  rw [ee]
  refine comp_filter (fun p : JN => PyData.tuple [nI p.2, Job.d p.1]) keyD (fun p => decide (0 < lf os A p.2)) trivial os.zipIdx [] (fun p hp acc ds h1 h2 => ?_) ?_
  · obtain ⟨p1, p2⟩ := L.pin hp
    conv => whnf
    refine ⟨trivial, ?_⟩
    conv => whnf
    refine ⟨rfl, ?_⟩
    conv => whnf
    refine ⟨rfl, ?_⟩
    conv => whnf
    refine optW_mk (L.left p1) ?_
    conv => whnf
    refine br_d (fun hc => ?_) (fun hc => ?_)
    · have hc : 0 < lf os A p.2 := by
        have hc : (0 : Int) < ((lf os A p.2 : Nat) : Int) := hc
        omega
      conv => whnf
      refine optW_mk (hdue _ p1) ?_
      rw [p2]
      conv => whnf
      refine ⟨sz2, ?_⟩
      exact h1 (decide_eq_true hc)
    · conv => whnf
      exact h2 (decide_eq_false fun q => hc (by show (0 : Int) < ((lf os A p.2 : Nat) : Int); omega))
  exact lap_p6 L E fs hf hfl w7 w8 w9 h
end
theorem work_for (E : DEnds) (os : List Job) (ho : Ords os) : ∀ (B A : List JN) (fs : List D) (w6 w7 w8 w9 : DV), zs os = A ++ B → (∀ d ∈ fs, Trip d) → fs.length ≤ A.length →
    (∀ fs w5 w6 w7 w8 w9, fs.length ≤ 1000 → E.nx [.dat (osD os), .dat (duesD os), .own (rowD os.length (lf os (zs os))), .own (rowD os.length (dn os (zs os))), .own fs, w5, w6, w7, w8, w9, .emp, .emp]) →
    whileN c1_worked b1_worked E (B.length + 1) [.dat (osD os), .dat (duesD os), .own (rowD os.length (lf os A)), .own (rowD os.length (dn os A)), .own fs, .dat (nI (mins (jobs A))), w6, w7, w8, w9, .emp, .emp]
  | [], A, fs, w6, w7, w8, w9, hA, hf, hfl, h => by
    rw [List.append_nil] at hA
    have hl := zs_len os
    rw [hA] at hl
    have h20 := ho.len
    conv => whnf
    refine ⟨⟨(row_ints _ _).plain, fits_ints (row_ints _ _)⟩, ?_⟩
    conv => whnf
    refine br_f (by
      rw [truthy_row, List.any_eq_false]
      intro k hk
      have : lf os A k = 0 := by
        unfold lf
        rw [if_pos]
        have : k ∈ os.zipIdx.map (·.2) := by rw [List.zipIdx_map_snd, ← List.range_eq_range']; exact hk
        rw [← hA]
        exact ((zs_perm os).map _).mem_iff.mpr this
      simp [this]) ?_
    rw [hA] at h
    exact h fs _ _ _ _ _ (by omega)
  | z :: B, A, fs, w6, w7, w8, w9, hA, hf, hfl, h => by
    have L : Lap os A B z _ _ := ⟨hA, rfl, rfl, ho⟩
    conv => whnf
    refine ⟨⟨(row_ints _ _).plain, fits_ints (row_ints _ _)⟩, ?_⟩
    conv => whnf
    refine br_t (by
      rw [truthy_row, List.any_eq_true]
      exact ⟨z.2, List.mem_range.mpr L.zlt, by rw [L.lfz]; have := L.zpos; simp; omega⟩) ?_
    refine lap_b L _ fs hf hfl w6 w7 w8 w9 fun w6 w8 fs' hf' hl' => ?_
    exact work_for E os ho B (A ++ [z]) fs' w6 _ w8 _ (by rw [hA]; simp) hf' (by simpa using hl') h
theorem len_worked : ∀ as q, sp_worked as q → as.length = 2 := fun _ _ ⟨_, h, _⟩ => by rw [h]; rfl
theorem ok_worked : ∀ as q, sp_worked as q → t_worked (endsD as q) (startD N_worked.length as) := by
  rintro _ q ⟨os, rfl, ho, hq⟩
  have h20 := ho.len
  have h0 := ho.pos
  have erow : os.map (fun j : Job => nI j.2) = rowD os.length (lf os []) := by
    conv => lhs; rw [← map_gj os]
    rw [List.map_map]
    rfl
  have edone : List.replicate os.length (PyData.int 0) = rowD os.length (dn os []) := by
    unfold rowD
    refine List.ext_getElem? fun i => ?_
    by_cases hi : i < os.length
    · rw [List.getElem?_replicate_of_lt hi, List.getElem?_map, List.getElem?_range hi]
      rfl
    · rw [List.getElem?_eq_none (by simpa using hi), List.getElem?_eq_none (by simpa using hi)]
  obtain ⟨y, ys, ey⟩ : ∃ y ys, os = y :: ys := by
    cases os with
    | nil => exact absurd h0 (by decide)
    | cons y ys => exact ⟨y, ys, rfl⟩
  conv => whnf
  refine ⟨ho.szl, ?_⟩
  refine comp_map Job.d (fun j => nI j.2) trivial os [] (fun p hp acc ds h => ?_) ?_
  · conv => whnf
    refine ⟨trivial, ?_⟩
    exact h
  rw [List.nil_append, erow]
  conv => whnf
  refine ⟨sz 1 (by decide), ?_⟩
  have hos : (os.map Job.d).length = os.length := List.length_map _
  conv => whnf
  refine ⟨⟨by omega, by rw [hos]; omega, by rw [hos, sizeLine_eq]; show 1 * (((os.length : Nat) : Int)).toNat ≤ 16777216; omega⟩, ?_⟩
  conv => whnf
  refine ⟨Nat.zero_le _, ?_⟩
  conv => whnf
  refine ⟨ho.szl, ?_⟩
  refine comp_map Job.d (fun j => .int 0) trivial os [] (fun p hp acc ds h => ?_) ?_
  · conv => whnf
    refine ⟨trivial, ?_⟩
    exact h
  have em : [] ++ os.map (fun _ => PyData.int 0) = PyData.int 0 :: ys.map (fun _ => PyData.int 0) := by rw [ey]; rfl
  have e1 : ys.map (fun _ => PyData.int 0) = (ys.map fun _ => (0 : Int)).map PyData.int := by rw [List.map_map]; rfl
  have e2 : minOf (PyData.int 0) (ys.map (fun _ => PyData.int 0)) = .int 0 := by
    rw [e1, minOf_ints]
    obtain ⟨g1, g2, g3⟩ := foldl_min (ys.map fun _ => (0 : Int)) 0
    rcases g1 with g | g
    · rw [g]
    · obtain ⟨_, _, e⟩ := List.mem_map.mp g
      rw [← e]
  rw [em]
  conv => whnf
  refine ⟨by
    have : Ints (PyData.int 0 :: ys.map (fun _ => PyData.int 0)) := by rw [e1]; exact Ints.map (0 :: ys.map fun _ => 0)
    exact this.mm, ?_⟩
  rw [e2]
  conv => whnf
  refine ⟨rfl, ?_⟩
  conv => whnf
  refine ⟨sz 3 (by decide), ?_⟩
  have ed : (List.replicate ((((os.map Job.d).length : Nat) : Int)).toNat [PyData.int 0]).flatten = rowD os.length (dn os []) := by
    rw [hos, ← edone]
    show (List.replicate os.length [PyData.int 0]).flatten = _
    rw [List.flatten_replicate_singleton]
  show r2_worked _ [.dat (osD os), .dat (duesD os), .own (rowD os.length (lf os [])), .own (List.replicate ((((os.map Job.d).length : Nat) : Int)).toNat [PyData.int 0]).flatten, .own [], .dat (.int 0), .emp, .emp, .emp, .emp, .emp, .emp]
  rw [ed]
  refine ⟨(zs os).length + 1, ?_⟩
  refine work_for _ os ho (zs os) [] [] _ _ _ _ rfl (fun _ h => nomatch h) (Nat.le_refl _) fun fs w5 w6 w7 w8 w9 hl => ?_
  have ef : rowD os.length (dn os (zs os)) = (List.range os.length).map fun k => nI (doneAt os k) := by
    unfold rowD
    refine List.map_congr_left fun k hk => ?_
    unfold dn
    rw [if_pos]
    have : k ∈ os.zipIdx.map (·.2) := by rw [List.zipIdx_map_snd, ← List.range_eq_range']; exact hk
    exact ((zs_perm os).map _).mem_iff.mpr this
  conv => whnf
  refine ⟨sz2, ?_⟩
  rw [ef]
  exact hq fs hl

end K23
set_option Elab.async false
set_option linter.all false
set_option maxRecDepth 100000
set_option maxHeartbeats 400000
namespace K23
open PySem L2 DL
open PyProof.Rows (boot_repr boot_sum boot_all boot_any boot_max boot_min boot_abs boot_int boot_list boot_tuple boot_sorted)
theorem zipD_map {α β : Type} (f : α → D) (g : β → D) (xs : List α) (ys : List β) : zipD (xs.map f) (ys.map g) = (xs.zip ys).map fun p => PyData.tuple [f p.1, g p.2] := by
  unfold zipD
  rw [List.zipWith_map, List.zip, List.map_zipWith]
theorem len_asked_in : ∀ as q, sp_asked_in as q → as.length = 3 := fun _ _ ⟨_, _, _, _, h, _⟩ => by rw [h]; rfl
theorem ok_asked_in : ∀ as q, sp_asked_in as q → t_asked_in (endsD as q) (startD N_asked_in.length as) := by
  rintro _ q ⟨os, ds, b, e, rfl, ho, hl, hq⟩
  have h20 := ho.len
  have ez := zipD_map Job.d PyData.int os ds
  have el : (zipD (os.map Job.d) (ds.map PyData.int)).length ≤ sizeLine := by rw [ez, List.length_map, List.length_zip, sizeLine_eq]; omega
  conv => whnf
  refine ⟨rfl, ?_⟩
  conv => whnf
  refine ⟨rfl, ?_⟩
  conv => whnf
  refine ⟨el, ?_⟩
  show compW _ _ _ _ _ _ (zipD (os.map Job.d) (ds.map PyData.int)) _ _
  rw [ez]
  refine comp_filter (fun p : Job × Int => PyData.tuple [Job.d p.1, .int p.2]) (fun p => nI p.1.2) (fun p => decide (0 ≥ b) && decide (p.2 ≤ e)) ⟨trivial, trivial⟩ (os.zip ds) [] (fun p hp acc ds h1 h2 => ?_) ?_
  · conv => whnf
    refine ⟨⟨trivial, trivial⟩, ?_⟩
    conv => whnf
    refine ⟨rfl, ?_⟩
    conv => whnf
    refine ⟨rfl, ?_⟩
    conv => whnf
    refine br_d (fun hc => ?_) (fun hc => ?_)
    · conv => whnf
      refine br_d (fun hd => ?_) (fun hd => ?_)
      · conv => whnf
        exact h1 (by rw [decide_eq_true hd, Bool.and_true]; exact decide_eq_true hc)
      · conv => whnf
        exact h2 (by rw [decide_eq_false hd, Bool.and_false])
    · conv => whnf
      exact h2 (by rw [show decide (0 ≥ b) = false from decide_eq_false hc, Bool.false_and])
  have ei : intsOf ([] ++ ((os.zip ds).filter fun p => decide (0 ≥ b) && decide (p.2 ≤ e)).map fun p => nI p.1.2) = some (((os.zip ds).filter fun p => decide (0 ≥ b) && decide (p.2 ≤ e)).map fun p => ((p.1.2 : Nat) : Int)) := by
    rw [← intsOf_map, List.map_map]
    rfl
  conv => whnf
  refine optW_mk ei ?_
  exact hq
theorem len_asks_too_much : ∀ as q, sp_asks_too_much as q → as.length = 2 := fun _ _ ⟨_, _, h, _⟩ => by rw [h]; rfl
theorem asks_in (E : DEnds) (os : List Job) (ds : List Int) (ho : Ords os) (hl : ds.length = os.length) (b : Int) (v4 : DV) : ∀ (es : List Int) (w3 : DV), (∀ e, ∀ τ, E.rt (.dat (.tuple [.int b, .int e])) τ) → ((∀ e ∈ es, askedD os ds b e ≤ max 0 (e - b)) → ∀ w3, E.nx [.dat (osD os), .dat (.list (ds.map PyData.int)), .dat (.int b), w3, v4]) →
    forW (gdName 3) b1_asks_too_much E (es.map PyData.int) [.dat (osD os), .dat (.list (ds.map PyData.int)), .dat (.int b), w3, v4]
  | [], w3, hr, h => h (fun _ h => nomatch h) w3
  | e :: es, w3, hr, h => by
    rw [List.map_cons]
    conv => whnf
    refine ⟨sz2, ?_⟩
    conv => whnf
    refine ⟨os, ds, b, e, rfl, ho, hl, ?_⟩
    conv => whnf
    refine br_d (fun hc => ?_) (fun hc => ?_)
    · conv => whnf
      refine ⟨sz2, ?_⟩
      exact hr e _
    · refine asks_in E os ds ho hl b v4 es _ hr fun ha => h fun x hx => ?_
      rcases List.mem_cons.mp hx with rfl | hx
      · exact Int.not_lt.mp hc
      · exact ha x hx
theorem asks_out (E : DEnds) (os : List Job) (ds : List Int) (ho : Ords os) (hl : ds.length = os.length) (v4 : DV) : ∀ (bs : List Int) (w2 w3 : DV), (∀ b e, ∀ τ, E.rt (.dat (.tuple [.int b, .int e])) τ) → ((∀ b ∈ bs, ∀ e ∈ ds, askedD os ds b e ≤ max 0 (e - b)) → ∀ w2 w3, E.nx [.dat (osD os), .dat (.list (ds.map PyData.int)), w2, w3, v4]) →
    forW (gdName 2) b2_asks_too_much E (bs.map PyData.int) [.dat (osD os), .dat (.list (ds.map PyData.int)), w2, w3, v4]
  | [], w2, w3, hr, h => h (fun _ h => nomatch h) w2 w3
  | b :: bs, w2, w3, hr, h => by
    rw [List.map_cons]
    have h20 := ho.len
    conv => whnf
    refine optW_mk (intsOf_map ds) ?_
    conv => whnf
    refine ⟨by omega, ?_⟩
    refine asks_in _ os ds ho hl b v4 (riseD ds) w3 (fun e τ => hr b e τ) fun ha w3 => ?_
    refine asks_out E os ds ho hl v4 bs _ _ hr fun hb => h fun x hx => ?_
    rcases List.mem_cons.mp hx with rfl | hx
    · exact fun e he => ha e (((riseD_is ds).2 e).mpr he)
    · exact hb x hx
theorem ok_asks_too_much : ∀ as q, sp_asks_too_much as q → t_asks_too_much (endsD as q) (startD N_asks_too_much.length as) := by
  rintro _ q ⟨os, ds, rfl, ho, hl, h1, h2⟩
  have h20 := ho.len
  have h0 := ho.pos
  conv => whnf
  refine ⟨ho.szl, ?_⟩
  refine comp_map Job.d (fun _ => .int 0) trivial os [] (fun p hp acc ds h => ?_) ?_
  · conv => whnf
    refine ⟨trivial, ?_⟩
    exact h
  have ei : intsOf ([] ++ os.map fun _ => PyData.int 0) = some (os.map fun _ => 0) := by
    rw [← intsOf_map, List.map_map]
    rfl
  conv => whnf
  refine optW_mk ei ?_
  conv => whnf
  refine ⟨by rw [List.length_map]; omega, ?_⟩
  refine asks_out _ os ds ho hl .emp (riseD (os.map fun _ => 0)) _ _ (fun b e τ => h1 b e) fun ha w2 w3 => ?_
  refine h2 fun e he => ?_
  refine ha 0 (((riseD_is _).2 0).mpr ?_) e he
  obtain ⟨x, xs, e⟩ : ∃ x xs, os = x :: xs := by
    cases os with
    | nil => exact absurd h0 (by decide)
    | cons x xs => exact ⟨x, xs, rfl⟩
  rw [e]
  exact List.mem_cons_self
theorem asked_load (os : List Job) (t : Nat) : askedD os (os.map fun j => ((j.1 : Nat) : Int)) 0 ((t : Nat) : Int) = ((load os t : Nat) : Int) := by
  unfold askedD load mins
  induction os with
  | nil => rfl
  | cons j os ih =>
    rw [List.map_cons, List.zip_cons_cons, List.filter_cons, List.filter_cons]
    by_cases h : j.1 ≤ t
    · rw [if_pos (by simp; omega), if_pos (by simpa using h), List.map_cons, List.map_cons, List.sum_cons, List.sum_cons, ih, Int.natCast_add]
    · rw [if_neg (by simp; omega), if_neg (by simpa using h), ih]
theorem keptB_iff (os : List Job) : keptB os = true ↔ EDD os := by
  rw [← kept_iff]
  unfold keptB
  rw [List.all_eq_true]
  constructor
  · exact fun h k hk => of_decide_eq_true (h k (List.mem_range.mpr hk))
  · exact fun h k hk => decide_eq_true (h k (List.mem_range.mp hk))
theorem dues_map (os : List Job) : (os.map fun j => nI j.1) = (List.range os.length).map fun k => nI (gj os k).1 := by
  conv => lhs; rw [← map_gj os]
  rw [List.map_map]
  rfl
theorem zip_same {α β γ : Type} (f : α → β) (g : α → γ) (l : List α) : (l.map f).zip (l.map g) = l.map fun x => (f x, g x) := by
  induction l with
  | nil => rfl
  | cons x l ih => rw [List.map_cons, List.map_cons, List.zip_cons_cons, ih]; rfl
theorem done_zip (os : List Job) : zipD ((List.range os.length).map fun k => nI (doneAt os k)) (os.map fun j => nI j.1) = (List.range os.length).map fun k => PyData.tuple [nI (doneAt os k), nI (gj os k).1] := by
  rw [dues_map, zipD_map (fun k => nI (doneAt os k)) (fun k => nI (gj os k).1)]
  rw [show (List.range os.length).zip (List.range os.length) = (List.range os.length).map fun x => (x, x) from by
    have := zip_same (fun x : Nat => x) (fun x : Nat => x) (List.range os.length)
    rw [List.map_id'] at this
    exact this]
  rw [List.map_map]
  rfl
theorem len_kept : ∀ as q, sp_kept as q → as.length = 1 := fun _ _ ⟨_, h, _⟩ => by rw [h]; rfl
theorem ok_kept : ∀ as q, sp_kept as q → t_kept (endsD as q) (startD N_kept.length as) := by
  rintro _ q ⟨os, rfl, ho, hq⟩
  have h20 := ho.len
  conv => whnf
  refine ⟨os, rfl, ho, ?_⟩
  conv => whnf
  refine ⟨ho.szl, ?_⟩
  refine comp_map Job.d (fun j => nI j.1) trivial os [] (fun p hp acc ds h => ?_) ?_
  · conv => whnf
    refine ⟨trivial, ?_⟩
    exact h
  conv => whnf
  refine ⟨os, rfl, ho, fun fs hfs => ?_⟩
  conv => whnf
  refine ⟨rfl, ?_⟩
  conv => whnf
  refine ⟨rfl, ?_⟩
  have ez := done_zip os
  show r3_kept _ [.dat (osD os), .dat (.list (os.map fun j => nI j.1)), .dat (.list fs), .dat (.list ((List.range os.length).map fun k => nI (doneAt os k))), .emp, .emp, .emp]
  generalize hA : (List.range os.length).map (fun k => nI (doneAt os k)) = DA at *
  generalize hB : os.map (fun j => nI j.1) = DB at *
  conv => whnf
  refine ⟨by show (zipD DA DB).length ≤ sizeLine; rw [ez, List.length_map, List.length_range, sizeLine_eq]; omega, ?_⟩
  show compW _ _ _ _ _ _ (zipD DA DB) _ _
  rw [ez]
  refine comp_map (fun k : Nat => PyData.tuple [nI (doneAt os k), nI (gj os k).1]) (fun k => .bool (decide (doneAt os k ≤ (gj os k).1))) ⟨trivial, trivial⟩ (List.range os.length) [] (fun k hk acc ds h => ?_) ?_
  · conv => whnf
    refine ⟨⟨trivial, trivial⟩, ?_⟩
    conv => whnf
    refine ⟨rfl, ?_⟩
    conv => whnf
    refine ⟨rfl, ?_⟩
    have e : decide (((doneAt os k : Nat) : Int) ≤ (((gj os k).1 : Nat) : Int)) = decide (doneAt os k ≤ (gj os k).1) := by
      congr 1
      exact propext Int.ofNat_le
    rw [← e] at h
    exact h
  have eb : boolsOf ([] ++ (List.range os.length).map fun k => PyData.bool (decide (doneAt os k ≤ (gj os k).1))) = some ((List.range os.length).map fun k => decide (doneAt os k ≤ (gj os k).1)) := by
    rw [← boolsOf_map, List.map_map]
    rfl
  have ek : ((List.range os.length).map fun k => decide (doneAt os k ≤ (gj os k).1)).all id = keptB os := by
    unfold keptB
    rw [List.all_map]
    rfl
  conv => whnf
  refine optW_mk eb ?_
  rw [ek]
  conv => whnf
  refine br_of (fun hk => ?_) (fun hk => ?_)
  · conv => whnf
    refine ⟨sz2, ?_⟩
    have := hq [.tuple fs]
    rw [hk] at this
    exact this
  · have fin : ∀ b e : Int, q (.dat (.tuple (.str "span" :: [.int b, .int e]))) [] := fun b e => by
      have := hq [.int b, .int e]
      rw [hk] at this
      exact this
    have ebd : DB = (os.map fun j => ((j.1 : Nat) : Int)).map PyData.int := by rw [← hB, List.map_map]; rfl
    conv => whnf
    refine ⟨os, os.map fun j => ((j.1 : Nat) : Int), by rw [← ebd], ho, by rw [List.length_map], fun b e => ?_, fun ha => ?_⟩
    · conv => whnf
      refine ⟨sz 3 (by decide), ?_⟩
      exact fin b e
    · exfalso
      have hne : ¬ EDD os := fun h => by
        rw [(keptB_iff os).mpr h] at hk
        cases hk
      refine hne ((kept_iff os).mp fun k hk => ?_)
      have h1 := ha (((gj os k).1 : Nat) : Int) (List.mem_map.mpr ⟨gj os k, gj_mem hk, rfl⟩)
      rw [asked_load] at h1
      have h2 : doneAt os k ≤ load os (gj os k).1 := by
        rw [load_zip]
        unfold doneAt
        refine mins_filter_imp fun y hy hp => decide_eq_true ?_
        unfold keyLe at hp
        simp only [decide_eq_true_eq] at hp
        omega
      omega
theorem len_least_late : ∀ as q, sp_least_late as q → as.length = 1 := fun _ _ ⟨_, h, _⟩ => by rw [h]; rfl
theorem ok_least_late : ∀ as q, sp_least_late as q → t_least_late (endsD as q) (startD N_least_late.length as) := by
  rintro _ q ⟨os, rfl, ho, hq⟩
  have h20 := ho.len
  have h0 := ho.pos
  conv => whnf
  refine ⟨os, rfl, ho, ?_⟩
  conv => whnf
  refine ⟨ho.szl, ?_⟩
  refine comp_map Job.d (fun j => nI j.1) trivial os [] (fun p hp acc ds h => ?_) ?_
  · conv => whnf
    refine ⟨trivial, ?_⟩
    exact h
  conv => whnf
  refine ⟨os, rfl, ho, fun fs hfs => ?_⟩
  conv => whnf
  refine ⟨rfl, ?_⟩
  conv => whnf
  refine ⟨rfl, ?_⟩
  have ez := done_zip os
  show r3_least_late _ [.dat (osD os), .dat (.list (os.map fun j => nI j.1)), .dat (.list fs), .dat (.list ((List.range os.length).map fun k => nI (doneAt os k))), .emp, .emp, .emp, .emp, .emp]
  generalize hA : (List.range os.length).map (fun k => nI (doneAt os k)) = DA at *
  generalize hB : os.map (fun j => nI j.1) = DB at *
  conv => whnf
  refine ⟨by show (zipD DA DB).length ≤ sizeLine; rw [ez, List.length_map, List.length_range, sizeLine_eq]; omega, ?_⟩
  show compW _ _ _ _ _ _ (zipD DA DB) _ _
  rw [ez]
  refine comp_map (fun k : Nat => PyData.tuple [nI (doneAt os k), nI (gj os k).1]) (fun k => .int (((doneAt os k : Nat) : Int) - (((gj os k).1 : Nat) : Int))) ⟨trivial, trivial⟩ (List.range os.length) [] (fun k hk acc ds h => ?_) ?_
  · conv => whnf
    refine ⟨⟨trivial, trivial⟩, ?_⟩
    conv => whnf
    refine ⟨rfl, ?_⟩
    conv => whnf
    refine ⟨rfl, ?_⟩
    exact h
  obtain ⟨n, hn⟩ : ∃ n, os.length = n + 1 := ⟨os.length - 1, by omega⟩
  have er : [] ++ (List.range os.length).map (fun k => PyData.int (((doneAt os k : Nat) : Int) - (((gj os k).1 : Nat) : Int))) = PyData.int (((doneAt os 0 : Nat) : Int) - (((gj os 0).1 : Nat) : Int)) :: ((List.range' 1 n).map fun k => ((doneAt os k : Nat) : Int) - (((gj os k).1 : Nat) : Int)).map PyData.int := by
    rw [hn, List.range_eq_range', List.range'_succ, List.map_cons, List.map_map]
    rfl
  rw [er]
  conv => whnf
  refine ⟨(Ints.map (_ :: _)).mm, ?_⟩
  rw [maxOf_ints]
  obtain ⟨g1, g2, g3⟩ := foldl_max ((List.range' 1 n).map fun k => ((doneAt os k : Nat) : Int) - (((gj os k).1 : Nat) : Int)) (((doneAt os 0 : Nat) : Int) - (((gj os 0).1 : Nat) : Int))
  generalize ((List.range' 1 n).map fun k => ((doneAt os k : Nat) : Int) - (((gj os k).1 : Nat) : Int)).foldl max (((doneAt os 0 : Nat) : Int) - (((gj os 0).1 : Nat) : Int)) = late at g1 g2 g3 ⊢
  have hlate : late ≤ 0 ↔ keptB os = true := by
    rw [keptB_iff, ← kept_iff]
    constructor
    · intro h k hk
      cases k with
      | zero => omega
      | succ k =>
        have := g3 _ (List.mem_map.mpr ⟨k + 1, by rw [List.mem_range'_1]; omega, rfl⟩)
        omega
    · intro h
      rcases g1 with g | g
      · rw [g]
        have := h 0 h0
        omega
      · obtain ⟨k, hk, e⟩ := List.mem_map.mp g
        rw [← e]
        have := h k (by rw [List.mem_range'_1] at hk; omega)
        omega
  have ebd : DB = (os.map fun j => ((j.1 : Nat) : Int)).map PyData.int := by rw [← hB, List.map_map]; rfl
  show r4_least_late _ [.dat (osD os), .dat (.list DB), .dat (.list fs), .dat (.list DA), .dat (.int late), .emp, .emp, .emp, .emp]
  rw [ebd]
  conv => whnf
  refine ⟨by rw [List.length_map, List.length_map, sizeLine_eq]; omega, ?_⟩
  refine comp_map PyData.int (fun i => .int (i + late - 1)) trivial (os.map fun j => ((j.1 : Nat) : Int)) [] (fun i hi acc ds h => ?_) ?_
  · conv => whnf
    refine ⟨trivial, ?_⟩
    exact h
  have el : [] ++ (os.map fun j => ((j.1 : Nat) : Int)).map (fun i => PyData.int (i + late - 1)) = ((os.map fun j => ((j.1 : Nat) : Int)).map fun i => i + late - 1).map PyData.int := by
    rw [List.map_map (g := PyData.int)]
    rfl
  rw [el]
  conv => whnf
  refine ⟨os, _, rfl, ho, by rw [List.length_map, List.length_map], fun b e => ?_, fun ha => ?_⟩
  · conv => whnf
    refine ⟨sz 3 (by decide), ?_⟩
    exact hq late _ hlate
  · conv => whnf
    refine ⟨sz 3 (by decide), ?_⟩
    exact hq late _ hlate

end K23
set_option Elab.async false
set_option linter.all false
set_option maxRecDepth 100000
set_option maxHeartbeats 400000
namespace K23
open PySem L2 DL
open PyProof.Rows (boot_repr boot_sum boot_all boot_any boot_max boot_min boot_abs boot_int boot_list boot_tuple boot_sorted)
/-! ### the orders drawn -/
theorem len__law_orders : ∀ as q, sp__law_orders as q → as.length = 1 := fun _ _ ⟨_, _, h, _⟩ => by rw [h]; rfl
def Small (os : List Job) : Prop := ∀ j ∈ os, j.1 ≤ 1000000 ∧ 0 < j.2 ∧ j.2 ≤ 300000
theorem Pot.mono {m n : Nat} {xs : List D} (h : Pot m xs) (hn : m ≤ n) : Pot n xs := let ⟨o, s, c, e, h1, h2, h3, h4⟩ := h; ⟨o, s, c, e, h1, h2, h3, by omega⟩
theorem at_m2 {α : Type} (xs : List α) (x y : α) : atI (xs ++ [x] ++ [y]) (-2) = some x := by
  have hl : (xs ++ [x] ++ [y]).length = xs.length + 2 := by simp
  unfold atI ixN
  rw [hl, if_neg (by decide), if_pos (by omega)]
  have : ((-2 : Int) + ((xs.length + 2 : Nat) : Int)).toNat = xs.length := by omega
  rw [this]
  show (xs ++ [x] ++ [y])[xs.length]? = some x
  rw [List.append_assoc, List.getElem?_append_right (Nat.le_refl _), Nat.sub_self]
  rfl
theorem ix_m1 {α : Type} (xs : List α) (y : α) : ixN (xs ++ [y]).length (-1) = some xs.length := by
  unfold ixN
  rw [if_neg (by decide), if_pos (by simp; omega)]
  simp
  omega
theorem set_last {α : Type} (xs : List α) (y z : α) : (xs ++ [y]).set xs.length z = xs ++ [z] := by
  rw [List.set_append_right _ _ (Nat.le_refl _), Nat.sub_self]
  rfl
theorem orders_laps (E : DEnds) (sc mn : Nat) (hsc : 0 < sc ∧ sc ≤ 50000) (hmn : mn ≤ 20) : ∀ (k : Nat) (js : List Job) (xs : List D) (n i : Nat) (w4 w5 : DV), Pot n xs → n + 4 * k < 100000 → js.length = i → i + k ≤ 20 → Small js →
    (∀ os ys w4 w5, Small os → os.length = i + k → Pot (n + 4 * k) ys → E.nx [.io ys, .own (os.map Job.d), .dat (nI sc), .dat (nI mn), w4, w5]) →
    forW (gdName 4) b1__law_orders E (rangeD ((i : Nat) : Int) k) [.io xs, .own (js.map Job.d), .dat (nI sc), .dat (nI mn), w4, w5]
  | 0, js, xs, n, i, w4, w5, hP, hn, hj, hi, hs, h => by
    rw [rangeD_zero]
    exact h js xs w4 w5 hs hj hP
  | k + 1, js, xs, n, i, w4, w5, hP, hn, hj, hi, hs, h => by
    rw [rangeD_succ]
    have hpr : 0 ≤ sc * (1 + mn * 2 / 3) ∧ sc * (1 + mn * 2 / 3) ≤ 700000 := ⟨Nat.zero_le _, Nat.le_trans (Nat.mul_le_mul hsc.2 (show 1 + mn * 2 / 3 ≤ 14 by omega)) (by decide)⟩
    conv => whnf
    refine ⟨rfl, rfl, ?_⟩
    conv => whnf
    refine ⟨n, xs, sc, rfl, hP, by omega, ⟨hsc.1, by omega⟩, fun r1 ys hr1 hP1 => ?_⟩
    have fin : ∀ (j : Job) (zs : List D) (n' : Nat) (w5 : DV), n' ≤ n + 4 → Pot n' zs → (j.1 ≤ 1000000 ∧ 0 < j.2 ∧ j.2 ≤ 300000) → forW (gdName 4) b1__law_orders E (rangeD (((i : Nat) : Int) + 1) k) [.io zs, .own (js.map Job.d ++ [Job.d j]), .dat (nI sc), .dat (nI mn), .dat (nI i), w5] := fun j zs n' w5 hn' hz hj' => by
      have := orders_laps E sc mn hsc hmn k (js ++ [j]) zs (n + 4) (i + 1) (.dat (nI i)) w5 (hz.mono hn') (by omega) (by simp [hj]) (by omega) (fun x hx => by
        rcases List.mem_append.mp hx with q | q
        · exact hs x q
        · rw [List.mem_singleton.mp q]; exact hj') (fun os us w4 w5 h1 h2 h3 => h os us w4 w5 h1 (by omega) (by
          have e : n + 4 * (k + 1) = n + 4 + 4 * k := by omega
          rw [e]; exact h3))
      rw [List.map_append] at this
      exact this
    conv => whnf
    refine ⟨mulOkR (by decide) (by decide), ?_⟩
    conv => whnf
    refine ⟨.inl ⟨by decide, by decide⟩, ?_⟩
    conv => whnf
    refine ⟨mulOkL (by omega) (by omega), ?_⟩
    conv => whnf
    refine ⟨rfl, rfl, ?_⟩
    conv => whnf
    refine ⟨n + 1, ys, 1 + sc * (1 + mn * 2 / 3), by rfl, hP1, by omega, ⟨by omega, by omega⟩, fun r2 zs hr2 hP2 => ?_⟩
    conv => whnf
    refine ⟨sz 3 (by decide), ?_⟩
    conv => whnf
    refine ⟨by show (js.map Job.d).length < sizeLine; rw [List.length_map, sizeLine_eq]; omega, ?_⟩
    have hjob : ((r2, 1 + r1) : Job).1 ≤ 1000000 ∧ 0 < ((r2, 1 + r1) : Job).2 ∧ ((r2, 1 + r1) : Job).2 ≤ 300000 := ⟨by show r2 ≤ _; omega, by show 0 < 1 + r1; omega, by show 1 + r1 ≤ _; omega⟩
    conv => whnf
    refine br_d (fun hc => ?_) (fun hc => ?_)
    · conv => whnf
      refine ⟨rfl, rfl, ?_⟩
      conv => whnf
      refine ⟨n + 2, zs, 4, rfl, hP2, by omega, ⟨by decide, by decide⟩, fun r3 us hr3 hP3 => ?_⟩
      conv => whnf
      refine br_d (fun hd => ?_) (fun hd => ?_)
      · obtain ⟨js', j', e⟩ : ∃ js' j', js = js' ++ [j'] := by
          rcases List.eq_nil_or_concat js with rfl | ⟨a, b, e⟩
          · have : i = 0 := hj.symm
            rw [this] at hc
            exact absurd hc (by decide)
          · exact ⟨a, b, by simpa using e⟩
        have h2 : atI (js.map Job.d ++ [Job.d (r2, 1 + r1)]) (-2) = some (Job.d j') := by rw [e, List.map_append]; exact at_m2 _ _ _
        have hj' := hs j' (by rw [e]; simp)
        conv => whnf
        refine optW_mk h2 ?_
        conv => whnf
        refine optW_mk h2 ?_
        conv => whnf
        refine ⟨sz2, ?_⟩
        conv => whnf
        refine ⟨rfl, rfl, ?_⟩
        conv => whnf
        refine ⟨n + 3, us, [nI (1 + r1), nI j'.2], rfl, hP3, by omega, ⟨by show 0 < 2; decide, by show 2 < 1000; decide⟩, fun d vs hdm hP4 => ?_⟩
        obtain ⟨m, rfl, hm⟩ : ∃ m : Nat, d = nI m ∧ (0 < m ∧ m ≤ 300000) := by
          rcases List.mem_cons.mp hdm with q | q
          · exact ⟨_, q, by omega, by omega⟩
          · exact ⟨_, List.mem_singleton.mp q, hj'.2⟩
        conv => whnf
        refine ⟨sz 3 (by decide), ?_⟩
        conv => whnf
        refine optW_mk (ix_m1 (js.map Job.d) (Job.d (r2, 1 + r1))) ?_
        have := fin (j'.1, m) vs (n + 4) (.dat (nI (1 + r1))) (by omega) hP4 ⟨hj'.1, hm⟩
        rw [← set_last (js.map Job.d) (Job.d (r2, 1 + r1)) (Job.d (j'.1, m))] at this
        exact this
      · exact fin (r2, 1 + r1) us (n + 3) (.dat (nI (1 + r1))) (by omega) hP3 hjob
    · exact fin (r2, 1 + r1) zs (n + 2) (.dat (nI (1 + r1))) (by omega) hP2 hjob
theorem ok__law_orders : ∀ as q, sp__law_orders as q → t__law_orders (endsD as q) (startD N__law_orders.length as) := by
  rintro _ q ⟨n, xs, rfl, hP, hn, hq⟩
  conv => whnf
  refine ⟨Nat.zero_le _, ?_⟩
  conv => whnf
  refine ⟨sz 3 (by decide), ?_⟩
  conv => whnf
  refine ⟨rfl, rfl, ?_⟩
  conv => whnf
  refine ⟨n, xs, [.int 3, .int 30, .int 50000], rfl, hP, by omega, ⟨by show 0 < 3; decide, by show 3 < 1000; decide⟩, fun d ys hdm hP1 => ?_⟩
  obtain ⟨sc, em, hsc⟩ : ∃ m : Nat, d = nI m ∧ (0 < m ∧ m ≤ 50000) := by
    rcases List.mem_cons.mp hdm with e | e
    · exact ⟨3, e, by decide⟩
    · rcases List.mem_cons.mp e with e | e
      · exact ⟨30, e, by decide⟩
      · exact ⟨50000, List.mem_singleton.mp e, by decide⟩
  subst em
  conv => whnf
  refine ⟨rfl, ?_⟩
  conv => whnf
  refine ⟨sz2, ?_⟩
  conv => whnf
  refine ⟨rfl, rfl, ?_⟩
  conv => whnf
  refine ⟨n + 1, ys, 20, rfl, hP1, by omega, ⟨by decide, by decide⟩, fun k zs hk hP2 => ?_⟩
  conv => whnf
  refine ⟨by omega, ?_⟩
  conv => whnf
  refine ⟨by omega, ?_⟩
  have ek : ((1 : Int) + ((k : Nat) : Int)).toNat = 1 + k := by omega
  rw [ek]
  refine orders_laps _ sc (1 + k) hsc (by omega) (1 + k) [] zs (n + 2) 0 _ _ hP2 (by omega) rfl (by omega) (fun _ h => nomatch h) fun os us w4 w5 hs hl hP3 => ?_
  exact hq os us ⟨by omega, by omega, fun j hj => ⟨(hs j hj).1, (hs j hj).2.1, by have := (hs j hj).2.2; omega⟩⟩ (fun j hj => (hs j hj).2.2) (hP3.mono (by omega))
/-! ### the least wait -/
theorem wait_while (E : DEnds) (os : List Job) (ws : List Nat) (ho : Ords os) (hw : Wts os ws) (k : Nat) (hk : k < os.length) (o : DV) : ∀ (B A : List Nat), (∀ x ∈ A ++ B, x < os.length) →
    E.nx [.dat (osD os), .dat (.tuple (natsD ws)), .own (natsD (A ++ B)), .dat (nI k), o, .dat (nI (A.length + pl (wt ws) (mi os) k B))] →
    whileN c1_least_wait b1_least_wait E (B.length + 1) [.dat (osD os), .dat (.tuple (natsD ws)), .own (natsD (A ++ B)), .dat (nI k), o, .dat (nI A.length)]
  | [], A, hx, h => by
    have el : (natsD (A ++ [])).length = A.length := by rw [List.append_nil, List.length_map]
    conv => whnf
    refine br_df (by rw [el]; omega) ?_
    exact h
  | x :: B, A, hx, h => by
    have el : (natsD (A ++ x :: B)).length = A.length + (B.length + 1) := by rw [List.length_map, List.length_append]; rfl
    have hx1 := hx x (by simp)
    have hat : atI (natsD (A ++ x :: B)) ((A.length : Nat) : Int) = some (nI x) := atI_map (by rw [List.getElem?_append_right (Nat.le_refl _), Nat.sub_self]; rfl)
    unfold pl at h
    conv => whnf
    refine br_dt (by rw [el]; omega) ?_
    conv => whnf
    refine optW_mk hat ?_
    conv => whnf
    refine ⟨os, ws, k, x, rfl, ho, hw, ⟨hk, hx1⟩, ?_⟩
    conv => whnf
    refine br_n (fun hc => ?_) (fun hc => ?_)
    · rw [if_neg hc] at h
      have ih := wait_while E os ws ho hw k hk o B (A ++ [x]) (fun y hy => hx y (by simpa using hy)) (by
        rw [List.append_assoc, List.length_append]
        have e : A.length + [x].length + pl (wt ws) (mi os) k B = A.length + (pl (wt ws) (mi os) k B + 1) := by show A.length + 1 + _ = _; omega
        rw [e]
        exact h)
      rw [List.append_assoc, List.length_append] at ih
      exact ih
    · rw [if_pos hc] at h
      exact h
theorem natsD_ins (l : List Nat) (k p : Nat) : natsD (l.take p ++ [k] ++ l.drop p) = (natsD l).take p ++ [nI k] ++ (natsD l).drop p := by
  rw [natsD, List.map_append, List.map_append, List.map_take, List.map_drop]
  rfl
theorem wait_outer (E : DEnds) (os : List Job) (ws : List Nat) (ho : Ords os) (hw : Wts os ws) : ∀ (r : List JN) (l : List Nat) (w3 w4 w5 : DV), (∀ p ∈ r, p.2 < os.length) → (∀ x ∈ l, x < os.length) → l.length + r.length ≤ 100 →
    (∀ w3 w4 w5, E.nx [.dat (osD os), .dat (.tuple (natsD ws)), .own (natsD ((r.map (·.2)).foldl (fun l k => insS (wt ws) (mi os) k l) l)), w3, w4, w5]) →
    forW (gdTup 2 (gdCons (gdName 3) (gdCons (gdName 4) (gdNil)))) b2_least_wait E (r.map fun p => PyData.tuple [nI p.2, Job.d p.1]) [.dat (osD os), .dat (.tuple (natsD ws)), .own (natsD l), w3, w4, w5]
  | [], l, w3, w4, w5, hr, hl, hlen, h => h w3 w4 w5
  | p :: r, l, w3, w4, w5, hr, hl, hlen, h => by
    have hp := hr p List.mem_cons_self
    rw [List.length_cons] at hlen
    have hple := pl_le (wt ws) (mi os) p.2 l
    have ih := fun w3 w4 w5 => wait_outer E os ws ho hw r (insS (wt ws) (mi os) p.2 l) w3 w4 w5 (fun x hx => hr x (List.mem_cons_of_mem _ hx)) (fun x hx => by
      rcases List.mem_cons.mp ((insS_perm (wt ws) (mi os) p.2 l).mem_iff.mp hx) with q | q
      · rw [q]; exact hp
      · exact hl x q) (by rw [(insS_perm (wt ws) (mi os) p.2 l).length_eq, List.length_cons]; omega) h
    rw [← insS_pl, natsD_ins] at ih
    rw [List.map_cons]
    conv => whnf
    refine ⟨rfl, ?_⟩
    conv => whnf
    refine ⟨rfl, ?_⟩
    refine ⟨l.length + 1, ?_⟩
    refine wait_while _ os ws ho hw p.2 hp _ l [] hl ?_
    rw [List.nil_append]
    have e0 : ([] : List Nat).length + pl (wt ws) (mi os) p.2 l = pl (wt ws) (mi os) p.2 l := Nat.zero_add _
    rw [e0]
    conv => whnf
    refine ⟨by omega, by omega, by show (natsD l).length < sizeLine; rw [List.length_map, sizeLine_eq]; omega, ?_⟩
    exact ih _ _ _
theorem len_least_wait : ∀ as q, sp_least_wait as q → as.length = 2 := fun _ _ ⟨_, _, h, _⟩ => by rw [h]; rfl
theorem ok_least_wait : ∀ as q, sp_least_wait as q → t_least_wait (endsD as q) (startD N_least_wait.length as) := by
  rintro _ q ⟨os, ws, rfl, ho, hw, hq⟩
  have h20 := ho.len
  conv => whnf
  refine ⟨os, rfl, ho, ?_⟩
  conv => whnf
  refine ⟨os, ws, rfl, ho, hw, ?_⟩
  conv => whnf
  refine ⟨Nat.zero_le _, ?_⟩
  show forW _ _ _ (enumD (os.map Job.d)) _
  rw [enum_os]
  refine wait_outer _ os ws ho hw os.zipIdx [] _ _ _ (fun p hp => (List.getElem?_eq_some_iff.mp (List.mem_zipIdx_iff_getElem?.mp hp)).1) (fun _ h => nomatch h) (by rw [List.length_zipIdx]; simp; omega) fun w3 w4 w5 => ?_
  have e1 : os.zipIdx.map (·.2) = List.range os.length := by rw [List.zipIdx_map_snd, ← List.range_eq_range']
  rw [e1]
  have hsm : (List.range os.length).foldl (fun l k => insS (wt ws) (mi os) k l) [] = smith (wt ws) (mi os) os.length := rfl
  rw [hsm]
  have hpos : ∀ k, k < os.length → 0 < mi os k := fun k hk => (ho.job _ (gj_mem hk)).2.1
  have hp := (smith_is (wt ws) hpos).2
  generalize smith (wt ws) (mi os) os.length = S at hp hq ⊢
  conv => whnf
  refine ⟨os, ws, S, rfl, ho, hw, fun k hk => List.mem_range.mp (hp.mem_iff.mp hk), ?_⟩
  conv => whnf
  refine ⟨sz2, ?_⟩
  exact hq

end K23
set_option Elab.async false
set_option linter.all false
set_option maxRecDepth 100000
set_option maxHeartbeats 400000
namespace K23
open PySem L2 DL
open PyProof.Rows (boot_repr boot_sum boot_all boot_any boot_max boot_min boot_abs boot_int boot_list boot_tuple boot_sorted)
theorem len__law_is_late_right : ∀ as q, sp__law_is_late_right as q → as.length = 2 := fun _ _ ⟨_, _, _, h, _⟩ => by rw [h]; rfl
theorem cut_take {xs : List D} {n : Nat} : cutD xs none (some ((n : Nat) : Int)) = xs.take n := by
  unfold cutD
  rw [HT.sIx_nat, HT.sIx_none, List.drop_zero, Nat.sub_zero]
  by_cases h : n ≤ xs.length
  · rw [Nat.min_eq_left h]
  · rw [Nat.min_eq_right (by omega), List.take_of_length_le (Nat.le_refl _), List.take_of_length_le (by omega)]
theorem cut_drop {xs : List D} {n : Nat} : cutD xs (some ((n : Nat) : Int)) none = xs.drop n := by
  unfold cutD
  rw [HT.sIx_nat, HT.sIx_none]
  by_cases h : n ≤ xs.length
  · rw [Nat.min_eq_left h, List.take_of_length_le (by rw [List.length_drop]; omega)]
  · rw [Nat.min_eq_right (by omega), List.drop_of_length_le (Nat.le_refl _), List.drop_of_length_le (by omega), List.take_nil]
/-- eight: what comes behind one left out -/
theorem late8 (q : EV → List D → Prop) (xs ys : List D) (os : List Job) (ho : Ords os) (k : Nat) (hk : k < os.length) (w3 w4 w5 w7 w8 : DV) (hq : q (.dat (.bool true)) ys) :
    r8__law_is_late_right (endsD [.io xs, .dat (osD os)] q) [.io ys, .dat (osD os), .dat (nI (opt os)), w3, w4, w5, .dat (nI k), w7, w8] := by
  have h20 := ho.len
  conv => whnf
  refine br_d (fun hc => ?_) (fun hc => ?_)
  · have hc : 1 < os.length := by
      have hc : (1 : Int) < (((os.map Job.d).length : Nat) : Int) := hc
      rw [List.length_map] at hc
      omega
    obtain ⟨A, x, B, e, hA⟩ : ∃ A x B, os = A ++ x :: B ∧ A.length = k := ⟨os.take k, os[k], os.drop (k + 1), by rw [List.getElem_cons_drop, List.take_append_drop], by rw [List.length_take]; omega⟩
    have e1 : cutD (os.map Job.d) none (some ((k : Nat) : Int)) = A.map Job.d := by rw [cut_take, ← List.map_take, e, List.take_left' hA]
    have e2 : cutD (os.map Job.d) (some (((k : Nat) : Int) + 1)) none = B.map Job.d := by
      have : cutD (os.map Job.d) (some (((k + 1 : Nat) : Int))) none = B.map Job.d := by
        rw [cut_drop, ← List.map_drop, e, show A ++ x :: B = (A ++ [x]) ++ B by simp, List.drop_left' (by simp; omega)]
      exact this
    have ef : (PyData.tuple (cutD (os.map Job.d) none (some ((k : Nat) : Int)) ++ cutD (os.map Job.d) (some (((k : Nat) : Int) + 1)) none) : D) = osD (A ++ B) := by
      rw [e1, e2, osD, List.map_append]
    have hAB : (A ++ B).length + 1 = os.length := by rw [e]; simp; omega
    have ho' : Ords (A ++ B) := ⟨by omega, by omega, fun j hj => ho.job j (by
      rw [e]
      rcases List.mem_append.mp hj with q | q
      · exact List.mem_append_left _ q
      · exact List.mem_append_right _ (List.mem_cons_of_mem _ q))⟩
    obtain ⟨f1, f2⟩ := opt_fewer A B x
    rw [← e] at f1 f2
    conv => whnf
    refine ⟨by rw [e1, e2, List.length_map, List.length_map, sizeLine_eq]; rw [List.length_append] at hAB; omega, ?_⟩
    rw [ef]
    conv => whnf
    refine ⟨A ++ B, rfl, ho', ?_⟩
    conv => whnf
    refine br_dt (by omega) ?_
    conv => whnf
    refine br_nf (by show ((opt (A ++ B) : Nat) : Int) ≤ ((opt os : Nat) : Int); omega) ?_
    conv => whnf
    refine ⟨A ++ B, rfl, ho', ?_⟩
    conv => whnf
    refine br_nf (by show (((natsD (mhN (A ++ B))).length : Nat) : Int) = _; rw [List.length_map, mhN_len]) ?_
    exact hq
  · exact hq
theorem late7 (q : EV → List D → Prop) (xs ys : List D) (n : Nat) (os : List Job) (ho : Ords os) (hP : Pot n ys) (hn : n < 90000) (w3 w4 w5 w6 w7 w8 : DV) (hq : ∀ zs, Pot (n + 1) zs → q (.dat (.bool true)) zs) :
    r7__law_is_late_right (endsD [.io xs, .dat (osD os)] q) [.io ys, .dat (osD os), .dat (nI (opt os)), w3, w4, w5, w6, w7, w8] := by
  have h20 := ho.len
  have h0 := ho.pos
  conv => whnf
  refine ⟨rfl, rfl, ?_⟩
  conv => whnf
  refine ⟨n, ys, os.length, by rw [List.length_map], hP, by omega, ⟨by omega, by omega⟩, fun r zs hr hP' => ?_⟩
  exact late8 q xs zs os ho r hr _ _ _ _ _ (hq zs hP')
theorem bool_sh (b : Bool) : SeqAt.shaped (.bool b) = true := rfl
theorem eqv_bool (a b : Bool) : PyData.eqv (.bool a) (.bool b) = (a == b) := by unfold PyData.eqv; rfl
theorem opt_keptB (os : List Job) : decide (opt os = os.length) = keptB os := by
  cases h : keptB os with
  | true => exact decide_eq_true ((opt_all os).mpr ((keptB_iff os).mp h))
  | false =>
    refine decide_eq_false fun e => ?_
    rw [(keptB_iff os).mpr ((opt_all os).mp e)] at h
    cases h
theorem late6 (q : EV → List D → Prop) (xs ys : List D) (n : Nat) (os : List Job) (ho : Ords os) (hP : Pot n ys) (hn : n < 90000) (w3 w4 w5 w6 w7 w8 : DV) (hq : ∀ zs, Pot (n + 1) zs → q (.dat (.bool true)) zs) :
    r6__law_is_late_right (endsD [.io xs, .dat (osD os)] q) [.io ys, .dat (osD os), .dat (nI (opt os)), w3, w4, w5, w6, w7, w8] := by
  have hd : decide (((opt os : Nat) : Int) = (((os.map Job.d).length : Nat) : Int)) = keptB os := by
    rw [← opt_keptB, List.length_map]
    congr 1
    apply propext
    omega
  have hs : strEq (if keptB os = true then "kept" else "span") "kept" = keptB os := by
    cases keptB os with
    | true => exact strEq_self _
    | false => exact strEq_ne (by decide)
  conv => whnf
  refine ⟨os, rfl, ho, fun r => ?_⟩
  conv => whnf
  refine optW_mk (show atI (PyData.str (if keptB os = true then "kept" else "span") :: r) ((0 : Nat) : Int) = some (.str (if keptB os = true then "kept" else "span")) from atI_nat rfl) ?_
  conv => whnf
  refine ⟨bool_sh _, bool_sh _, ?_⟩
  conv => whnf
  refine br_f (by
    show (!PyData.eqv (.bool (decide (((opt os : Nat) : Int) = (((os.map Job.d).length : Nat) : Int)))) (.bool (strEq (if keptB os = true then "kept" else "span") "kept"))) = false
    rw [eqv_bool, hd, hs]
    simp) ?_
  conv => whnf
  refine ⟨os, rfl, ho, fun i r hi => ?_⟩
  conv => whnf
  refine optW_mk (show atI (PyData.int i :: r) ((0 : Nat) : Int) = some (.int i) from atI_nat rfl) ?_
  conv => whnf
  refine ⟨bool_sh _, bool_sh _, ?_⟩
  conv => whnf
  refine br_f (by
    show (!PyData.eqv (.bool (decide (((opt os : Nat) : Int) = (((os.map Job.d).length : Nat) : Int)))) (.bool (decide (i ≤ 0)))) = false
    rw [eqv_bool, hd]
    cases hk : keptB os with
    | true => rw [decide_eq_true (hi.mpr hk)]; rfl
    | false => rw [decide_eq_false fun h => by rw [hi.mp h] at hk; cases hk]; rfl) ?_
  exact late7 q xs ys n os ho hP hn w3 w4 w5 w6 w7 w8 hq
theorem leaf_nats {l : List Nat} (h : ∀ x ∈ l, x < 100) : leafOkAll 8 (natsD l) = true := by
  have e : natsD l = (l.map fun n => ((n : Nat) : Int)).map PyData.int := by rw [List.map_map]; rfl
  rw [e]
  exact leaf_ints fun x hx => by
    obtain ⟨y, hy, rfl⟩ := List.mem_map.mp hx
    exact Nat.lt_trans ((Bd.nat (n := 7) (Nat.lt_of_lt_of_le (h y hy) (by decide))).log (by decide)) (by decide)
theorem bulk_nats (l : List Nat) : PyData.bulkAll (natsD l) = l.length := by
  have e : natsD l = (l.map fun n => ((n : Nat) : Int)).map PyData.int := by rw [List.map_map]; rfl
  rw [e, bulk_ints, List.length_map]
theorem depth_nats (l : List Nat) : PyData.depthAll (natsD l) = 0 := by
  have e : natsD l = (l.map fun n => ((n : Nat) : Int)).map PyData.int := by rw [List.map_map]; rfl
  rw [e, depth_ints]
theorem repr_nats {l : List Nat} (h : ∀ x ∈ l, x < 100) (hl : l.length ≤ 100) : reprOk (.tuple (natsD l)) := by
  refine reprOk_of 8 ?_ ?_ ?_
  · simp only [leafOk]
    exact leaf_nats h
  · simp only [PyData.bulk, bulk_nats]
    omega
  · simp only [PyData.depth, depth_nats]
    decide
theorem nats_sort (l : List Nat) : sortD (natsD l) = natsD (l.mergeSort fun a b => decide (a ≤ b)) := sortD_nats l
theorem late5 (q : EV → List D → Prop) (xs ys : List D) (n : Nat) (os : List Job) (ho : Ords os) (l : List Nat) (hl : l.Nodup ∧ ∀ k ∈ l, k < os.length) (hP : Pot n ys) (hn : n < 90000) (w3 w6 w7 w8 : DV) (hq : ∀ zs, Pot (n + 1) zs → q (.dat (.bool true)) zs) :
    r4__law_is_late_right (endsD [.io xs, .dat (osD os)] q) [.io ys, .dat (osD os), .dat (nI (opt os)), w3, .dat (.tuple (natsD l)), .emp, w6, w7, w8] := by
  have h20 := ho.len
  have hle := inI_le (os := os) hl.1 hl.2
  have hsub := inI_sub os l 0
  have hlen := nodup_le hl
  have hsl : (sortD (natsD (inI os 0 l))).length = (inI os 0 l).length := by rw [sortD_len, List.length_map]
  have hro : reprOk (.tuple (sortD (natsD (inI os 0 l)))) := by
    rw [nats_sort]
    refine repr_nats (fun x hx => ?_) ?_
    · have := hl.2 x (hsub.mem ((List.mergeSort_perm _ _).mem_iff.mp hx))
      omega
    · rw [List.length_mergeSort]
      have := hsub.length_le
      omega
  conv => whnf
  refine ⟨os, l, rfl, ho, hl, ?_⟩
  conv => whnf
  refine ⟨hro, ?_⟩
  conv => whnf
  refine ⟨os, l, rfl, ho, hl, ?_⟩
  conv => whnf
  refine ⟨hro, ?_⟩
  conv => whnf
  refine br_f (by rw [strEq_self]; rfl) ?_
  conv => whnf
  refine br_df (by
    show ¬ ((opt os : Nat) : Int) < (((sortD (natsD (inI os 0 l))).length : Nat) : Int)
    rw [hsl]
    omega) ?_
  exact late6 q xs ys n os ho hP hn _ _ _ _ _ _ hq
theorem perm_nats {es rest : List D} {n : Nat} (h : (es ++ rest).Perm ((List.range n).map nI)) : ∃ l : List Nat, es = natsD l ∧ l.Nodup ∧ ∀ k ∈ l, k < n := by
  have hall : ∀ d ∈ es, ∃ k, k < n ∧ d = nI k := fun d hd => by
    obtain ⟨k, hk, e⟩ := List.mem_map.mp (h.mem_iff.mp (List.mem_append_left _ hd))
    exact ⟨k, List.mem_range.mp hk, e.symm⟩
  have hnd : ((List.range n).map nI).Nodup := List.pairwise_map.mpr (List.nodup_range.imp fun {a b} h e => h (by
    have e : PyData.int ((a : Nat) : Int) = PyData.int ((b : Nat) : Int) := e
    injection e with e
    exact Int.ofNat.inj e))
  have hes := (List.nodup_append.mp (h.nodup_iff.mpr hnd)).1
  have : ∀ es : List D, (∀ d ∈ es, ∃ k, k < n ∧ d = nI k) → es.Nodup → ∃ l : List Nat, es = natsD l ∧ l.Nodup ∧ ∀ k ∈ l, k < n := fun es => by
    induction es with
    | nil => exact fun _ _ => ⟨[], rfl, List.nodup_nil, fun _ h => nomatch h⟩
    | cons d es ih =>
      intro h1 h2
      obtain ⟨k, hk, rfl⟩ := h1 d List.mem_cons_self
      obtain ⟨l, rfl, hl1, hl2⟩ := ih (fun x hx => h1 x (List.mem_cons_of_mem _ hx)) (List.nodup_cons.mp h2).2
      refine ⟨k :: l, rfl, List.nodup_cons.mpr ⟨fun q => (List.nodup_cons.mp h2).1 (List.mem_map_of_mem q), hl1⟩, fun x hx => ?_⟩
      rcases List.mem_cons.mp hx with rfl | hx
      · exact hk
      · exact hl2 x hx
  exact this es hall hes
theorem late3 (q : EV → List D → Prop) (xs ys : List D) (n : Nat) (os : List Job) (ho : Ords os) (hP : Pot n ys) (hn : n < 80000) (w3 : DV) (hq : ∀ zs, Pot (n + 30) zs → q (.dat (.bool true)) zs) :
    r3__law_is_late_right (endsD [.io xs, .dat (osD os)] q) [.io ys, .dat (osD os), .dat (nI (opt os)), w3, .emp, .emp, .emp, .emp, .emp] := by
  have h20 := ho.len
  have hlm : (os.map Job.d).length = os.length := List.length_map _
  have er : rangeD 0 (((((os.map Job.d).length : Nat) : Int)) - 0).toNat = (List.range os.length).map nI := by
    rw [hlm]
    have : (((os.length : Nat) : Int) - 0).toNat = os.length := by omega
    rw [this, range_nats]
  conv => whnf
  refine ⟨by unfold rgOk; rw [hlm]; refine ⟨by omega, by omega, by omega, by omega, by omega⟩, ?_⟩
  conv => whnf
  refine ⟨rfl, rfl, ?_⟩
  conv => whnf
  refine ⟨n, ys, os.length + 1, by rw [hlm]; rfl, hP, by omega, ⟨by omega, by omega⟩, fun m zs hm hP1 => ?_⟩
  conv => whnf
  refine ⟨rfl, rfl, ?_⟩
  refine ⟨n + 1, zs, (List.range os.length).map nI, m, by rw [← er], hP1, by omega, ⟨by rw [List.length_map, List.length_range]; omega, by rw [List.length_map, List.length_range]; omega⟩, fun es rest us hp hle hP2 => ?_⟩
  obtain ⟨l, rfl, hl1, hl2⟩ := perm_nats hp
  have hll := nodup_le ⟨hl1, hl2⟩
  conv => whnf
  refine ⟨by rw [List.length_map, sizeLine_eq]; omega, ?_⟩
  refine comp_map nI nI trivial l [] (fun k hk acc ds h => ?_) ?_
  · conv => whnf
    refine ⟨trivial, ?_⟩
    exact h
  rw [List.nil_append]
  exact late5 q xs us (n + 1 + m) os ho l ⟨hl1, hl2⟩ hP2 (by omega) _ _ _ _ fun vs hv => hq vs (hv.mono (by omega))
theorem late_lens (os : List Job) : (lateN os).length + opt os = os.length := by
  have p := (late_perm os).symm.length_eq
  have := mhL_perm (zs os) ([], []) 0 [0] MH.start (fun _ _ => Nat.zero_le _) (zs_sorted os) (zs_nodup os) (fun _ _ => by simp)
  rw [mhL_is] at this
  have := this.length_eq
  rw [List.length_append, List.length_append, List.length_map, List.length_map, zs_len] at this
  simp at this
  rw [p]
  unfold opt
  omega
theorem lateN_lt {os : List Job} {k : Nat} (h : k ∈ lateN os) : k < os.length := List.mem_range.mp (List.mem_filter.mp h).1
theorem repr_late {os : List Job} (ho : Ords os) : reprOk (lateD os) := by
  have h20 := ho.len
  have h1 := late_lens os
  have h2 := mhN_len os
  refine reprOk_of 8 ?_ ?_ ?_
  · simp only [lateD, leafOk, leafOkAll, Bool.and_true, Bool.and_eq_true]
    exact ⟨leaf_nats fun x hx => by have := lateN_lt hx; omega, leaf_nats fun x hx => by have := mhN_lt hx; omega⟩
  · simp only [lateD, PyData.bulk, PyData.bulkAll, bulk_nats]
    omega
  · simp only [lateD, PyData.depth, PyData.depthAll, depth_nats]
    decide
theorem ok__law_is_late_right : ∀ as q, sp__law_is_late_right as q → t__law_is_late_right (endsD as q) (startD N__law_is_late_right.length as) := by
  rintro _ q ⟨n, xs, os, rfl, hP, hn, ho, hq⟩
  have h20 := ho.len
  have hro := repr_late ho
  have hml := mhN_len os
  have hll := late_lens os
  have hol := opt_le os
  conv => whnf
  refine ⟨os, rfl, ho, ?_⟩
  conv => whnf
  refine ⟨os, rfl, ho, ?_⟩
  conv => whnf
  refine ⟨rfl, ?_⟩
  conv => whnf
  refine ⟨sz2, ?_⟩
  show r1__law_is_late_right _ [.io xs, .dat (osD os), .dat (nI (opt os)), .dat (lateD os), .emp, .emp, .emp, .emp, .emp]
  conv => whnf
  refine ⟨hro, ?_⟩
  conv => whnf
  refine ⟨os, rfl, ho, ?_⟩
  conv => whnf
  refine ⟨hro, ?_⟩
  conv => whnf
  refine br_f (by rw [strEq_self]; rfl) ?_
  conv => whnf
  refine br_nf (by show (((natsD (mhN os)).length : Nat) : Int) = _; rw [List.length_map, hml]) ?_
  conv => whnf
  refine br_nf (by
    show (((natsD (lateN os)).length : Nat) : Int) + ((opt os : Nat) : Int) = (((os.map Job.d).length : Nat) : Int)
    rw [List.length_map, List.length_map]
    omega) ?_
  conv => whnf
  refine ⟨os, mhN os, rfl, ho, ⟨mhN_nodup os, fun k => mhN_lt⟩, ?_⟩
  rw [inI_mh]
  conv => whnf
  refine ⟨⟨by rw [List.length_map]; omega, (Ints.nats _).sort⟩, ?_⟩
  have hns := nats_sort (mhN os)
  conv => whnf
  refine ⟨by rw [hns]; exact (Ints.nats _).shT, by rw [hns]; exact (Ints.nats _).shT, ?_⟩
  conv => whnf
  refine br_f (by
    show (!PyData.eqv (.tuple (sortD (natsD (mhN os)))) (.tuple (sortD (natsD (mhN os))))) = false
    rw [hns]
    unfold PyData.eqv
    rw [eqvAll_nats]
    simp) ?_
  exact late3 q xs xs n os ho hP hn _ hq

end K23
set_option Elab.async false
set_option linter.all false
set_option maxRecDepth 100000
set_option maxHeartbeats 400000
namespace K23
open PySem L2 DL
open PyProof.Rows (boot_repr boot_sum boot_all boot_any boot_max boot_min boot_abs boot_int boot_list boot_tuple boot_sorted)
theorem len__law_is_wait_right : ∀ as q, sp__law_is_wait_right as q → as.length = 2 := fun _ _ ⟨_, _, _, h, _⟩ => by rw [h]; rfl
theorem mi_pos {os : List Job} (ho : Ords os) : ∀ k, k < os.length → 0 < mi os k := fun k hk => (ho.job _ (gj_mem hk)).2.1
abbrev smi (os : List Job) (ws : List Nat) : List Nat := smith (wt ws) (mi os) os.length
theorem smi_perm {os : List Job} (ho : Ords os) (ws : List Nat) : (smi os ws).Perm (List.range os.length) := (smith_is (wt ws) (mi_pos ho)).2
theorem smi_lt {os : List Job} (ho : Ords os) {ws : List Nat} {k : Nat} (h : k ∈ smi os ws) : k < os.length := List.mem_range.mp ((smi_perm ho ws).mem_iff.mp h)
theorem smi_len {os : List Job} (ho : Ords os) (ws : List Nat) : (smi os ws).length = os.length := by rw [(smi_perm ho ws).length_eq, List.length_range]
theorem smi_le {os : List Job} (ho : Ords os) {ws l : List Nat} (p : l.Perm (smi os ws)) : costD os ws (smi os ws) ≤ costD os ws l := smith_least (mi_pos ho) (p.trans (smi_perm ho ws))
def thrice (os : List Job) : List Job := os.map fun j => (min 1000000 (3 * j.1), 3 * j.2)
theorem thrice_ok {os : List Job} (ho : Ords os) (hs : ∀ j ∈ os, j.2 ≤ 300000) : Ords (thrice os) := ⟨by unfold thrice; rw [List.length_map]; exact ho.pos, by unfold thrice; rw [List.length_map]; exact ho.len, fun j hj => by
  obtain ⟨x, hx, rfl⟩ := List.mem_map.mp hj
  have h1 := ho.job x hx
  have h2 := hs x hx
  exact ⟨by show min 1000000 (3 * x.1) ≤ _; omega, by show 0 < 3 * x.2; omega, by show 3 * x.2 ≤ _; omega⟩⟩
theorem thrice_mi {os : List Job} {k : Nat} (h : k < os.length) : mi (thrice os) k = 3 * mi os k := by
  have : (thrice os)[k]? = some (min 1000000 (3 * (gj os k).1), 3 * (gj os k).2) := by
    unfold thrice
    rw [List.getElem?_map, gj_get h]
    rfl
  show (gj (thrice os) k).2 = _
  rw [gj_at this]
theorem thrice_cost {os : List Job} {ws l : List Nat} (h : ∀ k ∈ l, k < os.length) : costD (thrice os) ws l = 3 * costD os ws l := by
  unfold costD
  rw [cost_congr (w' := wt ws) (m' := fun k => 3 * mi os k) l 0 fun k hk => ⟨rfl, thrice_mi (h k hk)⟩]
  exact cost_m 3 l 0
theorem cost3 {os : List Job} (ho : Ords os) (hs : ∀ j ∈ os, j.2 ≤ 300000) (ws : List Nat) : costD (thrice os) ws (smi (thrice os) ws) = 3 * costD os ws (smi os ws) := by
  have ho3 := thrice_ok ho hs
  have el : (thrice os).length = os.length := by unfold thrice; rw [List.length_map]
  have p1 := smi_perm ho ws
  have p2 := smi_perm ho3 ws
  have h1 := smi_le ho3 (ws := ws) (p1.trans (by rw [← el]; exact p2.symm))
  have h2 := smi_le ho (ws := ws) (p2.trans (by rw [el]; exact p1.symm))
  rw [thrice_cost fun k hk => smi_lt ho hk] at h1
  have h3 : costD (thrice os) ws (smi (thrice os) ws) = 3 * costD os ws (smi (thrice os) ws) := thrice_cost fun k hk => by
    have := smi_lt ho3 hk
    rw [el] at this
    exact this
  omega
theorem twice_cost {os : List Job} {ws l : List Nat} (h : ∀ k ∈ l, k < ws.length) : costD os (ws.map (2 * ·)) l = 2 * costD os ws l := by
  unfold costD
  rw [cost_congr (w' := fun k => 2 * wt ws k) (m' := mi os) l 0 fun k hk => ⟨?_, rfl⟩]
  · exact cost_w 2 l 0
  · show (ws.map (2 * ·)).getD k 0 = 2 * ws.getD k 0
    rw [List.getD_eq_getElem?_getD, List.getD_eq_getElem?_getD, List.getElem?_map, List.getElem?_eq_getElem (h k hk)]
    rfl
theorem cost2 {os : List Job} (ho : Ords os) {ws : List Nat} (hw : ws.length = os.length) : costD os (ws.map (2 * ·)) (smi os (ws.map (2 * ·))) = 2 * costD os ws (smi os ws) := by
  have p1 := smi_perm ho ws
  have p2 := smi_perm ho (ws.map (2 * ·))
  have h1 := smi_le ho (p1.trans p2.symm)
  have h2 := smi_le ho (p2.trans p1.symm)
  have e1 := twice_cost (os := os) (ws := ws) (l := smi os ws) fun k hk => by have := smi_lt ho hk; omega
  have e2 := twice_cost (os := os) (ws := ws) (l := smi os (ws.map (2 * ·))) fun k hk => by have := smi_lt ho hk; omega
  omega
def toldD (os : List Job) (ws : List Nat) : D := .tuple [nI (costD os ws (smi os ws)), .tuple (natsD (smi os ws))]
theorem wait10 (q : EV → List D → Prop) (xs ys : List D) (os : List Job) (ws : List Nat) (ho : Ords os) (hs : ∀ j ∈ os, j.2 ≤ 300000) (hw : Wts os ws) (w4 w5 w6 w7 w8 w9 w10 w11 w12 w13 w14 w15 : DV) (hq : q (.dat (.bool true)) ys) :
    r10__law_is_wait_right (endsD [.io xs, .dat (osD os)] q) [.io ys, .dat (osD os), .dat (.list (natsD ws)), .dat (toldD os ws), w4, w5, w6, w7, w8, w9, w10, w11, w12, w13, w14, w15] := by
  have e6 : (10 : Int) ^ Int.toNat 6 = 1000000 := by decide
  have h3 := cost3 ho hs ws
  have ho3 := thrice_ok ho hs
  have hw3 : Wts (thrice os) ws := ⟨by rw [hw.1]; unfold thrice; rw [List.length_map], hw.2⟩
  conv => whnf
  refine ⟨ho.szl, ?_⟩
  refine comp_map Job.d (fun j => .tuple [.int 0, .int (min (10 ^ Int.toNat 6) (3 * ((j.1 : Nat) : Int))), .int (3 * ((j.2 : Nat) : Int))]) trivial os [] (fun p hp acc ds h => ?_) ?_
  · conv => whnf
    refine ⟨trivial, ?_⟩
    conv => whnf
    refine ⟨rfl, ?_⟩
    conv => whnf
    refine ⟨rfl, ?_⟩
    conv => whnf
    refine ⟨by unfold powOk; decide +kernel, ?_⟩
    conv => whnf
    refine ⟨mulOkL (by decide) (by decide), ?_⟩
    conv => whnf
    refine ⟨mulOkL (by decide) (by decide), ?_⟩
    conv => whnf
    refine ⟨sz 3 (by decide), ?_⟩
    exact h
  have et : (.tuple ([] ++ os.map fun j => .tuple [.int 0, .int (min (10 ^ Int.toNat 6) (3 * ((j.1 : Nat) : Int))), .int (3 * ((j.2 : Nat) : Int))]) : D) = osD (thrice os) := by
    unfold osD thrice
    rw [List.nil_append, List.map_map]
    congr 1
    refine List.map_congr_left fun j _ => ?_
    show _ = Job.d (min 1000000 (3 * j.1), 3 * j.2)
    unfold Job.d
    rw [e6]
    have e1 : (min (1000000 : Int) (3 * ((j.1 : Nat) : Int))) = ((min 1000000 (3 * j.1) : Nat) : Int) := by omega
    rw [e1]
    rfl
  conv => whnf
  rw [et]
  refine ⟨thrice os, ws, rfl, ho3, hw3, ?_⟩
  conv => whnf
  refine ⟨mulOkL (by decide) (by decide), ?_⟩
  have ed : decide ((((costD (thrice os) ws (smi (thrice os) ws) : Nat)) : Int) = 3 * ((costD os ws (smi os ws) : Nat) : Int)) = true := decide_eq_true (by rw [h3]; omega)
  have := hq
  rw [← ed] at this
  exact this
theorem wait9 (q : EV → List D → Prop) (xs ys : List D) (os : List Job) (ws : List Nat) (ho : Ords os) (hs : ∀ j ∈ os, j.2 ≤ 300000) (hw : Wts os ws) (w4 w5 w6 w7 w8 w9 w10 w11 w13 w14 w15 : DV) (hq : q (.dat (.bool true)) ys) :
    r9__law_is_wait_right (endsD [.io xs, .dat (osD os)] q) [.io ys, .dat (osD os), .dat (.list (natsD ws)), .dat (toldD os ws), w4, w5, w6, w7, w8, w9, w10, w11, .emp, w13, w14, w15] := by
  have h20 := ho.len
  have h0 := ho.pos
  have hwl := hw.1
  have fin := wait10 q xs ys os ws ho hs hw w4 w5 w6 w7 w8 w9 w10 w11 .emp w13 w14 w15 hq
  obtain ⟨x, wr, ew⟩ : ∃ x wr, ws = x :: wr := by
    cases ws with
    | nil => simp at hwl; omega
    | cons x wr => exact ⟨x, wr, rfl⟩
  have e1 : natsD wr = (wr.map fun n => ((n : Nat) : Int)).map PyData.int := by rw [List.map_map]; rfl
  have e2 : maxOf (nI x) (natsD wr) = .int ((wr.map fun n => ((n : Nat) : Int)).foldl max ((x : Nat) : Int)) := by rw [e1, maxOf_ints]
  obtain ⟨g1, g2, g3⟩ := foldl_max (wr.map fun n => ((n : Nat) : Int)) ((x : Nat) : Int)
  have ed : (.dat (.list (natsD ws)) : DV) = .dat (.list (nI x :: natsD wr)) := by rw [ew]; rfl
  have hal : alikeM (nI x :: natsD wr) := (Ints.nats (x :: wr)).mm
  rw [ed] at fin ⊢
  conv => whnf
  refine ⟨hal, ?_⟩
  rw [e2]
  conv => whnf
  refine br_d (fun hc => ?_) (fun hc => ?_)
  · have hall : ∀ y ∈ ws, y ≤ 500 := fun y hy => by
      rw [ew] at hy
      rcases List.mem_cons.mp hy with rfl | hy
      · have : ((y : Nat) : Int) ≤ 500 := Int.le_trans g2 hc
        omega
      · have : ((y : Nat) : Int) ≤ 500 := Int.le_trans (g3 _ (List.mem_map.mpr ⟨y, hy, rfl⟩)) hc
        omega
    have hw2 : Wts os (ws.map (2 * ·)) := ⟨by rw [List.length_map]; exact hwl, fun y hy => by
      obtain ⟨z, hz, rfl⟩ := List.mem_map.mp hy
      have := hall z hz
      show 2 * z ≤ 1000
      omega⟩
    have hc2 := cost2 ho hwl
    have en : natsD ws = nI x :: natsD wr := by rw [ew]; rfl
    conv => whnf
    refine ⟨by show (natsD wr).length + 1 ≤ sizeLine; rw [List.length_map, sizeLine_eq]; rw [ew, List.length_cons] at hwl; omega, ?_⟩
    rw [← en]
    refine comp_map nI (fun y => nI (2 * y)) trivial ws [] (fun p hp acc ds h => ?_) ?_
    · conv => whnf
      refine ⟨trivial, ?_⟩
      conv => whnf
      refine ⟨mulOkL (by decide) (by decide), ?_⟩
      exact h
    have e3 : [] ++ ws.map (fun y => nI (2 * y)) = natsD (ws.map (2 * ·)) := by rw [natsD, List.map_map]; rfl
    rw [e3]
    conv => whnf
    refine ⟨os, ws.map (2 * ·), rfl, ho, hw2, ?_⟩
    conv => whnf
    refine ⟨mulOkL (by decide) (by decide), ?_⟩
    conv => whnf
    refine br_nf (by show (((costD os (ws.map (2 * ·)) (smi os (ws.map (2 * ·))) : Nat)) : Int) = 2 * ((costD os ws (smi os ws) : Nat) : Int); rw [hc2]; omega) ?_
    rw [en]
    exact fin
  · exact fin
theorem near_perm : ∀ (S : List Nat) (i : Nat) (h : i + 1 < S.length), (S.take i ++ [S[i + 1], S[i]] ++ S.drop (i + 2)).Perm S := fun S i h => by
  have e : S = S.take i ++ (S[i] :: S[i + 1] :: S.drop (i + 2)) := by
    rw [List.getElem_cons_drop, List.getElem_cons_drop, List.take_append_drop]
  conv => rhs; rw [e]
  rw [List.append_assoc]
  exact List.Perm.append_left _ (List.Perm.swap _ _ _)
/-- the line told, and what it comes to -/
structure Told (os : List Job) (ws S : List Nat) (C : Nat) : Prop where
  perm : S.Perm (List.range os.length)
  eq : C = costD os ws S
  best : ∀ l, l.Perm S → C ≤ costD os ws l
def tolD (S : List Nat) (C : Nat) : D := .tuple [nI C, .tuple (natsD S)]
theorem Told.len {os : List Job} {ws S : List Nat} {C : Nat} (t : Told os ws S C) : S.length = os.length := by rw [t.perm.length_eq, List.length_range]
theorem Told.lt {os : List Job} {ws S : List Nat} {C : Nat} (t : Told os ws S C) {k : Nat} (h : k ∈ S) : k < os.length := List.mem_range.mp (t.perm.mem_iff.mp h)
theorem told_smi {os : List Job} (ho : Ords os) (ws : List Nat) : Told os ws (smi os ws) (costD os ws (smi os ws)) := ⟨smi_perm ho ws, rfl, fun l p => smi_le ho p⟩
theorem wait8_for (E : DEnds) (io : DV) (os : List Job) (ws S : List Nat) (C : Nat) (ho : Ords os) (hw : Wts os ws) (t : Told os ws S C) (w4 w6 w7 w8 w10 w11 w12 w13 w14 w15 : DV) : ∀ (l : List Nat) (w5 w9 : DV), (∀ i ∈ l, i + 1 < os.length) →
    (∀ w5 w9, E.nx [io, .dat (osD os), .dat (.list (natsD ws)), .dat (tolD S C), w4, w5, w6, w7, w8, w9, w10, w11, w12, w13, w14, w15]) →
    forW (gdName 5) b3__law_is_wait_right E (natsD l) [io, .dat (osD os), .dat (.list (natsD ws)), .dat (tolD S C), w4, w5, w6, w7, w8, w9, w10, w11, w12, w13, w14, w15]
  | [], w5, w9, _, h => h w5 w9
  | i :: l, w5, w9, hi, h => by
    have h20 := ho.len
    have hlS := t.len
    have hi1 := hi i List.mem_cons_self
    have hS : i + 1 < S.length := by omega
    have hp := near_perm S i hS
    have hle := t.best _ hp
    have hlt : ∀ k ∈ S.take i ++ [S[i + 1], S[i]] ++ S.drop (i + 2), k < os.length := fun k hk => t.lt (hp.mem_iff.mp hk)
    have hnl := hp.length_eq
    have e1 : cutD (natsD S) none (some ((i : Nat) : Int)) = natsD (S.take i) := by rw [cut_take, natsD, natsD, List.map_take]
    have e2 : cutD (natsD S) (some (((i : Nat) : Int) + 2)) none = natsD (S.drop (i + 2)) := by
      have : cutD (natsD S) (some (((i + 2 : Nat) : Int))) none = natsD (S.drop (i + 2)) := by rw [cut_drop, natsD, natsD, List.map_drop]
      exact this
    have a1 : atI (natsD S) (((i : Nat) : Int) + 1) = some (nI S[i + 1]) := by
      have : atI (natsD S) (((i + 1 : Nat) : Int)) = some (nI S[i + 1]) := atI_map (List.getElem?_eq_getElem hS)
      exact this
    have a2 : atI (natsD S) ((i : Nat) : Int) = some (nI S[i]) := atI_map (List.getElem?_eq_getElem (by omega))
    have en : natsD (S.take i) ++ [nI S[i + 1], nI S[i]] ++ natsD (S.drop (i + 2)) = natsD (S.take i ++ [S[i + 1], S[i]] ++ S.drop (i + 2)) := by
      simp [natsD]
    rw [List.length_append, List.length_append] at hnl
    have hl1 : (natsD (S.take i)).length + 2 ≤ sizeLine := by
      rw [List.length_map, sizeLine_eq]
      have : [S[i + 1], S[i]].length = 2 := rfl
      omega
    have hl2 : (natsD (S.take i) ++ [nI S[i + 1], nI S[i]]).length + (natsD (S.drop (i + 2))).length ≤ sizeLine := by
      rw [List.length_append, List.length_map, List.length_map, sizeLine_eq]
      have e1 : [S[i + 1], S[i]].length = 2 := rfl
      have e2 : [nI S[i + 1], nI S[i]].length = 2 := rfl
      omega
    have ih := fun w9 => wait8_for E io os ws S C ho hw t w4 w6 w7 w8 w10 w11 w12 w13 w14 w15 l (.dat (nI i)) w9 (fun x hx => hi x (List.mem_cons_of_mem _ hx)) h
    show forW (gdName 5) b3__law_is_wait_right E (nI i :: natsD l) _
    conv => whnf
    refine optW_mk a1 ?_
    conv => whnf
    refine optW_mk a2 ?_
    conv => whnf
    refine ⟨sz2, ?_⟩
    conv => whnf
    refine ⟨by rw [e1]; exact hl1, ?_⟩
    rw [e1]
    conv => whnf
    refine ⟨by rw [e2]; exact hl2, ?_⟩
    rw [e2, en]
    conv => whnf
    refine ⟨os, ws, .tuple (natsD (S.take i ++ [S[i + 1], S[i]] ++ S.drop (i + 2))), S.take i ++ [S[i + 1], S[i]] ++ S.drop (i + 2), rfl, ho, hw, .inr rfl, hlt, ?_⟩
    conv => whnf
    refine br_df (by omega) ?_
    exact ih _
theorem wait8 (q : EV → List D → Prop) (xs ys : List D) (os : List Job) (ws : List Nat) (ho : Ords os) (hs : ∀ j ∈ os, j.2 ≤ 300000) (hw : Wts os ws) (w5 w6 w7 w8 w9 w10 w11 w13 w14 w15 : DV) (hq : q (.dat (.bool true)) ys) :
    r8__law_is_wait_right (endsD [.io xs, .dat (osD os)] q) [.io ys, .dat (osD os), .dat (.list (natsD ws)), .dat (toldD os ws), .dat (.list (natsD (smi os ws))), w5, w6, w7, w8, w9, w10, w11, .emp, w13, w14, w15] := by
  have h20 := ho.len
  have h0 := ho.pos
  have t := told_smi ho ws
  have hl := t.len
  have hlD : (natsD (smi os ws)).length = os.length := by rw [List.length_map]; exact hl
  have fin := fun w5 w9 => wait9 q xs ys os ws ho hs hw (.dat (.list (natsD (smi os ws)))) w5 w6 w7 w8 w9 w10 w11 w13 w14 w15 hq
  have fin2 := wait8_for { endsD [.io xs, .dat (osD os)] q with nx := r9__law_is_wait_right (endsD [.io xs, .dat (osD os)] q) } (.io ys) os ws (smi os ws) _ ho hw t (.dat (.list (natsD (smi os ws)))) w6 w7 w8 w10 w11 .emp w13 w14 w15 (List.range (os.length - 1)) w5 w9 (fun i hi => by have := List.mem_range.mp hi; omega) fin
  have er : rangeD 0 ((((natsD (smi os ws)).length : Nat) : Int) - 1).toNat = natsD (List.range (os.length - 1)) := by
    rw [hlD]
    have : (((os.length : Nat) : Int) - 1).toNat = os.length - 1 := by omega
    rw [this, range_nats]
  conv => whnf
  refine ⟨by rw [hlD]; omega, ?_⟩
  conv => whnf
  refine ⟨by rw [hlD]; omega, ?_⟩
  show forW _ _ _ (rangeD 0 ((((natsD (smi os ws)).length : Nat) : Int) - 1).toNat) _
  rw [er]
  exact fin2
theorem perm_full {es rest : List D} {S : List Nat} (h : (es ++ rest).Perm (natsD S)) (hl : es.length = S.length) : ∃ l : List Nat, es = natsD l ∧ l.Perm S := by
  have hr : rest = [] := by
    have := h.length_eq
    rw [List.length_append, List.length_map] at this
    exact List.length_eq_zero_iff.mp (by omega)
  rw [hr, List.append_nil] at h
  refine ⟨es.map fun d => match d with | .int i => i.toNat | _ => 0, ?_, ?_⟩
  · rw [natsD, List.map_map]
    conv => lhs; rw [← List.map_id es]
    refine List.map_congr_left fun d hd => ?_
    obtain ⟨k, _, rfl⟩ := List.mem_map.mp (h.mem_iff.mp hd)
    rfl
  · have := h.map fun d => match d with | PyData.int i => i.toNat | _ => 0
    rw [natsD, List.map_map] at this
    refine this.trans ?_
    have e : S.map ((fun d => match d with | PyData.int i => i.toNat | _ => 0) ∘ nI) = S := by
      conv => rhs; rw [← List.map_id S]
      exact List.map_congr_left fun k _ => rfl
    rw [e]
theorem wait7_for (E : DEnds) (os : List Job) (ws S : List Nat) (C : Nat) (ho : Ords os) (hw : Wts os ws) (t : Told os ws S C) (w5 w6 w9 w10 w11 w12 w13 w14 w15 : DV) : ∀ (k n : Nat) (i : Int) (ys : List D) (w7 w8 : DV), Pot n ys → n + 20 * k < 85000 →
    (∀ zs w7 w8, Pot (n + 20 * k) zs → E.nx [.io zs, .dat (osD os), .dat (.list (natsD ws)), .dat (tolD S C), .dat (.list (natsD S)), w5, w6, w7, w8, w9, w10, w11, w12, w13, w14, w15]) →
    forW (gdName 7) b2__law_is_wait_right E (rangeD i k) [.io ys, .dat (osD os), .dat (.list (natsD ws)), .dat (tolD S C), .dat (.list (natsD S)), w5, w6, w7, w8, w9, w10, w11, w12, w13, w14, w15]
  | 0, n, i, ys, w7, w8, hP, _, h => by
    rw [rangeD_zero]
    exact h ys w7 w8 hP
  | k + 1, n, i, ys, w7, w8, hP, hn, h => by
    rw [rangeD_succ]
    have h20 := ho.len
    have hlS := t.len
    have hlD : (natsD S).length = S.length := List.length_map _
    conv => whnf
    refine ⟨rfl, rfl, ?_⟩
    conv => whnf
    refine ⟨n, ys, natsD S, S.length, by rw [hlD], hP, by omega, ⟨by rw [hlD]; omega, by rw [hlD]; omega⟩, fun es rest zs hp hle hP' => ?_⟩
    obtain ⟨l, rfl, hpl⟩ := perm_full hp hle
    have hll := hpl.length_eq
    have hb := t.best l hpl
    conv => whnf
    refine ⟨by rw [List.length_map, sizeLine_eq]; omega, ?_⟩
    refine comp_map nI nI trivial l [] (fun x hx acc ds h => ?_) ?_
    · conv => whnf
      refine ⟨trivial, ?_⟩
      exact h
    rw [List.nil_append]
    conv => whnf
    refine ⟨os, ws, .list (natsD l), l, rfl, ho, hw, .inl rfl, fun x hx => t.lt (hpl.mem_iff.mp hx), ?_⟩
    conv => whnf
    refine br_df (by omega) ?_
    exact wait7_for E os ws S C ho hw t w5 w6 w9 w10 w11 w12 w13 w14 w15 k (n + 20) (i + 1) zs _ _ (hP'.mono (by omega)) (by omega) fun us w7 w8 hu => h us w7 w8 (by
      have e : n + 20 * (k + 1) = n + 20 + 20 * k := by omega
      rw [e]; exact hu)
theorem wait6 (q : EV → List D → Prop) (xs ys : List D) (n : Nat) (os : List Job) (ws : List Nat) (ho : Ords os) (hs : ∀ j ∈ os, j.2 ≤ 300000) (hw : Wts os ws) (hP : Pot n ys) (hn : n < 84000) (w5 w6 w7 w8 w9 w10 w11 w13 w14 w15 : DV) (hq : ∀ zs, Pot (n + 60) zs → q (.dat (.bool true)) zs) :
    r6__law_is_wait_right (endsD [.io xs, .dat (osD os)] q) [.io ys, .dat (osD os), .dat (.list (natsD ws)), .dat (toldD os ws), .own (natsD (smi os ws)), w5, w6, w7, w8, w9, w10, w11, .emp, w13, w14, w15] := by
  have t := told_smi ho ws
  conv => whnf
  refine ⟨os, ws, .list (natsD (smi os ws)), smi os ws, rfl, ho, hw, .inl rfl, fun x hx => t.lt hx, ?_⟩
  conv => whnf
  refine br_nf rfl ?_
  conv => whnf
  refine ⟨by decide, ?_⟩
  conv => whnf
  refine ⟨by decide, ?_⟩
  exact wait7_for { endsD [.io xs, .dat (osD os)] q with nx := r8__law_is_wait_right (endsD [.io xs, .dat (osD os)] q) } os ws (smi os ws) _ ho hw t w5 w6 w9 w10 w11 .emp w13 w14 w15 3 n 0 ys w7 w8 hP (by omega) fun zs w7 w8 hz => wait8 q xs zs os ws ho hs hw w5 w6 w7 w8 w9 w10 w11 w13 w14 w15 (hq zs hz)
theorem b1_for (E : DEnds) (io : DV) (os : List Job) (ws : List Nat) (ho : Ords os) (hw : Wts os ws) (w3 w7 w8 w9 w10 w11 w13 w14 w15 : DV) : ∀ (r l : List Nat) (w5 w6 : DV), (∀ k ∈ r, k < os.length) → (∀ k ∈ l, k < os.length) → Smith (wt ws) (mi os) l → l.length + r.length ≤ 100 →
    (∀ w5 w6, E.nx [io, .dat (osD os), .dat (.list (natsD ws)), w3, .own (natsD (r.foldl (fun l k => insS (wt ws) (mi os) k l) l)), w5, w6, w7, w8, w9, w10, w11, .emp, w13, w14, w15]) →
    forW (gdName 5) b1__law_is_wait_right E (natsD r) [io, .dat (osD os), .dat (.list (natsD ws)), w3, .own (natsD l), w5, w6, w7, w8, w9, w10, w11, .emp, w13, w14, w15]
  | [], l, w5, w6, _, _, _, _, h => h w5 w6
  | k :: r, l, w5, w6, hr, hl, hsm, hlen, h => by
    have hk := hr k List.mem_cons_self
    obtain ⟨wk1, wk2⟩ := hw.le hk
    rw [List.length_cons] at hlen
    have hpl := pl_count (w := wt ws) (m := mi os) (k := k) (fun x hx => mi_pos ho x (hl x hx)) hsm
    have hple := pl_le (wt ws) (mi os) k l
    have ih := fun w5 w6 => b1_for E io os ws ho hw w3 w7 w8 w9 w10 w11 w13 w14 w15 r (insS (wt ws) (mi os) k l) w5 w6 (fun x hx => hr x (List.mem_cons_of_mem _ hx)) (fun x hx => by
      rcases List.mem_cons.mp ((insS_perm (wt ws) (mi os) k l).mem_iff.mp hx) with q | q
      · rw [q]; exact hk
      · exact hl x q) (insS_smith (fun x hx => mi_pos ho x (hl x hx)) hsm) (by rw [(insS_perm (wt ws) (mi os) k l).length_eq, List.length_cons]; omega) h
    rw [← insS_pl, natsD_ins] at ih
    show forW (gdName 5) b1__law_is_wait_right E (nI k :: natsD r) _
    conv => whnf
    refine ⟨by show (natsD l).length ≤ sizeLine; rw [List.length_map, sizeLine_eq]; omega, ?_⟩
    refine comp_filter nI nI (fun x => decide (wt ws k * mi os x ≤ wt ws x * mi os k)) (by rfl) l [] (fun x hx acc ds h1 h2 => ?_) ?_
    · have hxl := hl x hx
      obtain ⟨wx1, wx2⟩ := hw.le hxl
      conv => whnf
      refine ⟨rfl, ?_⟩
      conv => whnf
      refine optW_mk (at_nats wx1) ?_
      conv => whnf
      refine optW_mk (at_os hk) ?_
      conv => whnf
      refine ⟨mulOkL (by omega) (by omega), ?_⟩
      conv => whnf
      refine optW_mk (at_nats wk1) ?_
      conv => whnf
      refine optW_mk (at_os hxl) ?_
      conv => whnf
      refine ⟨mulOkL (by omega) (by omega), ?_⟩
      conv => whnf
      refine br_d (fun hc => ?_) (fun hc => ?_)
      · conv => whnf
        refine h1 (decide_eq_true ?_)
        have hc : ((ws.getD k 0 : Nat) : Int) * (((gj os x).2 : Nat) : Int) ≤ ((ws.getD x 0 : Nat) : Int) * (((gj os k).2 : Nat) : Int) := hc
        rw [← Int.natCast_mul, ← Int.natCast_mul] at hc
        exact Int.ofNat_le.mp hc
      · conv => whnf
        refine h2 (decide_eq_false fun hq => hc ?_)
        show ((ws.getD k 0 : Nat) : Int) * (((gj os x).2 : Nat) : Int) ≤ ((ws.getD x 0 : Nat) : Int) * (((gj os k).2 : Nat) : Int)
        rw [← Int.natCast_mul, ← Int.natCast_mul]
        exact Int.ofNat_le.mpr hq
    have el : ([] ++ (l.filter fun x => decide (wt ws k * mi os x ≤ wt ws x * mi os k)).map nI).length = pl (wt ws) (mi os) k l := by
      rw [List.nil_append, List.length_map]
      exact hpl
    conv => whnf
    refine ⟨by omega, by rw [el]; omega, by show (natsD l).length < sizeLine; rw [List.length_map, sizeLine_eq]; omega, ?_⟩
    rw [el]
    exact ih _ _
theorem wait4 (q : EV → List D → Prop) (xs ys : List D) (n : Nat) (os : List Job) (ws : List Nat) (ho : Ords os) (hs : ∀ j ∈ os, j.2 ≤ 300000) (hw : Wts os ws) (hP : Pot n ys) (hn : n < 84000) (hq : ∀ zs, Pot (n + 60) zs → q (.dat (.bool true)) zs) :
    r4__law_is_wait_right (endsD [.io xs, .dat (osD os)] q) [.io ys, .dat (osD os), .dat (.list (natsD ws)), .dat (toldD os ws), .emp, .emp, .emp, .emp, .emp, .emp, .emp, .emp, .emp, .emp, .emp, .emp] := by
  have h20 := ho.len
  have hlm : (os.map Job.d).length = os.length := List.length_map _
  conv => whnf
  refine ⟨Nat.zero_le _, ?_⟩
  conv => whnf
  refine ⟨by rw [hlm]; omega, ?_⟩
  conv => whnf
  refine ⟨by rw [hlm]; omega, ?_⟩
  have er : rangeD 0 ((((os.map Job.d).length : Nat) : Int)).toNat = natsD (List.range os.length) := by
    rw [hlm]
    have : (((os.length : Nat) : Int)).toNat = os.length := by omega
    rw [this, range_nats]
  show forW _ _ _ (rangeD 0 ((((os.map Job.d).length : Nat) : Int)).toNat) _
  rw [er]
  exact b1_for { endsD [.io xs, .dat (osD os)] q with nx := r6__law_is_wait_right (endsD [.io xs, .dat (osD os)] q) } (.io ys) os ws ho hw _ .emp .emp .emp .emp .emp .emp .emp .emp (List.range os.length) [] .emp .emp (fun k hk => List.mem_range.mp hk) (fun _ h => nomatch h) List.Pairwise.nil (by rw [List.length_range]; simp; omega) fun w5 w6 =>
    wait6 q xs ys n os ws ho hs hw hP hn w5 w6 .emp .emp .emp .emp .emp .emp .emp .emp hq
theorem wait3 (q : EV → List D → Prop) (xs ys : List D) (n : Nat) (os : List Job) (ws : List Nat) (ho : Ords os) (hs : ∀ j ∈ os, j.2 ≤ 300000) (hw : Wts os ws) (hP : Pot n ys) (hn : n < 84000) (hq : ∀ zs, Pot (n + 60) zs → q (.dat (.bool true)) zs) :
    r2__law_is_wait_right (endsD [.io xs, .dat (osD os)] q) [.io ys, .dat (osD os), .own (natsD ws), .emp, .emp, .emp, .emp, .emp, .emp, .emp, .emp, .emp, .emp, .emp, .emp, .emp] := by
  have h20 := ho.len
  have hlm : (os.map Job.d).length = os.length := List.length_map _
  have t := told_smi ho ws
  have hsl := t.len
  have er : rangeD 0 (((((os.map Job.d).length : Nat) : Int)) - 0).toNat = natsD (List.range os.length) := by
    rw [hlm]
    have : (((os.length : Nat) : Int) - 0).toNat = os.length := by omega
    rw [this, range_nats]
  have esort : sortD (natsD (smi os ws)) = natsD (List.range os.length) := sortD_nats_eq t.perm (List.pairwise_lt_range.imp Nat.le_of_lt)
  conv => whnf
  refine ⟨os, ws, rfl, ho, hw, ?_⟩
  show r3__law_is_wait_right _ [.io ys, .dat (osD os), .own (natsD ws), .dat (toldD os ws), .emp, .emp, .emp, .emp, .emp, .emp, .emp, .emp, .emp, .emp, .emp, .emp]
  conv => whnf
  refine ⟨⟨by rw [List.length_map]; omega, (Ints.nats _).sort⟩, ?_⟩
  conv => whnf
  refine ⟨by unfold rgOk; rw [hlm]; refine ⟨by omega, by omega, by omega, by omega, by omega⟩, ?_⟩
  have h1 : SeqAt.shaped (.list (natsD (List.range os.length))) = true := (Ints.nats _).shL
  conv => whnf
  refine ⟨by show SeqAt.shaped (.list (sortD (natsD (smi os ws)))) = true; rw [esort]; exact h1, by show SeqAt.shaped (.list (rangeD 0 (((((os.map Job.d).length : Nat) : Int)) - 0).toNat)) = true; rw [er]; exact h1, ?_⟩
  conv => whnf
  refine br_f (by
    show (!PyData.eqv (.list (sortD (natsD (smi os ws)))) (.list (rangeD 0 (((((os.map Job.d).length : Nat) : Int)) - 0).toNat))) = false
    rw [esort, er]
    unfold PyData.eqv
    rw [eqvAll_nats]
    simp) ?_
  conv => whnf
  refine ⟨os, ws, .tuple (natsD (smi os ws)), smi os ws, rfl, ho, hw, .inr rfl, fun x hx => t.lt hx, ?_⟩
  conv => whnf
  refine br_nf rfl ?_
  exact wait4 q xs ys n os ws ho hs hw hP hn hq
theorem wait1 (q : EV → List D → Prop) (xs ys : List D) (n : Nat) (os : List Job) (ws : List Nat) (ho : Ords os) (hs : ∀ j ∈ os, j.2 ≤ 300000) (hw : Wts os ws) (hP : Pot n ys) (hn : n < 83000) (hq : ∀ zs, Pot (n + 61) zs → q (.dat (.bool true)) zs) :
    r1__law_is_wait_right (endsD [.io xs, .dat (osD os)] q) [.io ys, .dat (osD os), .own (natsD ws), .emp, .emp, .emp, .emp, .emp, .emp, .emp, .emp, .emp, .emp, .emp, .emp, .emp] := by
  have h20 := ho.len
  have h0 := ho.pos
  have hwl := hw.1
  have hlm : (os.map Job.d).length = os.length := List.length_map _
  have fin := fun ws hw zs hz => wait3 q xs zs (n + 1) os ws ho hs hw hz (by omega) fun us hu => hq us (by
    have e : n + 61 = n + 1 + 60 := by omega
    rw [e]; exact hu)
  obtain ⟨x, wr, ew⟩ : ∃ x wr, ws = x :: wr := by
    cases ws with
    | nil => simp at hwl; omega
    | cons x wr => exact ⟨x, wr, rfl⟩
  conv => whnf
  refine ⟨rfl, rfl, ?_⟩
  conv => whnf
  refine ⟨n, ys, 3, rfl, hP, by omega, ⟨by decide, by decide⟩, fun r zs hr hP' => ?_⟩
  conv => whnf
  refine br_d (fun hc => ?_) (fun hc => ?_)
  · have hx : x ≤ 1000 := hw.2 x (by rw [ew]; exact List.mem_cons_self)
    have hat : atI (natsD ws) ((0 : Nat) : Int) = some (nI x) := by rw [ew]; exact atI_nat rfl
    conv => whnf
    refine optW_mk hat ?_
    conv => whnf
    refine ⟨sz 1 (by decide), ?_⟩
    conv => whnf
    refine ⟨⟨by omega, by rw [hlm]; omega, by rw [hlm, sizeLine_eq]; show 1 * (((os.length : Nat) : Int)).toNat ≤ 16777216; omega⟩, ?_⟩
    have er : (List.replicate ((((os.map Job.d).length : Nat) : Int)).toNat [nI x]).flatten = natsD (List.replicate os.length x) := by
      rw [hlm]
      show (List.replicate os.length [nI x]).flatten = _
      rw [List.flatten_replicate_singleton, natsD, List.map_replicate]
    show r2__law_is_wait_right _ [.io zs, .dat (osD os), .own (List.replicate ((((os.map Job.d).length : Nat) : Int)).toNat [nI x]).flatten, .emp, .emp, .emp, .emp, .emp, .emp, .emp, .emp, .emp, .emp, .emp, .emp, .emp]
    rw [er]
    exact fin (List.replicate os.length x) ⟨List.length_replicate, fun y hy => by rw [List.eq_of_mem_replicate hy]; exact hx⟩ zs hP'
  · exact fin ws hw zs hP'
theorem wts_comp (q : List D → DSt → Prop) (os : List Job) (stay : DSt → Prop) (hst : ∀ τ, stay τ) (w2 w3 w4 w5 w6 w7 w8 w9 w10 w12 w13 w14 w15 : DV) : ∀ (l : List Job) (ws : List Nat) (n : Nat) (ys : List D), Pot n ys → n + 2 * l.length < 90000 → (∀ x ∈ ws, x ≤ 1000) →
    (∀ ws' zs, (∀ x ∈ ws', x ≤ 1000) → ws'.length = ws.length + l.length → Pot (n + 2 * l.length) zs → q (natsD ws') [.io zs, .dat (osD os), w2, w3, w4, w5, w6, w7, w8, w9, w10, .emp, w12, w13, w14, w15]) →
    compW (gdName 11) dYes e1__law_is_wait_right [11] stay q (l.map Job.d) (natsD ws) [.io ys, .dat (osD os), w2, w3, w4, w5, w6, w7, w8, w9, w10, .emp, w12, w13, w14, w15]
  | [], ws, n, ys, hP, _, hw, h => comp_end (hst _) (h ws ys hw (by simp) hP)
  | j :: l, ws, n, ys, hP, hn, hw, h => by
    rw [List.length_cons] at hn
    rw [List.map_cons]
    conv => whnf
    refine ⟨hst _, ?_⟩
    conv => whnf
    refine ⟨rfl, rfl, ?_⟩
    conv => whnf
    refine ⟨n, ys, 1001, rfl, hP, by omega, ⟨by decide, by decide⟩, fun r zs hr hP1 => ?_⟩
    conv => whnf
    refine ⟨sz 4 (by decide), ?_⟩
    conv => whnf
    refine ⟨rfl, rfl, ?_⟩
    conv => whnf
    refine ⟨n + 1, zs, [.int 0, .int 1, .int 1000, nI r], rfl, hP1, by omega, ⟨by show 0 < 4; decide, by show 4 < 1000; decide⟩, fun d us hdm hP2 => ?_⟩
    obtain ⟨m, rfl, hm⟩ : ∃ m : Nat, d = nI m ∧ m ≤ 1000 := by
      rcases List.mem_cons.mp hdm with e | e
      · exact ⟨0, e, by decide⟩
      · rcases List.mem_cons.mp e with e | e
        · exact ⟨1, e, by decide⟩
        · rcases List.mem_cons.mp e with e | e
          · exact ⟨1000, e, by decide⟩
          · exact ⟨r, List.mem_singleton.mp e, by omega⟩
    conv => whnf
    have := wts_comp q os stay hst w2 w3 w4 w5 w6 w7 w8 w9 w10 w12 w13 w14 w15 l (ws ++ [m]) (n + 2) us hP2 (by omega) (fun x hx => by
      rcases List.mem_append.mp hx with e | e
      · exact hw x e
      · rw [List.mem_singleton.mp e]; exact hm) fun ws' vs h1 h2 h3 => h ws' vs h1 (by rw [h2]; simp; omega) (by
        have e : n + 2 * (j :: l).length = n + 2 + 2 * l.length := by rw [List.length_cons]; omega
        rw [e]; exact h3)
    rw [show natsD (ws ++ [m]) = natsD ws ++ [nI m] by simp [natsD]] at this
    exact this
theorem ok__law_is_wait_right : ∀ as q, sp__law_is_wait_right as q → t__law_is_wait_right (endsD as q) (startD N__law_is_wait_right.length as) := by
  rintro _ q ⟨n, xs, os, rfl, hP, hn, ho, hs, hq⟩
  have h20 := ho.len
  conv => whnf
  refine ⟨ho.szl, ?_⟩
  refine wts_comp _ os _ (fun _ => trivial) _ _ _ _ _ _ _ _ _ _ _ _ _ os [] n xs hP (by omega) (fun _ h => nomatch h) fun ws zs h1 h2 h3 => ?_
  exact wait1 q xs zs (n + 2 * os.length) os ws ho hs ⟨by simpa using h2, h1⟩ h3 (by omega) fun us hu => hq us (hu.mono (by omega))
theorem len__law_right : ∀ as q, sp__law_right as q → as.length = 1 := fun _ _ ⟨_, _, h, _⟩ => by rw [h]; rfl
theorem ok__law_right : ∀ as q, sp__law_right as q → t__law_right (endsD as q) (startD N__law_right.length as) := by
  rintro _ q ⟨n, xs, rfl, hP, hn, hq⟩
  conv => whnf
  refine ⟨rfl, rfl, ?_⟩
  conv => whnf
  refine ⟨n, xs, rfl, hP, by omega, fun os ys ho hs hP1 => ?_⟩
  conv => whnf
  refine ⟨rfl, rfl, ?_⟩
  conv => whnf
  refine ⟨n + 100, ys, os, rfl, hP1, by omega, ho, fun zs hP2 => ?_⟩
  conv => whnf
  refine ⟨rfl, rfl, ?_⟩
  conv => whnf
  refine ⟨n + 130, zs, os, rfl, hP2, by omega, ho, hs, fun us hP3 => ?_⟩
  exact hq us (hP3.mono (by omega))
theorem len_law : ∀ as q, lawSp as q → as.length = 1 := fun _ _ ⟨_, h, _⟩ => by rw [h]; rfl
theorem law_laps (stay : DSt → Prop) (q : List D → DSt → Prop) (v0 v1 : DV) (hs : ∀ τ, stay τ) : ∀ (k n : Nat) (i : Int) (ys : List D) (acc : List D), Pot n ys → n + 500 * k < 70000 → (∀ ys, q (acc ++ List.replicate k (.bool true)) [v0, v1, .own ys, .emp]) →
    compW (gdName 3) dYes e1_law [3] stay q (rangeD i k) acc [v0, v1, .own ys, .emp]
  | 0, n, i, ys, acc, _, _, h => by
    rw [rangeD_zero]
    exact ⟨hs _, by simpa using h ys⟩
  | k + 1, n, i, ys, acc, hP, hn, h => by
    rw [rangeD_succ]
    conv => whnf
    refine ⟨hs _, ?_⟩
    conv => whnf
    refine ⟨rfl, rfl, ?_⟩
    conv => whnf
    refine ⟨n, ys, rfl, hP, by omega, fun zs hP' => ?_⟩
    exact law_laps stay q v0 v1 hs k (n + 500) (i + 1) zs (acc ++ [.bool true]) hP' (by omega) fun us => by
      have := h us
      rw [List.replicate_succ] at this
      simpa using this
theorem law_for (E : DEnds) (ns : List Int) (hl : ns.length ≤ 63) : ∀ (k i : Nat) (w1 w2 w3 : DV), i + k ≤ 3 → (∀ w1 w2 w3, E.nx [.dat (.list (ns.map PyData.int)), w1, w2, w3]) →
    forW (gdName 1) b1_law E (rangeD ((i : Nat) : Int) k) [.dat (.list (ns.map PyData.int)), w1, w2, w3]
  | 0, i, w1, w2, w3, _, h => by
    rw [rangeD_zero]
    exact h w1 w2 w3
  | k + 1, i, w1, w2, w3, hi, h => by
    rw [rangeD_succ]
    have ih := fun w1 w2 w3 => law_for E ns hl k (i + 1) w1 w2 w3 (by omega) h
    conv => whnf
    refine ⟨ns, i, rfl, hl, by omega, fun ys hP => ?_⟩
    conv => whnf
    refine ⟨by decide, ?_⟩
    conv => whnf
    refine ⟨by decide, ?_⟩
    conv => whnf
    refine ⟨by rw [rangeD_len]; decide, ?_⟩
    refine law_laps _ _ _ _ (fun _ => trivial) 2 0 0 ys [] hP (by decide) fun zs => ?_
    conv => whnf
    exact ih _ _ _
theorem ok_law : ∀ as q, lawSp as q → t_law (endsD as q) (startD N_law.length as) := by
  rintro _ q ⟨ns, rfl, hl, hq⟩
  conv => whnf
  refine ⟨ns, rfl, hl, fun m hm => ?_⟩
  exact law_for _ ns hl m 0 .emp .emp .emp (by omega) fun w1 w2 w3 => hq

end K23
set_option Elab.async false
set_option linter.all false
set_option maxRecDepth 100000
set_option maxHeartbeats 4000000
namespace K23
open PySem L2 DL
open PyProof.Rows (boot_repr boot_sum boot_all boot_any boot_max boot_min boot_abs boot_int boot_list boot_tuple boot_sorted)
section
variable {P : Program} {w : World} {K : PySem.W.Frag} {mg : Str → Option Value} {base : Heap}
theorem sc__law_places : FnScope N__law_places ["script", "most"] (defScope s__law_places) := ⟨rfl, rfl, rfl, by decide +kernel, rfl, by decide +kernel, by decide +kernel⟩
theorem w__law_places (T : Txt mg) (f : Addr) (cdv : Value) (A : Around) (outer : List Env) (s : Shared) (H : Hp) (hr : RoomG 0 (A.deeper (PyProof.Rows.envOfC "_law_places" (defScope s__law_places) s.heap.objs.size f cdv))) :
    DSs (cxOf CX0 P w K mg base N__law_places "_law_places" (defScope s__law_places) f cdv A outer s H EN).nox (defBody s__law_places) t__law_places := by
  have nd := (sc__law_places).nd
  exact (dss_one (ds_ret (de_lstRg rfl (by rfl) T.b_list (drg_1 (by rfl) T.b_range (de_callB (cb_max2 rfl) (by rfl) T.b_max boot_max (da_cons de_int (da_cons (de_callB (cb_min2 rfl) (by rfl) T.b_min boot_min (da_cons (de_var (pv 1)) (da_cons (de_callB cb_len (by rfl) T.b_len boot_len (da_cons (de_var (pv 0)) da_nil)) da_nil))) da_nil)))))))
theorem sc__law_pot : FnScope N__law_pot ["script", "place"] (defScope s__law_pot) := ⟨rfl, rfl, rfl, by decide +kernel, rfl, by decide +kernel, by decide +kernel⟩
theorem w__law_pot (T : Txt mg) (f : Addr) (cdv : Value) (A : Around) (outer : List Env) (s : Shared) (H : Hp) (hr : RoomG 0 (A.deeper (PyProof.Rows.envOfC "_law_pot" (defScope s__law_pot) s.heap.objs.size f cdv))) :
    DSs (cxOf CX0 P w K mg base N__law_pot "_law_pot" (defScope s__law_pot) f cdv A outer s H EN).nox (defBody s__law_pot) t__law_pot := by
  have nd := (sc__law_pot).nd
  exact (dss_cons (ds_set (i := 2) nd rfl (Or.inl rfl) (de_if (dt_cmp co_lt (de_var (pv 1)) (de_callB cb_len (by rfl) T.b_len boot_len (da_cons (de_var (pv 0)) da_nil)) (nomark _)) (de_ix io_ix (de_var (pv 0)) (de_var (pv 1)) (fun _ _ => rfl)) (de_op bo_add (de_op bo_add (de_op bo_mod (de_callB (cb_sum rfl) (by rfl) T.b_sum boot_sum (da_cons (de_slice sl_any (de_var (pv 0)) dpo_none (dpo_some de_int)) da_nil)) de_int) (de_op bo_mul de_int (de_var (pv 1)))) de_int))) (dss_cons (ds_set (i := 3) nd rfl (Or.inl rfl) (de_op bo_mul (de_op bo_mod (de_callTy cb_int (by rfl) T.b_int boot_int (da_cons (de_callB cb_abs (by rfl) T.b_abs boot_abs (da_cons (de_var (pv 2)) da_nil)) da_nil)) (de_op bo_pow (de_op bo_pow de_int de_int) de_int)) (de_callTy cb_int (by rfl) T.b_int boot_int (da_cons (de_cmp co_ge (de_callB cb_abs (by rfl) T.b_abs boot_abs (da_cons (de_var (pv 2)) da_nil)) (de_op bo_pow de_int de_int) (nomark _)) da_nil)))) (dss_cons (ds_set (i := 4) nd rfl (Or.inl rfl) (de_op bo_mod (de_callTy cb_int (by rfl) T.b_int boot_int (da_cons (de_var (pv 2)) da_nil)) de_int)) (dss_one (ds_ret (de_lst (da_cons (de_var (pv 3)) (da_cons (de_op bo_mod (de_callTy cb_int (by rfl) T.b_int boot_int (da_cons (de_op bo_add (de_op bo_add (de_op bo_mul (de_var (pv 4)) de_int) (de_op bo_mul (de_op bo_mul de_int (de_var (pv 1))) (de_var (pv 1)))) de_int) da_nil)) de_int) (da_cons de_int da_nil)))))))))
theorem sc__law_take : FnScope N__law_take ["pot", "upto"] (defScope s__law_take) := ⟨rfl, rfl, rfl, by decide +kernel, rfl, by decide +kernel, by decide +kernel⟩
theorem w__law_take (T : Txt mg) (f : Addr) (cdv : Value) (A : Around) (outer : List Env) (s : Shared) (H : Hp) (hr : RoomG 0 (A.deeper (PyProof.Rows.envOfC "_law_take" (defScope s__law_take) s.heap.objs.size f cdv))) :
    DSs (cxOf CX0 P w K mg base N__law_take "_law_take" (defScope s__law_take) f cdv A outer s H EN).nox (defBody s__law_take) t__law_take := by
  have nd := (sc__law_take).nd
  exact (dss_cons (ds_if (dt_cmp co_gt (de_ix io_ix (de_var (pv 0)) de_int (fun _ _ => rfl)) de_int (nomark _)) (dss_cons (ds_set (i := 2) nd rfl (Or.inl rfl) (de_op bo_mod (de_callTy cb_int (by rfl) T.b_int boot_int (da_cons (de_ix io_ix (de_var (pv 0)) de_int (fun _ _ => rfl)) da_nil)) (de_var (pv 1)))) (dss_cons (ds_setIx (de_op bo_fdiv (de_ix io_ix (de_var (pv 0)) de_int (fun _ _ => rfl)) (de_var (pv 1))) (pv 0) de_int) (dss_one (ds_ret (de_var (pv 2)))))) dss_nil) (dss_cons (ds_setIx (de_op bo_add (de_ix io_ix (de_var (pv 0)) de_int (fun _ _ => rfl)) de_int) (pv 0) de_int) (dss_cons (ds_set (i := 3) nd rfl (Or.inl rfl) (de_ix io_ix (de_lst (da_cons de_int (da_cons de_int (da_cons de_int (da_cons de_int (da_cons de_int da_nil)))))) (de_op bo_mod (de_callTy cb_int (by rfl) T.b_int boot_int (da_cons (de_ix io_ix (de_var (pv 0)) de_int (fun _ _ => rfl)) da_nil)) de_int) (fun _ _ => rfl))) (dss_cons (ds_set (i := 4) nd rfl (Or.inl rfl) (de_op bo_mod (de_callTy cb_int (by rfl) T.b_int boot_int (da_cons (de_op bo_pow (de_callTy cb_int (by rfl) T.b_int boot_int (da_cons (de_op bo_add (de_op bo_add (de_ix io_ix (de_var (pv 0)) de_int (fun _ _ => rfl)) (de_op bo_mul (de_op bo_mul de_int (de_ix io_ix (de_var (pv 0)) de_int (fun _ _ => rfl))) (de_ix io_ix (de_var (pv 0)) de_int (fun _ _ => rfl)))) de_int) da_nil)) de_int) da_nil)) (de_var (pv 3)))) (dss_cons (ds_set (i := 4) nd rfl (Or.inl rfl) (de_op bo_mod (de_callTy cb_int (by rfl) T.b_int boot_int (da_cons (de_op bo_mul (de_var (pv 4)) (de_op bo_add (de_op bo_mod (de_callTy cb_int (by rfl) T.b_int boot_int (da_cons (de_var (pv 4)) da_nil)) de_int) (de_op bo_mul de_int (de_ix io_ix (de_var (pv 0)) de_int (fun _ _ => rfl))))) da_nil)) de_int)) (dss_one (ds_ret (de_op bo_mod (de_callTy cb_int (by rfl) T.b_int boot_int (da_cons (de_op bo_fdiv (de_var (pv 4)) de_int) da_nil)) (de_var (pv 1))))))))))
theorem sc__law_of : FnScope N__law_of ["pot", "some"] (defScope s__law_of) := ⟨rfl, rfl, rfl, by decide +kernel, rfl, by decide +kernel, by decide +kernel⟩
theorem w__law_of (T : Txt mg) (C__law_take : CalG P w K mg base 1 "_law_take" sp__law_take) (f : Addr) (cdv : Value) (A : Around) (outer : List Env) (s : Shared) (H : Hp) (hr : RoomG 1 (A.deeper (PyProof.Rows.envOfC "_law_of" (defScope s__law_of) s.heap.objs.size f cdv))) :
    DSs (cxOf CX0 P w K mg base N__law_of "_law_of" (defScope s__law_of) f cdv A outer s H EN).nox (defBody s__law_of) t__law_of := by
  have nd := (sc__law_of).nd
  exact (dss_one (ds_ret (de_ix io_ix (de_var (pv 1)) (de_callIoC (i := 0) (ms := [false]) C__law_take hr (by decide) (by rfl) (da_cons (de_var (pv 0)) (da_cons (de_callB cb_len (by rfl) T.b_len boot_len (da_cons (de_var (pv 1)) da_nil)) da_nil))) (fun _ _ => rfl))))
theorem sc__law_orders : FnScope N__law_orders ["pot"] (defScope s__law_orders) := ⟨rfl, rfl, rfl, by decide +kernel, rfl, by decide +kernel, by decide +kernel⟩
theorem w__law_orders (T : Txt mg) (C__law_of : CalG P w K mg base 2 "_law_of" sp__law_of) (C__law_take : CalG P w K mg base 1 "_law_take" sp__law_take) (f : Addr) (cdv : Value) (A : Around) (outer : List Env) (s : Shared) (H : Hp) (hr : RoomG 2 (A.deeper (PyProof.Rows.envOfC "_law_orders" (defScope s__law_orders) s.heap.objs.size f cdv))) :
    DSs (cxOf CX0 P w K mg base N__law_orders "_law_orders" (defScope s__law_orders) f cdv A outer s H EN).nox (defBody s__law_orders) t__law_orders := by
  have nd := (sc__law_orders).nd
  exact (dss_cons (ds_par (i := 1) (j := 2) rfl nd rfl rfl (by decide) rfl rfl (da_cons (de_lst da_nil) (da_cons (de_callTy cb_int (by rfl) T.b_int boot_int (da_cons (de_callIoC (i := 0) (ms := [false]) C__law_of hr (by decide) (by rfl) (da_cons (de_var (pv 0)) (da_cons (de_lst (da_cons de_int (da_cons de_int (da_cons de_int da_nil)))) da_nil))) da_nil)) da_nil)) (by rfl)) (dss_cons (ds_set (i := 3) nd rfl (Or.inl rfl) (de_callTy cb_int (by rfl) T.b_int boot_int (da_cons (de_op bo_add de_int (de_callIoC (i := 0) (ms := [false]) C__law_take hr (by decide) (by rfl) (da_cons (de_var (pv 0)) (da_cons de_int da_nil)))) da_nil))) (dss_cons (ds_for PassesOwn.never rfl (di_rng1 (by rfl) T.b_range (da_cons (de_var (pv 3)) da_nil)) (dg_name (i := 4) nd rfl (Or.inl rfl)) (dss_cons (ds_set (i := 5) nd rfl (Or.inl rfl) (de_callTy cb_int (by rfl) T.b_int boot_int (da_cons (de_op bo_add de_int (de_callIoC (i := 0) (ms := [false]) C__law_take hr (by decide) (by rfl) (da_cons (de_var (pv 0)) (da_cons (de_var (pv 2)) da_nil)))) da_nil))) (dss_cons (ds_expr (de_app (pv 1) (de_tup (da_cons de_int (da_cons (de_callTy cb_int (by rfl) T.b_int boot_int (da_cons (de_callIoC (i := 0) (ms := [false]) C__law_take hr (by decide) (by rfl) (da_cons (de_var (pv 0)) (da_cons (de_op bo_add de_int (de_op bo_mul (de_var (pv 2)) (de_op bo_add de_int (de_op bo_fdiv (de_op bo_mul (de_var (pv 3)) de_int) de_int)))) da_nil))) da_nil)) (da_cons (de_var (pv 5)) da_nil)))) (fun {_ _} => pe_bm PySem.F.plainAttrs_list PySem.F.slot_list_append PySem.F.type_list_append mt_append))) (dss_one (ds_if (dt_pw (dw_and (dt_cmp co_gt (de_var (pv 4)) de_int (nomark _)) (dw_and1 (dt_cmp (co_eq hr) (de_callIoC (i := 0) (ms := [false]) C__law_take hr (by decide) (by rfl) (da_cons (de_var (pv 0)) (da_cons de_int da_nil))) de_int (nomark _))))) (dss_one (ds_setIx (de_tup (da_cons de_int (da_cons (de_ix io_ix (de_ix io_ix (de_var (pv 1)) (de_un uo_neg de_int) (fun _ _ => rfl)) de_int (fun _ _ => rfl)) (da_cons (de_callIoC (i := 0) (ms := [false]) C__law_of hr (by decide) (by rfl) (da_cons (de_var (pv 0)) (da_cons (de_lst (da_cons (de_var (pv 5)) (da_cons (de_ix io_ix (de_ix io_ix (de_var (pv 1)) (de_un uo_neg de_int) (fun _ _ => rfl)) de_int (fun _ _ => rfl)) da_nil))) da_nil))) da_nil)))) (pv 1) (de_un uo_neg de_int))) dss_nil))))) (dss_one (ds_ret (de_callTy cb_tuple (by rfl) T.b_tuple boot_tuple (da_cons (de_var (pv 1)) da_nil)))))))
theorem sc__law_most_in_time : FnScope N__law_most_in_time ["orders"] (defScope s__law_most_in_time) := ⟨rfl, rfl, rfl, by decide +kernel, rfl, by decide +kernel, by decide +kernel⟩
theorem w__law_most_in_time (T : Txt mg) (f : Addr) (cdv : Value) (A : Around) (outer : List Env) (s : Shared) (H : Hp) (hr : RoomG 0 (A.deeper (PyProof.Rows.envOfC "_law_most_in_time" (defScope s__law_most_in_time) s.heap.objs.size f cdv))) (LM : LamAt K mg base "_law_most_in_time.<locals>.<lambda>" cdv) :
    DSs (cxOf CX0 P w K mg base N__law_most_in_time "_law_most_in_time" (defScope s__law_most_in_time) f cdv A outer s H EN).nox (defBody s__law_most_in_time) t__law_most_in_time := by
  have nd := (sc__law_most_in_time).nd
  exact (let ⟨_, _, ec, TB, hmT, hu⟩ := LM; (dss_cons (ds_set (i := 1) nd rfl (Or.inl rfl) (de_lst (da_cons de_int da_nil))) (dss_cons (ds_for PassesOwn.never rfl (di_seq (de_sortKey (by rfl) T.b_sorted (de_var (pv 0)) TB ec hmT hu hr rfl rfl rfl rfl rfl rfl (fun _ _ _ _ _ _ => rfl) (by decide) (by decide))) (dg_tup rfl (dgs_cons (dg_name (i := 2) nd rfl (Or.inl rfl)) (dgs_cons (dg_name (i := 3) nd rfl (Or.inl rfl)) (dgs_cons (dg_name (i := 4) nd rfl (Or.inl rfl)) dgs_nil)))) (dss_cons (ds_set (i := 5) nd rfl (Or.inl rfl) (de_callTy cb_list (by rfl) T.b_list boot_list (da_cons (de_var (pv 1)) da_nil))) (dss_cons (ds_for PassesOwn.never rfl (di_enum (by rfl) T.b_enumerate (da_cons (de_var (pv 1)) da_nil)) (dg_tup rfl (dgs_cons (dg_name (i := 6) nd rfl (Or.inl rfl)) (dgs_cons (dg_name (i := 7) nd rfl (Or.inl rfl)) dgs_nil))) (dss_one (ds_if (dt_cmp co_le (de_op bo_add (de_var (pv 7)) (de_var (pv 4))) (de_var (pv 3)) (nomark _)) (dss_one (ds_if (dt_cmp (co_eq hr) (de_op bo_add (de_var (pv 6)) de_int) (de_callB cb_len (by rfl) T.b_len boot_len (da_cons (de_var (pv 5)) da_nil)) (nomark _)) (dss_one (ds_expr (de_app (pv 5) (de_op bo_add (de_var (pv 7)) (de_var (pv 4))) (fun {_ _} => pe_bm PySem.F.plainAttrs_list PySem.F.slot_list_append PySem.F.type_list_append mt_append)))) (dss_one (ds_setIx (de_callB (cb_min2 rfl) (by rfl) T.b_min boot_min (da_cons (de_ix io_ix (de_var (pv 5)) (de_op bo_add (de_var (pv 6)) de_int) (fun _ _ => rfl)) (da_cons (de_op bo_add (de_var (pv 7)) (de_var (pv 4))) da_nil))) (pv 5) (de_op bo_add (de_var (pv 6)) de_int))))) dss_nil))) (dss_one (ds_set (i := 1) nd rfl (Or.inl rfl) (de_var (pv 5))))))) (dss_one (ds_ret (de_op bo_sub (de_callB cb_len (by rfl) T.b_len boot_len (da_cons (de_var (pv 1)) da_nil)) de_int))))))
theorem sc_is_tuple : FnScope N_is_tuple ["value", "least", "most"] (defScope s_is_tuple) := ⟨rfl, rfl, rfl, by decide +kernel, rfl, by decide +kernel, by decide +kernel⟩
theorem w_is_tuple (T : Txt mg) (f : Addr) (cdv : Value) (A : Around) (outer : List Env) (s : Shared) (H : Hp) (hr : RoomG 0 (A.deeper (PyProof.Rows.envOfC "is_tuple" (defScope s_is_tuple) s.heap.objs.size f cdv))) :
    DSs (cxOf CX0 P w K mg base N_is_tuple "is_tuple" (defScope s_is_tuple) f cdv A outer s H EN).nox (defBody s_is_tuple) t_is_tuple := by
  have nd := (sc_is_tuple).nd
  exact (dss_one (ds_ret (de_and (de_isi (T := .tuple) (by rfl) T.b_isinstance (by rfl) T.b_tuple (by decide +kernel) (de_var (pv 0))) (de_one (de_chain co_le co_le (de_var (pv 1)) (de_callB cb_len (by rfl) T.b_len boot_len (da_cons (de_var (pv 0)) da_nil)) (de_var (pv 2)))))))
theorem sc_is_whole : FnScope N_is_whole ["value"] (defScope s_is_whole) := ⟨rfl, rfl, rfl, by decide +kernel, rfl, by decide +kernel, by decide +kernel⟩
theorem w_is_whole (T : Txt mg) (f : Addr) (cdv : Value) (A : Around) (outer : List Env) (s : Shared) (H : Hp) (hr : RoomG 0 (A.deeper (PyProof.Rows.envOfC "is_whole" (defScope s_is_whole) s.heap.objs.size f cdv))) :
    DSs (cxOf CX0 P w K mg base N_is_whole "is_whole" (defScope s_is_whole) f cdv A outer s H EN).nox (defBody s_is_whole) t_is_whole := by
  have nd := (sc_is_whole).nd
  exact (dss_one (ds_ret (de_and (de_isi (T := .int) (by rfl) T.b_isinstance (by rfl) T.b_int (by decide +kernel) (de_var (pv 0))) (de_one (de_not (de_isi (T := .bool) (by rfl) T.b_isinstance (by rfl) T.b_bool (by decide +kernel) (de_var (pv 0))))))))
theorem sc_is_integer : FnScope N_is_integer ["value", "low", "high"] (defScope s_is_integer) := ⟨rfl, rfl, rfl, by decide +kernel, rfl, by decide +kernel, by decide +kernel⟩
theorem w_is_integer (T : Txt mg) (C_is_whole : CalG P w K mg base 1 "is_whole" sp_is_whole) (f : Addr) (cdv : Value) (A : Around) (outer : List Env) (s : Shared) (H : Hp) (hr : RoomG 1 (A.deeper (PyProof.Rows.envOfC "is_integer" (defScope s_is_integer) s.heap.objs.size f cdv))) :
    DSs (cxOf CX0 P w K mg base N_is_integer "is_integer" (defScope s_is_integer) f cdv A outer s H EN).nox (defBody s_is_integer) t_is_integer := by
  have nd := (sc_is_integer).nd
  exact (dss_one (ds_ret (de_and (de_callC (ms := [false]) C_is_whole hr (by decide) (by rfl) (da_cons (de_var (pv 0)) da_nil)) (de_one (de_chain co_le co_le (de_var (pv 1)) (de_var (pv 0)) (de_var (pv 2)))))))
theorem sc_is_orders : FnScope N_is_orders ["value"] (defScope s_is_orders) := ⟨rfl, rfl, rfl, by decide +kernel, rfl, by decide +kernel, by decide +kernel⟩
theorem w_is_orders (T : Txt mg) (C_is_tuple : CalG P w K mg base 1 "is_tuple" sp_is_tuple) (C_is_integer : CalG P w K mg base 2 "is_integer" sp_is_integer) (f : Addr) (cdv : Value) (A : Around) (outer : List Env) (s : Shared) (H : Hp) (hr : RoomG 2 (A.deeper (PyProof.Rows.envOfC "is_orders" (defScope s_is_orders) s.heap.objs.size f cdv))) :
    DSs (cxOf CX0 P w K mg base N_is_orders "is_orders" (defScope s_is_orders) f cdv A outer s H EN).nox (defBody s_is_orders) t_is_orders := by
  have nd := (sc_is_orders).nd
  exact (dss_cons (ds_if (dt_pw (dw_or (dt_not (dt_truth (de_callC (ms := [false, false, false]) C_is_tuple hr (by decide) (by rfl) (da_cons (de_var (pv 0)) (da_cons de_int (da_cons (de_gI T.c_MOST_ORDERS (by rfl)) da_nil)))))) (dw_or1 (dt_not (dt_truth (de_callB (cb_all rfl) (by rfl) T.b_all boot_all (da_cons (de_lcV [("order", 4)] rfl nd (dc_seq (de_var (pv 0))) (blkOk_by (own := [("order", 4)]) (N := N_is_orders) (sc := (defScope s_is_orders)) (by decide +kernel)) (fun _ _ _ _ _ => (dg_name (i := 4) nd rfl (Or.inl rfl))) (fun _ _ _ _ _ => dts_nil) (fun _ _ _ _ _ => (de_callC (ms := [false, false, false]) C_is_tuple hr (by decide) (by rfl) (da_cons (de_var (pv 4)) (da_cons (de_gI T.c_TRIPLE (by rfl)) (da_cons (de_gI T.c_TRIPLE (by rfl)) da_nil)))))) da_nil))))))) (dss_one (ds_ret de_bl)) dss_nil) (dss_cons (ds_for PassesOwn.never rfl (di_seq (de_var (pv 0))) (dg_tup rfl (dgs_cons (dg_name (i := 1) nd rfl (Or.inl rfl)) (dgs_cons (dg_name (i := 2) nd rfl (Or.inl rfl)) (dgs_cons (dg_name (i := 3) nd rfl (Or.inl rfl)) dgs_nil)))) (dss_cons (ds_if (dt_pw (dw_or (dt_not (dt_truth (de_callC (ms := [false, false, false]) C_is_integer hr (by decide) (by rfl) (da_cons (de_var (pv 1)) (da_cons de_int (da_cons (de_gI T.c_MOST_MINUTE (by rfl)) da_nil)))))) (dw_or1 (dt_not (dt_truth (de_callC (ms := [false, false, false]) C_is_integer hr (by decide) (by rfl) (da_cons (de_var (pv 2)) (da_cons de_int (da_cons (de_gI T.c_MOST_MINUTE (by rfl)) da_nil))))))))) (dss_one (ds_ret de_bl)) dss_nil) (dss_one (ds_if (dt_not (dt_truth (de_callC (ms := [false, false, false]) C_is_integer hr (by decide) (by rfl) (da_cons (de_var (pv 3)) (da_cons de_int (da_cons (de_gI T.c_MOST_MINUTE (by rfl)) da_nil)))))) (dss_one (ds_ret de_bl)) dss_nil)))) (dss_one (ds_ret de_bl))))
theorem sc_is_ready : FnScope N_is_ready ["value"] (defScope s_is_ready) := ⟨rfl, rfl, rfl, by decide +kernel, rfl, by decide +kernel, by decide +kernel⟩
theorem w_is_ready (T : Txt mg) (C_is_orders : CalG P w K mg base 3 "is_orders" sp_is_orders) (f : Addr) (cdv : Value) (A : Around) (outer : List Env) (s : Shared) (H : Hp) (hr : RoomG 3 (A.deeper (PyProof.Rows.envOfC "is_ready" (defScope s_is_ready) s.heap.objs.size f cdv))) :
    DSs (cxOf CX0 P w K mg base N_is_ready "is_ready" (defScope s_is_ready) f cdv A outer s H EN).nox (defBody s_is_ready) t_is_ready := by
  have nd := (sc_is_ready).nd
  exact (dss_one (ds_ret (de_and (de_callC (ms := [false]) C_is_orders hr (by decide) (by rfl) (da_cons (de_var (pv 0)) da_nil)) (de_one (de_callB (cb_all rfl) (by rfl) T.b_all boot_all (da_cons (de_lcV [("order", 1)] rfl nd (dc_seq (de_var (pv 0))) (blkOk_by (own := [("order", 1)]) (N := N_is_ready) (sc := (defScope s_is_ready)) (by decide +kernel)) (fun _ _ _ _ _ => (dg_name (i := 1) nd rfl (Or.inl rfl))) (fun _ _ _ _ _ => dts_nil) (fun _ _ _ _ _ => (de_cmp (co_eq hr) (de_ix io_ix (de_var (pv 1)) de_int (fun _ _ => rfl)) de_int (nomark _)))) da_nil))))))
theorem sc_fewest_late : FnScope N_fewest_late ["orders"] (defScope s_fewest_late) := ⟨rfl, rfl, rfl, by decide +kernel, rfl, by decide +kernel, by decide +kernel⟩
theorem w_fewest_late (T : Txt mg) (C_is_ready : CalG P w K mg base 4 "is_ready" sp_is_ready) (f : Addr) (cdv : Value) (A : Around) (outer : List Env) (s : Shared) (H : Hp) (hr : RoomG 4 (A.deeper (PyProof.Rows.envOfC "fewest_late" (defScope s_fewest_late) s.heap.objs.size f cdv))) :
    DSs (cxOf CX0 P w K mg base N_fewest_late "fewest_late" (defScope s_fewest_late) f cdv A outer s H EN).nox (defBody s_fewest_late) t_fewest_late := by
  have nd := (sc_fewest_late).nd
  exact (dss_cons (ds_if (dt_not (dt_truth (de_callC (ms := [false]) C_is_ready hr (by decide) (by rfl) (da_cons (de_var (pv 0)) da_nil)))) (dss_one ds_never) dss_nil) (dss_cons (ds_parT (is := [1, 2]) rfl (da_cons (de_lst da_nil) (da_cons de_int da_nil)) (pgs_cons (pg_name (i := 1) nd rfl (Or.inr rfl)) (pgs_cons (pg_name (i := 2) nd rfl (Or.inl rfl)) pgs_nil))) (dss_cons (ds_for PassesOwn.never rfl (di_seq (de_callB (cb_sortedS hr) (by rfl) T.b_sorted boot_sorted (da_cons (de_lcV [("at", 4), ("order", 6)] rfl nd (dc_enum (by rfl) T.b_enumerate (da_cons (de_var (pv 0)) da_nil)) (blkOk_by (own := [("at", 4), ("order", 6)]) (N := N_fewest_late) (sc := (defScope s_fewest_late)) (by decide +kernel)) (fun _ _ _ _ _ => (dg_tup rfl (dgs_cons (dg_name (i := 4) nd rfl (Or.inl rfl)) (dgs_cons (dg_name (i := 6) nd rfl (Or.inl rfl)) dgs_nil)))) (fun _ _ _ _ _ => dts_nil) (fun _ _ _ _ _ => (de_tup (da_cons (de_ix io_ix (de_var (pv 6)) de_int (fun _ _ => rfl)) (da_cons (de_var (pv 4)) da_nil))))) da_nil))) (dg_tup rfl (dgs_cons (dg_name (i := 3) nd rfl (Or.inl rfl)) (dgs_cons (dg_name (i := 4) nd rfl (Or.inl rfl)) dgs_nil))) (dss_cons (ds_expr (de_app (pv 1) (de_var (pv 4)) (fun {_ _} => pe_bm PySem.F.plainAttrs_list PySem.F.slot_list_append PySem.F.type_list_append mt_append))) (dss_cons (ds_set (i := 2) nd rfl (Or.inl rfl) (de_op bo_add (de_var (pv 2)) (de_ix io_ix (de_ix io_ix (de_var (pv 0)) (de_var (pv 4)) (fun _ _ => rfl)) (de_gI T.c_PAIR (by rfl)) (fun _ _ => rfl)))) (dss_one (ds_if (dt_cmp co_gt (de_var (pv 2)) (de_var (pv 3)) (nomark _)) (dss_cons (ds_set (i := 5) nd rfl (Or.inr rfl) (de_ix io_ix (de_callB (cb_max1 rfl hr) (by rfl) T.b_max boot_max (da_cons (de_lcV [("place", 7), ("one", 8)] rfl nd (dc_enum (by rfl) T.b_enumerate (da_cons (de_var (pv 1)) da_nil)) (blkOk_by (own := [("place", 7), ("one", 8)]) (N := N_fewest_late) (sc := (defScope s_fewest_late)) (by decide +kernel)) (fun _ _ _ _ _ => (dg_tup rfl (dgs_cons (dg_name (i := 7) nd rfl (Or.inl rfl)) (dgs_cons (dg_name (i := 8) nd rfl (Or.inl rfl)) dgs_nil)))) (fun _ _ _ _ _ => dts_nil) (fun _ _ _ _ _ => (de_tup (da_cons (de_ix io_ix (de_ix io_ix (de_var (pv 0)) (de_var (pv 8)) (fun _ _ => rfl)) (de_gI T.c_PAIR (by rfl)) (fun _ _ => rfl)) (da_cons (de_un uo_neg (de_var (pv 7))) (da_cons (de_var (pv 8)) da_nil)))))) da_nil)) (de_gI T.c_PAIR (by rfl)) (fun _ _ => rfl))) (dss_cons (ds_set (i := 1) nd rfl (Or.inr rfl) (de_lcV [("one", 8)] rfl nd (dc_seq (de_var (pv 1))) (blkOk_by (own := [("one", 8)]) (N := N_fewest_late) (sc := (defScope s_fewest_late)) (by decide +kernel)) (fun _ _ _ _ _ => (dg_name (i := 8) nd rfl (Or.inl rfl))) (fun _ _ _ _ _ => (dts_one (dt_cmp (co_ne hr) (de_var (pv 8)) (de_var (pv 5)) (nomark _)))) (fun _ _ _ _ _ => (de_var (pv 8))))) (dss_one (ds_set (i := 2) nd rfl (Or.inl rfl) (de_op bo_sub (de_var (pv 2)) (de_ix io_ix (de_ix io_ix (de_var (pv 0)) (de_var (pv 5)) (fun _ _ => rfl)) (de_gI T.c_PAIR (by rfl)) (fun _ _ => rfl))))))) dss_nil))))) (dss_one (ds_ret (de_tup (da_cons (de_callTy cb_tuple (by rfl) T.b_tuple boot_tuple (da_cons (de_lcV [("at", 4)] rfl nd (dc_of (di_rng1 (by rfl) T.b_range (da_cons (de_callB cb_len (by rfl) T.b_len boot_len (da_cons (de_var (pv 0)) da_nil)) da_nil))) (blkOk_by (own := [("at", 4)]) (N := N_fewest_late) (sc := (defScope s_fewest_late)) (by decide +kernel)) (fun _ _ _ _ _ => (dg_name (i := 4) nd rfl (Or.inl rfl))) (fun _ _ _ _ _ => (dts_one (dt_cmp (co_notin hr) (de_var (pv 4)) (de_var (pv 1)) (by rfl)))) (fun _ _ _ _ _ => (de_var (pv 4)))) da_nil)) (da_cons (de_callTy cb_tuple (by rfl) T.b_tuple boot_tuple (da_cons (de_var (pv 1)) da_nil)) da_nil))))))))
theorem sc__law_told_way : FnScope N__law_told_way ["orders"] (defScope s__law_told_way) := ⟨rfl, rfl, rfl, by decide +kernel, rfl, by decide +kernel, by decide +kernel⟩
theorem w__law_told_way (T : Txt mg) (f : Addr) (cdv : Value) (A : Around) (outer : List Env) (s : Shared) (H : Hp) (hr : RoomG 0 (A.deeper (PyProof.Rows.envOfC "_law_told_way" (defScope s__law_told_way) s.heap.objs.size f cdv))) :
    DSs (cxOf CX0 P w K mg base N__law_told_way "_law_told_way" (defScope s__law_told_way) f cdv A outer s H EN).nox (defBody s__law_told_way) t__law_told_way := by
  have nd := (sc__law_told_way).nd
  exact (dss_cons (ds_par (i := 1) (j := 2) rfl nd rfl rfl (by decide) rfl rfl (da_cons (de_lst da_nil) (da_cons (de_lst da_nil) da_nil)) (by rfl)) (dss_cons (ds_for PassesOwn.never rfl (di_seq (de_lcV [("due", 7), ("at", 3)] rfl nd (dc_seq (de_callB (cb_sortedS hr) (by rfl) T.b_sorted boot_sorted (da_cons (de_lcV [("at", 3), ("order", 6)] rfl nd (dc_enum (by rfl) T.b_enumerate (da_cons (de_var (pv 0)) da_nil)) (blkOk_by (own := [("at", 3), ("order", 6)]) (N := N__law_told_way) (sc := (defScope s__law_told_way)) (by decide +kernel)) (fun _ _ _ _ _ => (dg_tup rfl (dgs_cons (dg_name (i := 3) nd rfl (Or.inl rfl)) (dgs_cons (dg_name (i := 6) nd rfl (Or.inl rfl)) dgs_nil)))) (fun _ _ _ _ _ => dts_nil) (fun _ _ _ _ _ => (de_tup (da_cons (de_ix io_ix (de_var (pv 6)) de_int (fun _ _ => rfl)) (da_cons (de_var (pv 3)) da_nil))))) da_nil))) (blkOk_by (own := [("due", 7), ("at", 3)]) (N := N__law_told_way) (sc := (defScope s__law_told_way)) (by decide +kernel)) (fun _ _ _ _ _ => (dg_tup rfl (dgs_cons (dg_name (i := 7) nd rfl (Or.inl rfl)) (dgs_cons (dg_name (i := 3) nd rfl (Or.inl rfl)) dgs_nil)))) (fun _ _ _ _ _ => dts_nil) (fun _ _ _ _ _ => (de_var (pv 3))))) (dg_name (i := 3) nd rfl (Or.inl rfl)) (dss_cons (ds_expr (de_app (pv 1) (de_var (pv 3)) (fun {_ _} => pe_bm PySem.F.plainAttrs_list PySem.F.slot_list_append PySem.F.type_list_append mt_append))) (dss_one (ds_if (dt_cmp co_gt (de_callB (cb_sum rfl) (by rfl) T.b_sum boot_sum (da_cons (de_lcV [("one", 8)] rfl nd (dc_seq (de_var (pv 1))) (blkOk_by (own := [("one", 8)]) (N := N__law_told_way) (sc := (defScope s__law_told_way)) (by decide +kernel)) (fun _ _ _ _ _ => (dg_name (i := 8) nd rfl (Or.inl rfl))) (fun _ _ _ _ _ => dts_nil) (fun _ _ _ _ _ => (de_ix io_ix (de_ix io_ix (de_var (pv 0)) (de_var (pv 8)) (fun _ _ => rfl)) de_int (fun _ _ => rfl)))) da_nil)) (de_ix io_ix (de_ix io_ix (de_var (pv 0)) (de_var (pv 3)) (fun _ _ => rfl)) de_int (fun _ _ => rfl)) (nomark _)) (dss_cons (ds_set (i := 4) nd rfl (Or.inr rfl) (de_callB (cb_max1 rfl hr) (by rfl) T.b_max boot_max (da_cons (de_lcV [("one", 8)] rfl nd (dc_seq (de_var (pv 1))) (blkOk_by (own := [("one", 8)]) (N := N__law_told_way) (sc := (defScope s__law_told_way)) (by decide +kernel)) (fun _ _ _ _ _ => (dg_name (i := 8) nd rfl (Or.inl rfl))) (fun _ _ _ _ _ => dts_nil) (fun _ _ _ _ _ => (de_ix io_ix (de_ix io_ix (de_var (pv 0)) (de_var (pv 8)) (fun _ _ => rfl)) de_int (fun _ _ => rfl)))) da_nil))) (dss_cons (ds_set (i := 5) nd rfl (Or.inr rfl) (de_ix io_ix (de_lcV [("one", 8)] rfl nd (dc_seq (de_var (pv 1))) (blkOk_by (own := [("one", 8)]) (N := N__law_told_way) (sc := (defScope s__law_told_way)) (by decide +kernel)) (fun _ _ _ _ _ => (dg_name (i := 8) nd rfl (Or.inl rfl))) (fun _ _ _ _ _ => (dts_one (dt_cmp (co_eq hr) (de_ix io_ix (de_ix io_ix (de_var (pv 0)) (de_var (pv 8)) (fun _ _ => rfl)) de_int (fun _ _ => rfl)) (de_var (pv 4)) (nomark _)))) (fun _ _ _ _ _ => (de_var (pv 8)))) de_int (fun _ _ => rfl))) (dss_cons (ds_setLcV (i := 1) [("one", 8)] rfl nd rfl rfl (sw_true rfl rfl rfl (by decide +kernel)) (dc_seq (de_var (pv 1))) (blkOk_by (own := [("one", 8)]) (N := N__law_told_way) (sc := (defScope s__law_told_way)) (by decide +kernel)) (fun _ _ _ _ _ => (dg_name (i := 8) nd rfl (Or.inl rfl))) (fun _ _ _ _ _ => (dts_one (dt_cmp (co_ne hr) (de_var (pv 8)) (de_var (pv 5)) (nomark _)))) (fun _ _ _ _ _ => (de_var (pv 8)))) (dss_one (ds_expr (de_app (pv 2) (de_var (pv 5)) (fun {_ _} => pe_bm PySem.F.plainAttrs_list PySem.F.slot_list_append PySem.F.type_list_append mt_append))))))) dss_nil)))) (dss_one (ds_ret (de_tup (da_cons (de_callTy cb_tuple (by rfl) T.b_tuple boot_tuple (da_cons (de_callB (cb_sortedS hr) (by rfl) T.b_sorted boot_sorted (da_cons (de_var (pv 2)) da_nil)) da_nil)) (da_cons (de_callTy cb_tuple (by rfl) T.b_tuple boot_tuple (da_cons (de_var (pv 1)) da_nil)) da_nil)))))))
theorem sc_in_time : FnScope N_in_time ["orders", "sequence"] (defScope s_in_time) := ⟨rfl, rfl, rfl, by decide +kernel, rfl, by decide +kernel, by decide +kernel⟩
theorem w_in_time (T : Txt mg) (C_is_ready : CalG P w K mg base 4 "is_ready" sp_is_ready) (C_is_integer : CalG P w K mg base 2 "is_integer" sp_is_integer) (f : Addr) (cdv : Value) (A : Around) (outer : List Env) (s : Shared) (H : Hp) (hr : RoomG 4 (A.deeper (PyProof.Rows.envOfC "in_time" (defScope s_in_time) s.heap.objs.size f cdv))) :
    DSs (cxOf CX0 P w K mg base N_in_time "in_time" (defScope s_in_time) f cdv A outer s H EN).nox (defBody s_in_time) t_in_time := by
  have nd := (sc_in_time).nd
  exact (dss_cons (ds_if (dt_not (dt_truth (de_callC (ms := [false]) C_is_ready hr (by decide) (by rfl) (da_cons (de_var (pv 0)) da_nil)))) (dss_one ds_never) dss_nil) (dss_cons (ds_if (dt_pw (dw_or (dt_not (dt_truth (de_isi (T := .tuple) (by rfl) T.b_isinstance (by rfl) T.b_tuple (by decide +kernel) (de_var (pv 1))))) (dw_or1 (dt_not (dt_truth (de_callB (cb_all rfl) (by rfl) T.b_all boot_all (da_cons (de_lcV [("one", 5)] rfl nd (dc_seq (de_var (pv 1))) (blkOk_by (own := [("one", 5)]) (N := N_in_time) (sc := (defScope s_in_time)) (by decide +kernel)) (fun _ _ _ _ _ => (dg_name (i := 5) nd rfl (Or.inl rfl))) (fun _ _ _ _ _ => dts_nil) (fun _ _ _ _ _ => (de_callC (ms := [false, false, false]) C_is_integer hr (by decide) (by rfl) (da_cons (de_var (pv 5)) (da_cons de_int (da_cons (de_op bo_sub (de_callB cb_len (by rfl) T.b_len boot_len (da_cons (de_var (pv 0)) da_nil)) de_int) da_nil)))))) da_nil))))))) (dss_one ds_never) dss_nil) (dss_cons (ds_if (dt_cmp co_lt (de_lenSet rfl (by rfl) T.b_len (by rfl) T.b_set (de_var (pv 1))) (de_callB cb_len (by rfl) T.b_len boot_len (da_cons (de_var (pv 1)) da_nil)) (nomark _)) (dss_one ds_never) dss_nil) (dss_cons (ds_par (i := 2) (j := 3) rfl nd rfl rfl (by decide) rfl rfl (da_cons (de_lst da_nil) (da_cons de_int da_nil)) (by rfl)) (dss_cons (ds_for PassesOwn.never rfl (di_seq (de_var (pv 1))) (dg_name (i := 4) nd rfl (Or.inl rfl)) (dss_cons (ds_set (i := 3) nd rfl (Or.inl rfl) (de_op bo_add (de_var (pv 3)) (de_ix io_ix (de_ix io_ix (de_var (pv 0)) (de_var (pv 4)) (fun _ _ => rfl)) (de_gI T.c_PAIR (by rfl)) (fun _ _ => rfl)))) (dss_one (ds_if (dt_cmp co_le (de_var (pv 3)) (de_ix io_ix (de_ix io_ix (de_var (pv 0)) (de_var (pv 4)) (fun _ _ => rfl)) de_int (fun _ _ => rfl)) (nomark _)) (dss_one (ds_expr (de_app (pv 2) (de_var (pv 4)) (fun {_ _} => pe_bm PySem.F.plainAttrs_list PySem.F.slot_list_append PySem.F.type_list_append mt_append)))) dss_nil)))) (dss_one (ds_ret (de_callTy cb_tuple (by rfl) T.b_tuple boot_tuple (da_cons (de_callB (cb_sortedS hr) (by rfl) T.b_sorted boot_sorted (da_cons (de_var (pv 2)) da_nil)) da_nil)))))))))
theorem sc__law_some : FnScope N__law_some ["pot", "pool", "many"] (defScope s__law_some) := ⟨rfl, rfl, rfl, by decide +kernel, rfl, by decide +kernel, by decide +kernel⟩
theorem w__law_some (T : Txt mg) (C__law_take : CalG P w K mg base 1 "_law_take" sp__law_take) (f : Addr) (cdv : Value) (A : Around) (outer : List Env) (s : Shared) (H : Hp) (hr : RoomG 1 (A.deeper (PyProof.Rows.envOfC "_law_some" (defScope s__law_some) s.heap.objs.size f cdv))) :
    DSs (cxOf CX0 P w K mg base N__law_some "_law_some" (defScope s__law_some) f cdv A outer s H EN).nox (defBody s__law_some) t__law_some := by
  have nd := (sc__law_some).nd
  exact (dss_cons (ds_par (i := 3) (j := 4) rfl nd rfl rfl (by decide) rfl rfl (da_cons (de_callTy cb_list (by rfl) T.b_list boot_list (da_cons (de_var (pv 1)) da_nil)) (da_cons (de_lst da_nil) da_nil)) (by rfl)) (dss_cons (ds_for PassesOwn.never rfl (di_rng1 (by rfl) T.b_range (da_cons (de_var (pv 2)) da_nil)) (dg_name (i := 5) nd rfl (Or.inl rfl)) (dss_one (ds_expr (de_app (pv 4) (de_popAt (pv 3) (de_callIoC (i := 0) (ms := [false]) C__law_take hr (by decide) (by rfl) (da_cons (de_var (pv 0)) (da_cons (de_callB cb_len (by rfl) T.b_len boot_len (da_cons (de_var (pv 3)) da_nil)) da_nil))) (fun {_ _} => pe_bm PySem.F.plainAttrs_list PySem.F.slot_list_pop PySem.F.type_list_pop mt_popAt)) (fun {_ _} => pe_bm PySem.F.plainAttrs_list PySem.F.slot_list_append PySem.F.type_list_append mt_append))))) (dss_one (ds_ret (de_var (pv 4))))))
theorem sc__law_in_time : FnScope N__law_in_time ["orders", "line"] (defScope s__law_in_time) := ⟨rfl, rfl, rfl, by decide +kernel, rfl, by decide +kernel, by decide +kernel⟩
theorem w__law_in_time (T : Txt mg) (f : Addr) (cdv : Value) (A : Around) (outer : List Env) (s : Shared) (H : Hp) (hr : RoomG 0 (A.deeper (PyProof.Rows.envOfC "_law_in_time" (defScope s__law_in_time) s.heap.objs.size f cdv))) :
    DSs (cxOf CX0 P w K mg base N__law_in_time "_law_in_time" (defScope s__law_in_time) f cdv A outer s H EN).nox (defBody s__law_in_time) t__law_in_time := by
  have nd := (sc__law_in_time).nd
  exact (dss_cons (ds_par (i := 2) (j := 3) rfl nd rfl rfl (by decide) rfl rfl (da_cons (de_lst da_nil) (da_cons de_int da_nil)) (by rfl)) (dss_cons (ds_for PassesOwn.never rfl (di_seq (de_var (pv 1))) (dg_name (i := 4) nd rfl (Or.inl rfl)) (dss_cons (ds_set (i := 3) nd rfl (Or.inl rfl) (de_op bo_add (de_var (pv 3)) (de_ix io_ix (de_ix io_ix (de_var (pv 0)) (de_var (pv 4)) (fun _ _ => rfl)) de_int (fun _ _ => rfl)))) (dss_one (ds_expr (de_ext (pv 2) (de_if (dt_cmp co_le (de_var (pv 3)) (de_ix io_ix (de_ix io_ix (de_var (pv 0)) (de_var (pv 4)) (fun _ _ => rfl)) de_int (fun _ _ => rfl)) (nomark _)) (de_lst (da_cons (de_var (pv 4)) da_nil)) (de_lst da_nil)) (fun {_ _} => pe_bm PySem.F.plainAttrs_list PySem.F.slot_list_extend PySem.F.type_list_extend mt_extend)))))) (dss_one (ds_ret (de_callTy cb_tuple (by rfl) T.b_tuple boot_tuple (da_cons (de_callB (cb_sortedS hr) (by rfl) T.b_sorted boot_sorted (da_cons (de_var (pv 2)) da_nil)) da_nil))))))
theorem sc_check_orders : FnScope N_check_orders ["value"] (defScope s_check_orders) := ⟨rfl, rfl, rfl, by decide +kernel, rfl, by decide +kernel, by decide +kernel⟩
theorem w_check_orders (T : Txt mg) (C_is_orders : CalG P w K mg base 3 "is_orders" sp_is_orders) (f : Addr) (cdv : Value) (A : Around) (outer : List Env) (s : Shared) (H : Hp) (hr : RoomG 3 (A.deeper (PyProof.Rows.envOfC "check_orders" (defScope s_check_orders) s.heap.objs.size f cdv))) :
    DSs (cxOf CX0 P w K mg base N_check_orders "check_orders" (defScope s_check_orders) f cdv A outer s H EN).nox (defBody s_check_orders) t_check_orders := by
  have nd := (sc_check_orders).nd
  exact (dss_one (ds_if (dt_not (dt_truth (de_callC (ms := [false]) C_is_orders hr (by decide) (by rfl) (da_cons (de_var (pv 0)) da_nil)))) (dss_one ds_never) dss_nil))
theorem sc_worked : FnScope N_worked ["orders", "dues"] (defScope s_worked) := ⟨rfl, rfl, rfl, by decide +kernel, rfl, by decide +kernel, by decide +kernel⟩
theorem w_worked (T : Txt mg) (f : Addr) (cdv : Value) (A : Around) (outer : List Env) (s : Shared) (H : Hp) (hr : RoomG 0 (A.deeper (PyProof.Rows.envOfC "worked" (defScope s_worked) s.heap.objs.size f cdv))) :
    DSs (cxOf CX0 P w K mg base N_worked "worked" (defScope s_worked) f cdv A outer s H EN).nox (defBody s_worked) t_worked := by
  have nd := (sc_worked).nd
  exact (dss_cons (ds_set (i := 2) nd rfl (Or.inr rfl) (de_lcV [("order", 10)] rfl nd (dc_seq (de_var (pv 0))) (blkOk_by (own := [("order", 10)]) (N := N_worked) (sc := (defScope s_worked)) (by decide +kernel)) (fun _ _ _ _ _ => (dg_name (i := 10) nd rfl (Or.inl rfl))) (fun _ _ _ _ _ => dts_nil) (fun _ _ _ _ _ => (de_ix io_ix (de_var (pv 10)) (de_gI T.c_PAIR (by rfl)) (fun _ _ => rfl))))) (dss_cons (ds_parT (is := [3, 4, 5]) rfl (da_cons (de_repL (da_cons de_int da_nil) (de_callB cb_len (by rfl) T.b_len boot_len (da_cons (de_var (pv 0)) da_nil))) (da_cons (de_lst da_nil) (da_cons (de_callB (cb_min1 rfl hr) (by rfl) T.b_min boot_min (da_cons (de_lcV [("order", 10)] rfl nd (dc_seq (de_var (pv 0))) (blkOk_by (own := [("order", 10)]) (N := N_worked) (sc := (defScope s_worked)) (by decide +kernel)) (fun _ _ _ _ _ => (dg_name (i := 10) nd rfl (Or.inl rfl))) (fun _ _ _ _ _ => dts_nil) (fun _ _ _ _ _ => (de_ix io_ix (de_var (pv 10)) de_int (fun _ _ => rfl)))) da_nil)) da_nil))) (pgs_cons (pg_name (i := 3) nd rfl (Or.inl rfl)) (pgs_cons (pg_name (i := 4) nd rfl (Or.inl rfl)) (pgs_cons (pg_name (i := 5) nd rfl (Or.inr rfl)) pgs_nil)))) (dss_cons (ds_while PassesOwn.never (dt_truth (de_callB (cb_anyT rfl) (by rfl) T.b_any boot_any (da_cons (de_var (pv 2)) da_nil))) (dss_cons (ds_setLcV (i := 6) [("at", 7), ("order", 10)] rfl nd rfl rfl (sw_true rfl rfl rfl (by decide +kernel)) (dc_enum (by rfl) T.b_enumerate (da_cons (de_var (pv 0)) da_nil)) (blkOk_by (own := [("at", 7), ("order", 10)]) (N := N_worked) (sc := (defScope s_worked)) (by decide +kernel)) (fun _ _ _ _ _ => (dg_tup rfl (dgs_cons (dg_name (i := 7) nd rfl (Or.inl rfl)) (dgs_cons (dg_name (i := 10) nd rfl (Or.inl rfl)) dgs_nil)))) (fun _ _ _ _ _ => (dts_one (dt_pw (dw_and (dt_cmp co_gt (de_ix io_ix (de_var (pv 2)) (de_var (pv 7)) (fun _ _ => rfl)) de_int (nomark _)) (dw_and1 (dt_cmp co_le (de_ix io_ix (de_var (pv 10)) de_int (fun _ _ => rfl)) (de_var (pv 5)) (nomark _))))))) (fun _ _ _ _ _ => (de_tup (da_cons (de_ix io_ix (de_var (pv 1)) (de_var (pv 7)) (fun _ _ => rfl)) (da_cons (de_var (pv 7)) da_nil))))) (dss_cons (ds_if (dt_cmp (co_eq hr) (de_var (pv 6)) (de_lst da_nil) (nomark _)) (dss_cons (ds_set (i := 5) nd rfl (Or.inr rfl) (de_callB (cb_min1 rfl hr) (by rfl) T.b_min boot_min (da_cons (de_lcV [("at", 7), ("order", 10)] rfl nd (dc_enum (by rfl) T.b_enumerate (da_cons (de_var (pv 0)) da_nil)) (blkOk_by (own := [("at", 7), ("order", 10)]) (N := N_worked) (sc := (defScope s_worked)) (by decide +kernel)) (fun _ _ _ _ _ => (dg_tup rfl (dgs_cons (dg_name (i := 7) nd rfl (Or.inl rfl)) (dgs_cons (dg_name (i := 10) nd rfl (Or.inl rfl)) dgs_nil)))) (fun _ _ _ _ _ => (dts_one (dt_cmp co_gt (de_ix io_ix (de_var (pv 2)) (de_var (pv 7)) (fun _ _ => rfl)) de_int (nomark _)))) (fun _ _ _ _ _ => (de_ix io_ix (de_var (pv 10)) de_int (fun _ _ => rfl)))) da_nil))) (dss_one ds_continue)) dss_nil) (dss_cons (ds_set (i := 7) nd rfl (Or.inl rfl) (de_ix io_ix (de_callB (cb_min1 rfl hr) (by rfl) T.b_min boot_min (da_cons (de_var (pv 6)) da_nil)) de_int (fun _ _ => rfl))) (dss_cons (ds_setLcV (i := 8) [("to", 11), ("order", 10)] rfl nd rfl rfl (sw_true rfl rfl rfl (by decide +kernel)) (dc_enum (by rfl) T.b_enumerate (da_cons (de_var (pv 0)) da_nil)) (blkOk_by (own := [("to", 11), ("order", 10)]) (N := N_worked) (sc := (defScope s_worked)) (by decide +kernel)) (fun _ _ _ _ _ => (dg_tup rfl (dgs_cons (dg_name (i := 11) nd rfl (Or.inl rfl)) (dgs_cons (dg_name (i := 10) nd rfl (Or.inl rfl)) dgs_nil)))) (fun _ _ _ _ _ => (dts_one (dt_pw (dw_and (dt_cmp co_gt (de_ix io_ix (de_var (pv 2)) (de_var (pv 11)) (fun _ _ => rfl)) de_int (nomark _)) (dw_and1 (dt_cmp co_gt (de_ix io_ix (de_var (pv 10)) de_int (fun _ _ => rfl)) (de_var (pv 5)) (nomark _))))))) (fun _ _ _ _ _ => (de_ix io_ix (de_var (pv 10)) de_int (fun _ _ => rfl)))) (dss_cons (ds_set (i := 9) nd rfl (Or.inl rfl) (de_callB (cb_min1 rfl hr) (by rfl) T.b_min boot_min (da_cons (de_lst (da_cons (de_op bo_add (de_var (pv 5)) (de_ix io_ix (de_var (pv 2)) (de_var (pv 7)) (fun _ _ => rfl))) (da_star (de_var (pv 8)) da_nil))) da_nil))) (dss_cons (ds_if (dt_pw (dw_and (dt_cmp (co_ne hr) (de_var (pv 4)) (de_lst da_nil) (nomark _)) (dw_and (dt_cmp (co_eq hr) (de_ix io_ix (de_ix io_ix (de_var (pv 4)) (de_un uo_neg de_int) (fun _ _ => rfl)) de_int (fun _ _ => rfl)) (de_var (pv 7)) (nomark _)) (dw_and1 (dt_cmp (co_eq hr) (de_ix io_ix (de_ix io_ix (de_var (pv 4)) (de_un uo_neg de_int) (fun _ _ => rfl)) (de_gI T.c_PAIR (by rfl)) (fun _ _ => rfl)) (de_var (pv 5)) (nomark _)))))) (dss_one (ds_setIx (de_tup (da_cons (de_var (pv 7)) (da_cons (de_ix io_ix (de_ix io_ix (de_var (pv 4)) (de_un uo_neg de_int) (fun _ _ => rfl)) de_int (fun _ _ => rfl)) (da_cons (de_var (pv 9)) da_nil)))) (pv 4) (de_un uo_neg de_int))) (dss_one (ds_expr (de_app (pv 4) (de_tup (da_cons (de_var (pv 7)) (da_cons (de_var (pv 5)) (da_cons (de_var (pv 9)) da_nil)))) (fun {_ _} => pe_bm PySem.F.plainAttrs_list PySem.F.slot_list_append PySem.F.type_list_append mt_append))))) (dss_cons (ds_parW rfl (da_cons (de_op bo_sub (de_ix io_ix (de_var (pv 2)) (de_var (pv 7)) (fun _ _ => rfl)) (de_op bo_sub (de_var (pv 9)) (de_var (pv 5)))) (da_cons (de_var (pv 9)) da_nil)) (dws_cons (dw_ix (pv 2) (de_var (pv 7))) (dws_cons (dw_of (dg_name (i := 5) nd rfl (Or.inr rfl))) dws_nil))) (dss_one (ds_setIx (de_var (pv 9)) (pv 3) (de_var (pv 7)))))))))))) (dss_one (ds_ret (de_tup (da_cons (de_var (pv 4)) (da_cons (de_var (pv 3)) da_nil))))))))
theorem sc_asked_in : FnScope N_asked_in ["orders", "dues", "span"] (defScope s_asked_in) := ⟨rfl, rfl, rfl, by decide +kernel, rfl, by decide +kernel, by decide +kernel⟩
theorem w_asked_in (T : Txt mg) (f : Addr) (cdv : Value) (A : Around) (outer : List Env) (s : Shared) (H : Hp) (hr : RoomG 0 (A.deeper (PyProof.Rows.envOfC "asked_in" (defScope s_asked_in) s.heap.objs.size f cdv))) :
    DSs (cxOf CX0 P w K mg base N_asked_in "asked_in" (defScope s_asked_in) f cdv A outer s H EN).nox (defBody s_asked_in) t_asked_in := by
  have nd := (sc_asked_in).nd
  exact (dss_cons (ds_unp (de_var (pv 2)) (dg_tup rfl (dgs_cons (dg_name (i := 3) nd rfl (Or.inr rfl)) (dgs_cons (dg_name (i := 4) nd rfl (Or.inr rfl)) dgs_nil)))) (dss_cons (ds_setLcV (i := 5) [("order", 6), ("due", 7)] rfl nd rfl rfl (sw_true rfl rfl rfl (by decide +kernel)) (dc_zip2 (by rfl) T.b_zip (da_cons (de_var (pv 0)) (da_cons (de_var (pv 1)) da_nil))) (blkOk_by (own := [("order", 6), ("due", 7)]) (N := N_asked_in) (sc := (defScope s_asked_in)) (by decide +kernel)) (fun _ _ _ _ _ => (dg_tup rfl (dgs_cons (dg_name (i := 6) nd rfl (Or.inl rfl)) (dgs_cons (dg_name (i := 7) nd rfl (Or.inl rfl)) dgs_nil)))) (fun _ _ _ _ _ => (dts_one (dt_pw (dw_and (dt_cmp co_ge (de_ix io_ix (de_var (pv 6)) de_int (fun _ _ => rfl)) (de_var (pv 3)) (nomark _)) (dw_and1 (dt_cmp co_le (de_var (pv 7)) (de_var (pv 4)) (nomark _))))))) (fun _ _ _ _ _ => (de_ix io_ix (de_var (pv 6)) (de_gI T.c_PAIR (by rfl)) (fun _ _ => rfl)))) (dss_one (ds_ret (de_callB (cb_sum rfl) (by rfl) T.b_sum boot_sum (da_cons (de_var (pv 5)) da_nil))))))
theorem sc_asks_too_much : FnScope N_asks_too_much ["orders", "dues"] (defScope s_asks_too_much) := ⟨rfl, rfl, rfl, by decide +kernel, rfl, by decide +kernel, by decide +kernel⟩
theorem w_asks_too_much (T : Txt mg) (C_asked_in : CalG P w K mg base 1 "asked_in" sp_asked_in) (f : Addr) (cdv : Value) (A : Around) (outer : List Env) (s : Shared) (H : Hp) (hr : RoomG 1 (A.deeper (PyProof.Rows.envOfC "asks_too_much" (defScope s_asks_too_much) s.heap.objs.size f cdv))) :
    DSs (cxOf CX0 P w K mg base N_asks_too_much "asks_too_much" (defScope s_asks_too_much) f cdv A outer s H EN).nox (defBody s_asks_too_much) t_asks_too_much := by
  have nd := (sc_asks_too_much).nd
  exact (dss_cons (ds_for PassesOwn.never rfl (di_seq (de_sortedSet rfl (by rfl) T.b_sorted (by rfl) T.b_set (de_lcV [("order", 4)] rfl nd (dc_seq (de_var (pv 0))) (blkOk_by (own := [("order", 4)]) (N := N_asks_too_much) (sc := (defScope s_asks_too_much)) (by decide +kernel)) (fun _ _ _ _ _ => (dg_name (i := 4) nd rfl (Or.inl rfl))) (fun _ _ _ _ _ => dts_nil) (fun _ _ _ _ _ => (de_ix io_ix (de_var (pv 4)) de_int (fun _ _ => rfl)))))) (dg_name (i := 2) nd rfl (Or.inl rfl)) (dss_one (ds_for PassesOwn.never rfl (di_seq (de_sortedSet rfl (by rfl) T.b_sorted (by rfl) T.b_set (de_var (pv 1)))) (dg_name (i := 3) nd rfl (Or.inl rfl)) (dss_one (ds_if (dt_cmp co_gt (de_callC (ms := [false, false, false]) C_asked_in hr (by decide) (by rfl) (da_cons (de_var (pv 0)) (da_cons (de_var (pv 1)) (da_cons (de_tup (da_cons (de_var (pv 2)) (da_cons (de_var (pv 3)) da_nil))) da_nil)))) (de_callB (cb_max2 rfl) (by rfl) T.b_max boot_max (da_cons de_int (da_cons (de_op bo_sub (de_var (pv 3)) (de_var (pv 2))) da_nil))) (nomark _)) (dss_one (ds_ret (de_tup (da_cons (de_var (pv 2)) (da_cons (de_var (pv 3)) da_nil))))) dss_nil))))) (dss_one (ds_ret de_non)))
theorem sc_kept : FnScope N_kept ["orders"] (defScope s_kept) := ⟨rfl, rfl, rfl, by decide +kernel, rfl, by decide +kernel, by decide +kernel⟩
theorem w_kept (T : Txt mg) (C_check_orders : CalG P w K mg base 4 "check_orders" sp_check_orders) (C_worked : CalG P w K mg base 1 "worked" sp_worked) (C_asks_too_much : CalG P w K mg base 2 "asks_too_much" sp_asks_too_much) (f : Addr) (cdv : Value) (A : Around) (outer : List Env) (s : Shared) (H : Hp) (hr : RoomG 4 (A.deeper (PyProof.Rows.envOfC "kept" (defScope s_kept) s.heap.objs.size f cdv))) :
    DSs (cxOf CX0 P w K mg base N_kept "kept" (defScope s_kept) f cdv A outer s H EN).nox (defBody s_kept) t_kept := by
  have nd := (sc_kept).nd
  exact (dss_cons (ds_expr (de_callC (ms := [false]) C_check_orders hr (by decide) (by rfl) (da_cons (de_var (pv 0)) da_nil))) (dss_cons (ds_setLcV (i := 1) [("order", 4)] rfl nd rfl rfl (sw_true rfl rfl rfl (by decide +kernel)) (dc_seq (de_var (pv 0))) (blkOk_by (own := [("order", 4)]) (N := N_kept) (sc := (defScope s_kept)) (by decide +kernel)) (fun _ _ _ _ _ => (dg_name (i := 4) nd rfl (Or.inl rfl))) (fun _ _ _ _ _ => dts_nil) (fun _ _ _ _ _ => (de_ix io_ix (de_var (pv 4)) de_int (fun _ _ => rfl)))) (dss_cons (ds_unp (de_callC (ms := [false, false]) C_worked hr (by decide) (by rfl) (da_cons (de_var (pv 0)) (da_cons (de_var (pv 1)) da_nil))) (dg_tup rfl (dgs_cons (dg_name (i := 2) nd rfl (Or.inl rfl)) (dgs_cons (dg_name (i := 3) nd rfl (Or.inl rfl)) dgs_nil)))) (dss_cons (ds_if (dt_truth (de_callB (cb_all rfl) (by rfl) T.b_all boot_all (da_cons (de_lcV [("end", 5), ("due", 6)] rfl nd (dc_zip2 (by rfl) T.b_zip (da_cons (de_var (pv 3)) (da_cons (de_var (pv 1)) da_nil))) (blkOk_by (own := [("end", 5), ("due", 6)]) (N := N_kept) (sc := (defScope s_kept)) (by decide +kernel)) (fun _ _ _ _ _ => (dg_tup rfl (dgs_cons (dg_name (i := 5) nd rfl (Or.inl rfl)) (dgs_cons (dg_name (i := 6) nd rfl (Or.inl rfl)) dgs_nil)))) (fun _ _ _ _ _ => dts_nil) (fun _ _ _ _ _ => (de_cmp co_le (de_var (pv 5)) (de_var (pv 6)) (nomark _)))) da_nil))) (dss_one (ds_ret (de_tup (da_cons (de_gS T.c_KEPT (by rfl)) (da_cons (de_callTy cb_tuple (by rfl) T.b_tuple boot_tuple (da_cons (de_var (pv 2)) da_nil)) da_nil))))) dss_nil) (dss_one (ds_ret (de_tup (da_cons (de_gS T.c_SPAN (by rfl)) (da_star (de_callC (ms := [false, false]) C_asks_too_much hr (by decide) (by rfl) (da_cons (de_var (pv 0)) (da_cons (de_var (pv 1)) da_nil))) da_nil)))))))))
theorem sc_least_late : FnScope N_least_late ["orders"] (defScope s_least_late) := ⟨rfl, rfl, rfl, by decide +kernel, rfl, by decide +kernel, by decide +kernel⟩
theorem w_least_late (T : Txt mg) (C_check_orders : CalG P w K mg base 4 "check_orders" sp_check_orders) (C_worked : CalG P w K mg base 1 "worked" sp_worked) (C_asks_too_much : CalG P w K mg base 2 "asks_too_much" sp_asks_too_much) (f : Addr) (cdv : Value) (A : Around) (outer : List Env) (s : Shared) (H : Hp) (hr : RoomG 4 (A.deeper (PyProof.Rows.envOfC "least_late" (defScope s_least_late) s.heap.objs.size f cdv))) :
    DSs (cxOf CX0 P w K mg base N_least_late "least_late" (defScope s_least_late) f cdv A outer s H EN).nox (defBody s_least_late) t_least_late := by
  have nd := (sc_least_late).nd
  exact (dss_cons (ds_expr (de_callC (ms := [false]) C_check_orders hr (by decide) (by rfl) (da_cons (de_var (pv 0)) da_nil))) (dss_cons (ds_setLcV (i := 1) [("order", 6)] rfl nd rfl rfl (sw_true rfl rfl rfl (by decide +kernel)) (dc_seq (de_var (pv 0))) (blkOk_by (own := [("order", 6)]) (N := N_least_late) (sc := (defScope s_least_late)) (by decide +kernel)) (fun _ _ _ _ _ => (dg_name (i := 6) nd rfl (Or.inl rfl))) (fun _ _ _ _ _ => dts_nil) (fun _ _ _ _ _ => (de_ix io_ix (de_var (pv 6)) de_int (fun _ _ => rfl)))) (dss_cons (ds_unp (de_callC (ms := [false, false]) C_worked hr (by decide) (by rfl) (da_cons (de_var (pv 0)) (da_cons (de_var (pv 1)) da_nil))) (dg_tup rfl (dgs_cons (dg_name (i := 2) nd rfl (Or.inl rfl)) (dgs_cons (dg_name (i := 3) nd rfl (Or.inl rfl)) dgs_nil)))) (dss_cons (ds_set (i := 4) nd rfl (Or.inr rfl) (de_callB (cb_max1 rfl hr) (by rfl) T.b_max boot_max (da_cons (de_lcV [("end", 7), ("due", 8)] rfl nd (dc_zip2 (by rfl) T.b_zip (da_cons (de_var (pv 3)) (da_cons (de_var (pv 1)) da_nil))) (blkOk_by (own := [("end", 7), ("due", 8)]) (N := N_least_late) (sc := (defScope s_least_late)) (by decide +kernel)) (fun _ _ _ _ _ => (dg_tup rfl (dgs_cons (dg_name (i := 7) nd rfl (Or.inl rfl)) (dgs_cons (dg_name (i := 8) nd rfl (Or.inl rfl)) dgs_nil)))) (fun _ _ _ _ _ => dts_nil) (fun _ _ _ _ _ => (de_op bo_sub (de_var (pv 7)) (de_var (pv 8))))) da_nil))) (dss_cons (ds_set (i := 5) nd rfl (Or.inl rfl) (de_callC (ms := [false, false]) C_asks_too_much hr (by decide) (by rfl) (da_cons (de_var (pv 0)) (da_cons (de_lcV [("due", 8)] rfl nd (dc_seq (de_var (pv 1))) (blkOk_by (own := [("due", 8)]) (N := N_least_late) (sc := (defScope s_least_late)) (by decide +kernel)) (fun _ _ _ _ _ => (dg_name (i := 8) nd rfl (Or.inl rfl))) (fun _ _ _ _ _ => dts_nil) (fun _ _ _ _ _ => (de_op bo_sub (de_op bo_add (de_var (pv 8)) (de_var (pv 4))) de_int))) da_nil)))) (dss_one (ds_ret (de_tup (da_cons (de_var (pv 4)) (da_cons (de_callTy cb_tuple (by rfl) T.b_tuple boot_tuple (da_cons (de_var (pv 2)) da_nil)) (da_cons (de_var (pv 5)) da_nil)))))))))))
theorem sc__law_is_late_right : FnScope N__law_is_late_right ["pot", "orders"] (defScope s__law_is_late_right) := ⟨rfl, rfl, rfl, by decide +kernel, rfl, by decide +kernel, by decide +kernel⟩
theorem w__law_is_late_right (T : Txt mg) (C__law_most_in_time : CalG P w K mg base 1 "_law_most_in_time" sp__law_most_in_time) (C_fewest_late : CalG P w K mg base 5 "fewest_late" sp_fewest_late) (C__law_told_way : CalG P w K mg base 1 "_law_told_way" sp__law_told_way) (C_in_time : CalG P w K mg base 5 "in_time" sp_in_time) (C__law_some : CalG P w K mg base 2 "_law_some" sp__law_some) (C__law_take : CalG P w K mg base 1 "_law_take" sp__law_take) (C__law_in_time : CalG P w K mg base 1 "_law_in_time" sp__law_in_time) (C_kept : CalG P w K mg base 5 "kept" sp_kept) (C_least_late : CalG P w K mg base 5 "least_late" sp_least_late) (f : Addr) (cdv : Value) (A : Around) (outer : List Env) (s : Shared) (H : Hp) (hr : RoomG 5 (A.deeper (PyProof.Rows.envOfC "_law_is_late_right" (defScope s__law_is_late_right) s.heap.objs.size f cdv))) :
    DSs (cxOf CX0 P w K mg base N__law_is_late_right "_law_is_late_right" (defScope s__law_is_late_right) f cdv A outer s H EN).nox (defBody s__law_is_late_right) t__law_is_late_right := by
  have nd := (sc__law_is_late_right).nd
  exact (dss_cons (ds_par (i := 2) (j := 3) rfl nd rfl rfl (by decide) rfl rfl (da_cons (de_callC (ms := [false]) C__law_most_in_time hr (by decide) (by rfl) (da_cons (de_var (pv 1)) da_nil)) (da_cons (de_callC (ms := [false]) C_fewest_late hr (by decide) (by rfl) (da_cons (de_var (pv 1)) da_nil)) da_nil)) (by rfl)) (dss_cons (ds_if (dt_pw (dw_or (dt_cmp (co_ne hr) (de_callB (cb_repr hr) (by rfl) T.b_repr boot_repr (da_cons (de_var (pv 3)) da_nil)) (de_callB (cb_repr hr) (by rfl) T.b_repr boot_repr (da_cons (de_callC (ms := [false]) C__law_told_way hr (by decide) (by rfl) (da_cons (de_var (pv 1)) da_nil)) da_nil)) (nomark _)) (dw_or (dt_cmp (co_ne hr) (de_callB cb_len (by rfl) T.b_len boot_len (da_cons (de_ix io_ix (de_var (pv 3)) de_int (fun _ _ => rfl)) da_nil)) (de_var (pv 2)) (nomark _)) (dw_or1 (dt_cmp (co_ne hr) (de_op bo_add (de_callB cb_len (by rfl) T.b_len boot_len (da_cons (de_ix io_ix (de_var (pv 3)) de_int (fun _ _ => rfl)) da_nil)) (de_var (pv 2))) (de_callB cb_len (by rfl) T.b_len boot_len (da_cons (de_var (pv 1)) da_nil)) (nomark _)))))) (dss_one (ds_ret de_bl)) dss_nil) (dss_cons (ds_if (dt_cmp (co_ne hr) (de_callC (ms := [false, false]) C_in_time hr (by decide) (by rfl) (da_cons (de_var (pv 1)) (da_cons (de_ix io_ix (de_var (pv 3)) de_int (fun _ _ => rfl)) da_nil))) (de_callTy cb_tuple (by rfl) T.b_tuple boot_tuple (da_cons (de_callB (cb_sortedS hr) (by rfl) T.b_sorted boot_sorted (da_cons (de_ix io_ix (de_var (pv 3)) de_int (fun _ _ => rfl)) da_nil)) da_nil)) (nomark _)) (dss_one (ds_ret de_bl)) dss_nil) (dss_cons (ds_set (i := 4) nd rfl (Or.inl rfl) (de_callTy cb_tuple (by rfl) T.b_tuple boot_tuple (da_cons (de_lcV [("at", 6)] rfl nd (dc_seq (de_callIoC (i := 0) (ms := [false, false]) C__law_some hr (by decide) (by rfl) (da_cons (de_var (pv 0)) (da_cons (de_lstRg rfl (by rfl) T.b_list (drg_1 (by rfl) T.b_range (de_callB cb_len (by rfl) T.b_len boot_len (da_cons (de_var (pv 1)) da_nil)))) (da_cons (de_callTy cb_int (by rfl) T.b_int boot_int (da_cons (de_callIoC (i := 0) (ms := [false]) C__law_take hr (by decide) (by rfl) (da_cons (de_var (pv 0)) (da_cons (de_op bo_add (de_callB cb_len (by rfl) T.b_len boot_len (da_cons (de_var (pv 1)) da_nil)) de_int) da_nil))) da_nil)) da_nil))))) (blkOk_by (own := [("at", 6)]) (N := N__law_is_late_right) (sc := (defScope s__law_is_late_right)) (by decide +kernel)) (fun _ _ _ _ _ => (dg_name (i := 6) nd rfl (Or.inl rfl))) (fun _ _ _ _ _ => dts_nil) (fun _ _ _ _ _ => (de_callTy cb_int (by rfl) T.b_int boot_int (da_cons (de_var (pv 6)) da_nil)))) da_nil))) (dss_cons (ds_set (i := 5) nd rfl (Or.inl rfl) (de_callC (ms := [false, false]) C_in_time hr (by decide) (by rfl) (da_cons (de_var (pv 1)) (da_cons (de_var (pv 4)) da_nil)))) (dss_cons (ds_if (dt_pw (dw_or (dt_cmp (co_ne hr) (de_callB (cb_repr hr) (by rfl) T.b_repr boot_repr (da_cons (de_var (pv 5)) da_nil)) (de_callB (cb_repr hr) (by rfl) T.b_repr boot_repr (da_cons (de_callC (ms := [false, false]) C__law_in_time hr (by decide) (by rfl) (da_cons (de_var (pv 1)) (da_cons (de_var (pv 4)) da_nil))) da_nil)) (nomark _)) (dw_or1 (dt_cmp co_gt (de_callB cb_len (by rfl) T.b_len boot_len (da_cons (de_var (pv 5)) da_nil)) (de_var (pv 2)) (nomark _))))) (dss_one (ds_ret de_bl)) dss_nil) (dss_cons (ds_if (dt_pw (dw_or (dt_cmp (co_ne hr) (de_cmp (co_eq hr) (de_var (pv 2)) (de_callB cb_len (by rfl) T.b_len boot_len (da_cons (de_var (pv 1)) da_nil)) (nomark _)) (de_cmp (co_eq hr) (de_ix io_ix (de_callC (ms := [false]) C_kept hr (by decide) (by rfl) (da_cons (de_var (pv 1)) da_nil)) de_int (fun _ _ => rfl)) de_str (nomark _)) (nomark _)) (dw_or1 (dt_cmp (co_ne hr) (de_cmp (co_eq hr) (de_var (pv 2)) (de_callB cb_len (by rfl) T.b_len boot_len (da_cons (de_var (pv 1)) da_nil)) (nomark _)) (de_cmp co_le (de_ix io_ix (de_callC (ms := [false]) C_least_late hr (by decide) (by rfl) (da_cons (de_var (pv 1)) da_nil)) de_int (fun _ _ => rfl)) de_int (nomark _)) (nomark _))))) (dss_one (ds_ret de_bl)) dss_nil) (dss_cons (ds_set (i := 6) nd rfl (Or.inl rfl) (de_callTy cb_int (by rfl) T.b_int boot_int (da_cons (de_callIoC (i := 0) (ms := [false]) C__law_take hr (by decide) (by rfl) (da_cons (de_var (pv 0)) (da_cons (de_callB cb_len (by rfl) T.b_len boot_len (da_cons (de_var (pv 1)) da_nil)) da_nil))) da_nil))) (dss_cons (ds_if (dt_cmp co_gt (de_callB cb_len (by rfl) T.b_len boot_len (da_cons (de_var (pv 1)) da_nil)) de_int (nomark _)) (dss_cons (ds_set (i := 7) nd rfl (Or.inl rfl) (de_op bo_add (de_slice sl_any (de_var (pv 1)) dpo_none (dpo_some (de_var (pv 6)))) (de_slice sl_any (de_var (pv 1)) (dpo_some (de_op bo_add (de_var (pv 6)) de_int)) dpo_none))) (dss_cons (ds_set (i := 8) nd rfl (Or.inl rfl) (de_callC (ms := [false]) C__law_most_in_time hr (by decide) (by rfl) (da_cons (de_var (pv 7)) da_nil))) (dss_one (ds_if (dt_pw (dw_or (dt_not (dt_chain co_le co_le (de_op bo_sub (de_var (pv 2)) de_int) (de_var (pv 8)) (de_var (pv 2)))) (dw_or1 (dt_cmp (co_ne hr) (de_callB cb_len (by rfl) T.b_len boot_len (da_cons (de_ix io_ix (de_callC (ms := [false]) C_fewest_late hr (by decide) (by rfl) (da_cons (de_var (pv 7)) da_nil)) de_int (fun _ _ => rfl)) da_nil)) (de_var (pv 8)) (nomark _))))) (dss_one (ds_ret de_bl)) dss_nil)))) dss_nil) (dss_one (ds_ret de_bl)))))))))))
theorem sc_is_weights : FnScope N_is_weights ["orders", "value"] (defScope s_is_weights) := ⟨rfl, rfl, rfl, by decide +kernel, rfl, by decide +kernel, by decide +kernel⟩
theorem w_is_weights (T : Txt mg) (C_is_tuple : CalG P w K mg base 1 "is_tuple" sp_is_tuple) (C_is_integer : CalG P w K mg base 2 "is_integer" sp_is_integer) (f : Addr) (cdv : Value) (A : Around) (outer : List Env) (s : Shared) (H : Hp) (hr : RoomG 2 (A.deeper (PyProof.Rows.envOfC "is_weights" (defScope s_is_weights) s.heap.objs.size f cdv))) :
    DSs (cxOf CX0 P w K mg base N_is_weights "is_weights" (defScope s_is_weights) f cdv A outer s H EN).nox (defBody s_is_weights) t_is_weights := by
  have nd := (sc_is_weights).nd
  exact (dss_cons (ds_set (i := 2) nd rfl (Or.inl rfl) (de_callB cb_len (by rfl) T.b_len boot_len (da_cons (de_var (pv 0)) da_nil))) (dss_one (ds_ret (de_and (de_callC (ms := [false, false, false]) C_is_tuple hr (by decide) (by rfl) (da_cons (de_var (pv 1)) (da_cons (de_var (pv 2)) (da_cons (de_var (pv 2)) da_nil)))) (de_one (de_callB (cb_all rfl) (by rfl) T.b_all boot_all (da_cons (de_lcV [("one", 3)] rfl nd (dc_seq (de_var (pv 1))) (blkOk_by (own := [("one", 3)]) (N := N_is_weights) (sc := (defScope s_is_weights)) (by decide +kernel)) (fun _ _ _ _ _ => (dg_name (i := 3) nd rfl (Or.inl rfl))) (fun _ _ _ _ _ => dts_nil) (fun _ _ _ _ _ => (de_callC (ms := [false, false, false]) C_is_integer hr (by decide) (by rfl) (da_cons (de_var (pv 3)) (da_cons de_int (da_cons (de_gI T.c_MOST_WEIGHT (by rfl)) da_nil)))))) da_nil)))))))
theorem sc_is_ahead : FnScope N_is_ahead ["orders", "weights", "one", "other"] (defScope s_is_ahead) := ⟨rfl, rfl, rfl, by decide +kernel, rfl, by decide +kernel, by decide +kernel⟩
theorem w_is_ahead (T : Txt mg) (f : Addr) (cdv : Value) (A : Around) (outer : List Env) (s : Shared) (H : Hp) (hr : RoomG 0 (A.deeper (PyProof.Rows.envOfC "is_ahead" (defScope s_is_ahead) s.heap.objs.size f cdv))) :
    DSs (cxOf CX0 P w K mg base N_is_ahead "is_ahead" (defScope s_is_ahead) f cdv A outer s H EN).nox (defBody s_is_ahead) t_is_ahead := by
  have nd := (sc_is_ahead).nd
  exact (dss_one (ds_ret (de_cmp co_gt (de_op bo_mul (de_ix io_ix (de_var (pv 1)) (de_var (pv 2)) (fun _ _ => rfl)) (de_ix io_ix (de_ix io_ix (de_var (pv 0)) (de_var (pv 3)) (fun _ _ => rfl)) (de_gI T.c_PAIR (by rfl)) (fun _ _ => rfl))) (de_op bo_mul (de_ix io_ix (de_var (pv 1)) (de_var (pv 3)) (fun _ _ => rfl)) (de_ix io_ix (de_ix io_ix (de_var (pv 0)) (de_var (pv 2)) (fun _ _ => rfl)) (de_gI T.c_PAIR (by rfl)) (fun _ _ => rfl))) (nomark _))))
theorem sc_wait_of : FnScope N_wait_of ["orders", "weights", "sequence"] (defScope s_wait_of) := ⟨rfl, rfl, rfl, by decide +kernel, rfl, by decide +kernel, by decide +kernel⟩
theorem w_wait_of (T : Txt mg) (f : Addr) (cdv : Value) (A : Around) (outer : List Env) (s : Shared) (H : Hp) (hr : RoomG 0 (A.deeper (PyProof.Rows.envOfC "wait_of" (defScope s_wait_of) s.heap.objs.size f cdv))) :
    DSs (cxOf CX0 P w K mg base N_wait_of "wait_of" (defScope s_wait_of) f cdv A outer s H EN).nox (defBody s_wait_of) t_wait_of := by
  have nd := (sc_wait_of).nd
  exact (dss_cons (ds_parT (is := [3, 4]) rfl (da_cons de_int (da_cons de_int da_nil)) (pgs_cons (pg_name (i := 3) nd rfl (Or.inl rfl)) (pgs_cons (pg_name (i := 4) nd rfl (Or.inl rfl)) pgs_nil))) (dss_cons (ds_for PassesOwn.never rfl (di_seq (de_var (pv 2))) (dg_name (i := 5) nd rfl (Or.inl rfl)) (dss_cons (ds_set (i := 3) nd rfl (Or.inl rfl) (de_op bo_add (de_var (pv 3)) (de_ix io_ix (de_ix io_ix (de_var (pv 0)) (de_var (pv 5)) (fun _ _ => rfl)) (de_gI T.c_PAIR (by rfl)) (fun _ _ => rfl)))) (dss_one (ds_set (i := 4) nd rfl (Or.inl rfl) (de_op bo_add (de_var (pv 4)) (de_op bo_mul (de_ix io_ix (de_var (pv 1)) (de_var (pv 5)) (fun _ _ => rfl)) (de_var (pv 3)))))))) (dss_one (ds_ret (de_var (pv 4))))))
theorem sc_least_wait : FnScope N_least_wait ["orders", "weights"] (defScope s_least_wait) := ⟨rfl, rfl, rfl, by decide +kernel, rfl, by decide +kernel, by decide +kernel⟩
theorem w_least_wait (T : Txt mg) (C_is_ready : CalG P w K mg base 4 "is_ready" sp_is_ready) (C_is_weights : CalG P w K mg base 3 "is_weights" sp_is_weights) (C_is_ahead : CalG P w K mg base 1 "is_ahead" sp_is_ahead) (C_wait_of : CalG P w K mg base 1 "wait_of" sp_wait_of) (f : Addr) (cdv : Value) (A : Around) (outer : List Env) (s : Shared) (H : Hp) (hr : RoomG 4 (A.deeper (PyProof.Rows.envOfC "least_wait" (defScope s_least_wait) s.heap.objs.size f cdv))) :
    DSs (cxOf CX0 P w K mg base N_least_wait "least_wait" (defScope s_least_wait) f cdv A outer s H EN).nox (defBody s_least_wait) t_least_wait := by
  have nd := (sc_least_wait).nd
  exact (dss_cons (ds_if (dt_not (dt_truth (de_callC (ms := [false]) C_is_ready hr (by decide) (by rfl) (da_cons (de_var (pv 0)) da_nil)))) (dss_one ds_never) dss_nil) (dss_cons (ds_if (dt_not (dt_truth (de_callC (ms := [false, false]) C_is_weights hr (by decide) (by rfl) (da_cons (de_var (pv 0)) (da_cons (de_var (pv 1)) da_nil))))) (dss_one ds_never) dss_nil) (dss_cons (ds_set (i := 2) nd rfl (Or.inl rfl) (de_lst da_nil)) (dss_cons (ds_for PassesOwn.never rfl (di_enum (by rfl) T.b_enumerate (da_cons (de_var (pv 0)) da_nil)) (dg_tup rfl (dgs_cons (dg_name (i := 3) nd rfl (Or.inl rfl)) (dgs_cons (dg_name (i := 4) nd rfl (Or.inl rfl)) dgs_nil))) (dss_cons (ds_set (i := 5) nd rfl (Or.inl rfl) de_int) (dss_cons (ds_while PassesOwn.never (dt_pw (dw_and (dt_cmp co_lt (de_var (pv 5)) (de_callB cb_len (by rfl) T.b_len boot_len (da_cons (de_var (pv 2)) da_nil)) (nomark _)) (dw_and1 (dt_not (dt_truth (de_callC (ms := [false, false, false, false]) C_is_ahead hr (by decide) (by rfl) (da_cons (de_var (pv 0)) (da_cons (de_var (pv 1)) (da_cons (de_var (pv 3)) (da_cons (de_ix io_ix (de_var (pv 2)) (de_var (pv 5)) (fun _ _ => rfl)) da_nil)))))))))) (dss_one (ds_set (i := 5) nd rfl (Or.inl rfl) (de_op bo_add (de_var (pv 5)) de_int)))) (dss_one (ds_expr (de_ins (pv 2) (de_var (pv 5)) (de_var (pv 3)) (fun {_ _ _} hm => pe_bm PySem.F.plainAttrs_list PySem.F.slot_list_insert PySem.F.type_list_insert hm))))))) (dss_one (ds_ret (de_tup (da_cons (de_callC (ms := [false, false, false]) C_wait_of hr (by decide) (by rfl) (da_cons (de_var (pv 0)) (da_cons (de_var (pv 1)) (da_cons (de_var (pv 2)) da_nil)))) (da_cons (de_callTy cb_tuple (by rfl) T.b_tuple boot_tuple (da_cons (de_var (pv 2)) da_nil)) da_nil)))))))))
theorem sc__law_wait : FnScope N__law_wait ["orders", "weights", "line"] (defScope s__law_wait) := ⟨rfl, rfl, rfl, by decide +kernel, rfl, by decide +kernel, by decide +kernel⟩
theorem w__law_wait (T : Txt mg) (f : Addr) (cdv : Value) (A : Around) (outer : List Env) (s : Shared) (H : Hp) (hr : RoomG 0 (A.deeper (PyProof.Rows.envOfC "_law_wait" (defScope s__law_wait) s.heap.objs.size f cdv))) :
    DSs (cxOf CX0 P w K mg base N__law_wait "_law_wait" (defScope s__law_wait) f cdv A outer s H EN).nox (defBody s__law_wait) t__law_wait := by
  have nd := (sc__law_wait).nd
  exact (dss_cons (ds_parT (is := [3, 4]) rfl (da_cons de_int (da_cons de_int da_nil)) (pgs_cons (pg_name (i := 3) nd rfl (Or.inl rfl)) (pgs_cons (pg_name (i := 4) nd rfl (Or.inl rfl)) pgs_nil))) (dss_cons (ds_for PassesOwn.never rfl (di_seq (de_var (pv 2))) (dg_name (i := 5) nd rfl (Or.inl rfl)) (dss_cons (ds_set (i := 4) nd rfl (Or.inl rfl) (de_op bo_add (de_var (pv 4)) (de_ix io_ix (de_ix io_ix (de_var (pv 0)) (de_var (pv 5)) (fun _ _ => rfl)) de_int (fun _ _ => rfl)))) (dss_one (ds_set (i := 3) nd rfl (Or.inl rfl) (de_op bo_add (de_var (pv 3)) (de_op bo_mul (de_ix io_ix (de_var (pv 1)) (de_var (pv 5)) (fun _ _ => rfl)) (de_var (pv 4)))))))) (dss_one (ds_ret (de_var (pv 3))))))
theorem sc__law_is_wait_right : FnScope N__law_is_wait_right ["pot", "orders"] (defScope s__law_is_wait_right) := ⟨rfl, rfl, rfl, by decide +kernel, rfl, by decide +kernel, by decide +kernel⟩
theorem w__law_is_wait_right (T : Txt mg) (C__law_of : CalG P w K mg base 2 "_law_of" sp__law_of) (C__law_take : CalG P w K mg base 1 "_law_take" sp__law_take) (C_least_wait : CalG P w K mg base 5 "least_wait" sp_least_wait) (C__law_wait : CalG P w K mg base 1 "_law_wait" sp__law_wait) (C__law_some : CalG P w K mg base 2 "_law_some" sp__law_some) (f : Addr) (cdv : Value) (A : Around) (outer : List Env) (s : Shared) (H : Hp) (hr : RoomG 5 (A.deeper (PyProof.Rows.envOfC "_law_is_wait_right" (defScope s__law_is_wait_right) s.heap.objs.size f cdv))) :
    DSs (cxOf CX0 P w K mg base N__law_is_wait_right "_law_is_wait_right" (defScope s__law_is_wait_right) f cdv A outer s H EN).nox (defBody s__law_is_wait_right) t__law_is_wait_right := by
  have nd := (sc__law_is_wait_right).nd
  exact (dss_cons (ds_set (i := 2) nd rfl (Or.inr rfl) (de_lcV [("order", 11)] rfl nd (dc_seq (de_var (pv 1))) (blkOk_by (own := [("order", 11)]) (N := N__law_is_wait_right) (sc := (defScope s__law_is_wait_right)) (by decide +kernel)) (fun _ _ _ _ _ => (dg_name (i := 11) nd rfl (Or.inl rfl))) (fun _ _ _ _ _ => dts_nil) (fun _ _ _ _ _ => (de_callTy cb_int (by rfl) T.b_int boot_int (da_cons (de_callIoC (i := 0) (ms := [false]) C__law_of hr (by decide) (by rfl) (da_cons (de_var (pv 0)) (da_cons (de_lst (da_cons de_int (da_cons de_int (da_cons de_int (da_cons (de_callTy cb_int (by rfl) T.b_int boot_int (da_cons (de_callIoC (i := 0) (ms := [false]) C__law_take hr (by decide) (by rfl) (da_cons (de_var (pv 0)) (da_cons de_int da_nil))) da_nil)) da_nil))))) da_nil))) da_nil))))) (dss_cons (ds_if (dt_cmp (co_eq hr) (de_callIoC (i := 0) (ms := [false]) C__law_take hr (by decide) (by rfl) (da_cons (de_var (pv 0)) (da_cons de_int da_nil))) de_int (nomark _)) (dss_one (ds_set (i := 2) nd rfl (Or.inr rfl) (de_repL (da_cons (de_ix io_ix (de_var (pv 2)) de_int (fun _ _ => rfl)) da_nil) (de_callB cb_len (by rfl) T.b_len boot_len (da_cons (de_var (pv 1)) da_nil))))) dss_nil) (dss_cons (ds_set (i := 3) nd rfl (Or.inl rfl) (de_callC (ms := [false, false]) C_least_wait hr (by decide) (by rfl) (da_cons (de_var (pv 1)) (da_cons (de_callTy cb_tuple (by rfl) T.b_tuple boot_tuple (da_cons (de_var (pv 2)) da_nil)) da_nil)))) (dss_cons (ds_if (dt_pw (dw_or (dt_cmp (co_ne hr) (de_callB (cb_sortedS hr) (by rfl) T.b_sorted boot_sorted (da_cons (de_ix io_ix (de_var (pv 3)) de_int (fun _ _ => rfl)) da_nil)) (de_lstRg rfl (by rfl) T.b_list (drg_1 (by rfl) T.b_range (de_callB cb_len (by rfl) T.b_len boot_len (da_cons (de_var (pv 1)) da_nil)))) (nomark _)) (dw_or1 (dt_cmp (co_ne hr) (de_callC (ms := [false, false, false]) C__law_wait hr (by decide) (by rfl) (da_cons (de_var (pv 1)) (da_cons (de_var (pv 2)) (da_cons (de_ix io_ix (de_var (pv 3)) de_int (fun _ _ => rfl)) da_nil)))) (de_ix io_ix (de_var (pv 3)) de_int (fun _ _ => rfl)) (nomark _))))) (dss_one (ds_ret de_bl)) dss_nil) (dss_cons (ds_set (i := 4) nd rfl (Or.inl rfl) (de_lst da_nil)) (dss_cons (ds_for PassesOwn.never rfl (di_rng1 (by rfl) T.b_range (da_cons (de_callB cb_len (by rfl) T.b_len boot_len (da_cons (de_var (pv 1)) da_nil)) da_nil)) (dg_name (i := 5) nd rfl (Or.inr rfl)) (dss_cons (ds_set (i := 6) nd rfl (Or.inl rfl) (de_callB cb_len (by rfl) T.b_len boot_len (da_cons (de_lcV [("one", 12)] rfl nd (dc_seq (de_var (pv 4))) (blkOk_by (own := [("one", 12)]) (N := N__law_is_wait_right) (sc := (defScope s__law_is_wait_right)) (by decide +kernel)) (fun _ _ _ _ _ => (dg_name (i := 12) nd rfl (Or.inl rfl))) (fun _ _ _ _ _ => (dts_one (dt_cmp co_ge (de_op bo_mul (de_ix io_ix (de_var (pv 2)) (de_var (pv 12)) (fun _ _ => rfl)) (de_ix io_ix (de_ix io_ix (de_var (pv 1)) (de_var (pv 5)) (fun _ _ => rfl)) de_int (fun _ _ => rfl))) (de_op bo_mul (de_ix io_ix (de_var (pv 2)) (de_var (pv 5)) (fun _ _ => rfl)) (de_ix io_ix (de_ix io_ix (de_var (pv 1)) (de_var (pv 12)) (fun _ _ => rfl)) de_int (fun _ _ => rfl))) (nomark _)))) (fun _ _ _ _ _ => (de_var (pv 12)))) da_nil))) (dss_one (ds_expr (de_ins (pv 4) (de_var (pv 6)) (de_var (pv 5)) (fun {_ _ _} hm => pe_bm PySem.F.plainAttrs_list PySem.F.slot_list_insert PySem.F.type_list_insert hm)))))) (dss_cons (ds_if (dt_cmp (co_ne hr) (de_callC (ms := [false, false, false]) C__law_wait hr (by decide) (by rfl) (da_cons (de_var (pv 1)) (da_cons (de_var (pv 2)) (da_cons (de_var (pv 4)) da_nil)))) (de_ix io_ix (de_var (pv 3)) de_int (fun _ _ => rfl)) (nomark _)) (dss_one (ds_ret de_bl)) dss_nil) (dss_cons (ds_for PassesOwn.never rfl (di_rng1 (by rfl) T.b_range (da_cons de_int da_nil)) (dg_name (i := 7) nd rfl (Or.inl rfl)) (dss_cons (ds_setLcV (i := 8) [("at", 5)] rfl nd rfl rfl (sw_true rfl rfl rfl (by decide +kernel)) (dc_seq (de_callIoC (i := 0) (ms := [false, false]) C__law_some hr (by decide) (by rfl) (da_cons (de_var (pv 0)) (da_cons (de_var (pv 4)) (da_cons (de_callB cb_len (by rfl) T.b_len boot_len (da_cons (de_var (pv 4)) da_nil)) da_nil))))) (blkOk_by (own := [("at", 5)]) (N := N__law_is_wait_right) (sc := (defScope s__law_is_wait_right)) (by decide +kernel)) (fun _ _ _ _ _ => (dg_name (i := 5) nd rfl (Or.inl rfl))) (fun _ _ _ _ _ => dts_nil) (fun _ _ _ _ _ => (de_callTy cb_int (by rfl) T.b_int boot_int (da_cons (de_var (pv 5)) da_nil)))) (dss_one (ds_if (dt_cmp co_lt (de_callC (ms := [false, false, false]) C__law_wait hr (by decide) (by rfl) (da_cons (de_var (pv 1)) (da_cons (de_var (pv 2)) (da_cons (de_var (pv 8)) da_nil)))) (de_ix io_ix (de_var (pv 3)) de_int (fun _ _ => rfl)) (nomark _)) (dss_one (ds_ret de_bl)) dss_nil)))) (dss_cons (ds_for PassesOwn.never rfl (di_rng1 (by rfl) T.b_range (da_cons (de_op bo_sub (de_callB cb_len (by rfl) T.b_len boot_len (da_cons (de_var (pv 4)) da_nil)) de_int) da_nil)) (dg_name (i := 5) nd rfl (Or.inr rfl)) (dss_cons (ds_set (i := 9) nd rfl (Or.inl rfl) (de_op bo_add (de_op bo_add (de_slice sl_any (de_ix io_ix (de_var (pv 3)) de_int (fun _ _ => rfl)) dpo_none (dpo_some (de_var (pv 5)))) (de_tup (da_cons (de_ix io_ix (de_ix io_ix (de_var (pv 3)) de_int (fun _ _ => rfl)) (de_op bo_add (de_var (pv 5)) de_int) (fun _ _ => rfl)) (da_cons (de_ix io_ix (de_ix io_ix (de_var (pv 3)) de_int (fun _ _ => rfl)) (de_var (pv 5)) (fun _ _ => rfl)) da_nil)))) (de_slice sl_any (de_ix io_ix (de_var (pv 3)) de_int (fun _ _ => rfl)) (dpo_some (de_op bo_add (de_var (pv 5)) de_int)) dpo_none))) (dss_one (ds_if (dt_cmp co_lt (de_callC (ms := [false, false, false]) C__law_wait hr (by decide) (by rfl) (da_cons (de_var (pv 1)) (da_cons (de_var (pv 2)) (da_cons (de_var (pv 9)) da_nil)))) (de_ix io_ix (de_var (pv 3)) de_int (fun _ _ => rfl)) (nomark _)) (dss_one (ds_ret de_bl)) dss_nil)))) (dss_cons (ds_if (dt_pw (dw_and (dt_cmp co_le (de_callB (cb_max1 rfl hr) (by rfl) T.b_max boot_max (da_cons (de_var (pv 2)) da_nil)) de_int (nomark _)) (dw_and1 (dt_cmp (co_ne hr) (de_ix io_ix (de_callC (ms := [false, false]) C_least_wait hr (by decide) (by rfl) (da_cons (de_var (pv 1)) (da_cons (de_callTy cb_tuple (by rfl) T.b_tuple boot_tuple (da_cons (de_lcV [("one", 12)] rfl nd (dc_seq (de_var (pv 2))) (blkOk_by (own := [("one", 12)]) (N := N__law_is_wait_right) (sc := (defScope s__law_is_wait_right)) (by decide +kernel)) (fun _ _ _ _ _ => (dg_name (i := 12) nd rfl (Or.inl rfl))) (fun _ _ _ _ _ => dts_nil) (fun _ _ _ _ _ => (de_op bo_mul de_int (de_var (pv 12))))) da_nil)) da_nil))) de_int (fun _ _ => rfl)) (de_op bo_mul de_int (de_ix io_ix (de_var (pv 3)) de_int (fun _ _ => rfl))) (nomark _))))) (dss_one (ds_ret de_bl)) dss_nil) (dss_cons (ds_set (i := 10) nd rfl (Or.inl rfl) (de_callTy cb_tuple (by rfl) T.b_tuple boot_tuple (da_cons (de_lcV [("ready", 13), ("due", 14), ("minutes", 15)] rfl nd (dc_seq (de_var (pv 1))) (blkOk_by (own := [("ready", 13), ("due", 14), ("minutes", 15)]) (N := N__law_is_wait_right) (sc := (defScope s__law_is_wait_right)) (by decide +kernel)) (fun _ _ _ _ _ => (dg_tup rfl (dgs_cons (dg_name (i := 13) nd rfl (Or.inl rfl)) (dgs_cons (dg_name (i := 14) nd rfl (Or.inl rfl)) (dgs_cons (dg_name (i := 15) nd rfl (Or.inl rfl)) dgs_nil))))) (fun _ _ _ _ _ => dts_nil) (fun _ _ _ _ _ => (de_tup (da_cons de_int (da_cons (de_callB (cb_min2 rfl) (by rfl) T.b_min boot_min (da_cons (de_op bo_pow de_int de_int) (da_cons (de_op bo_mul de_int (de_var (pv 14))) da_nil))) (da_cons (de_op bo_mul de_int (de_var (pv 15))) da_nil)))))) da_nil))) (dss_one (ds_ret (de_cmp (co_eq hr) (de_ix io_ix (de_callC (ms := [false, false]) C_least_wait hr (by decide) (by rfl) (da_cons (de_var (pv 10)) (da_cons (de_callTy cb_tuple (by rfl) T.b_tuple boot_tuple (da_cons (de_var (pv 2)) da_nil)) da_nil))) de_int (fun _ _ => rfl)) (de_op bo_mul de_int (de_ix io_ix (de_var (pv 3)) de_int (fun _ _ => rfl))) (nomark _)))))))))))))))
theorem sc__law_right : FnScope N__law_right ["pot"] (defScope s__law_right) := ⟨rfl, rfl, rfl, by decide +kernel, rfl, by decide +kernel, by decide +kernel⟩
theorem w__law_right (T : Txt mg) (C__law_orders : CalG P w K mg base 3 "_law_orders" sp__law_orders) (C__law_is_late_right : CalG P w K mg base 6 "_law_is_late_right" sp__law_is_late_right) (C__law_is_wait_right : CalG P w K mg base 6 "_law_is_wait_right" sp__law_is_wait_right) (f : Addr) (cdv : Value) (A : Around) (outer : List Env) (s : Shared) (H : Hp) (hr : RoomG 6 (A.deeper (PyProof.Rows.envOfC "_law_right" (defScope s__law_right) s.heap.objs.size f cdv))) :
    DSs (cxOf CX0 P w K mg base N__law_right "_law_right" (defScope s__law_right) f cdv A outer s H EN).nox (defBody s__law_right) t__law_right := by
  have nd := (sc__law_right).nd
  exact (dss_cons (ds_set (i := 1) nd rfl (Or.inl rfl) (de_callIoC (i := 0) (ms := []) C__law_orders hr (by decide) (by rfl) (da_cons (de_var (pv 0)) da_nil))) (dss_one (ds_ret (de_and (de_callIoC (i := 0) (ms := [false]) C__law_is_late_right hr (by decide) (by rfl) (da_cons (de_var (pv 0)) (da_cons (de_var (pv 1)) da_nil))) (de_one (de_callIoC (i := 0) (ms := [false]) C__law_is_wait_right hr (by decide) (by rfl) (da_cons (de_var (pv 0)) (da_cons (de_var (pv 1)) da_nil))))))))
theorem sc_law : FnScope N_law ["script"] (defScope s_law) := ⟨rfl, rfl, rfl, by decide +kernel, rfl, by decide +kernel, by decide +kernel⟩
theorem w_law (T : Txt mg) (C__law_places : CalG P w K mg base 1 "_law_places" sp__law_places) (C__law_pot : CalG P w K mg base 1 "_law_pot" sp__law_pot) (C__law_right : CalG P w K mg base 7 "_law_right" sp__law_right) (f : Addr) (cdv : Value) (A : Around) (outer : List Env) (s : Shared) (H : Hp) (hr : RoomG 7 (A.deeper (PyProof.Rows.envOfC "law" (defScope s_law) s.heap.objs.size f cdv))) :
    DSs (cxOf CX0 P w K mg base N_law "law" (defScope s_law) f cdv A outer s H EN).nox (defBody s_law) t_law := by
  have nd := (sc_law).nd
  exact (dss_cons (ds_for PassesOwn.never rfl (di_seq (de_callC (ms := [false, false]) C__law_places hr (by decide) (by rfl) (da_cons (de_var (pv 0)) (da_cons de_int da_nil)))) (dg_name (i := 1) nd rfl (Or.inl rfl)) (dss_cons (ds_set (i := 2) nd rfl (Or.inr rfl) (de_callC (ms := [false, false]) C__law_pot hr (by decide) (by rfl) (da_cons (de_var (pv 0)) (da_cons (de_var (pv 1)) da_nil)))) (dss_one (ds_if (dt_not (dt_truth (de_callB (cb_all rfl) (by rfl) T.b_all boot_all (da_cons (de_lcV [("lap", 3)] rfl nd (dc_of (di_rng1 (by rfl) T.b_range (da_cons de_int da_nil))) (blkOk_by (own := [("lap", 3)]) (N := N_law) (sc := (defScope s_law)) (by decide +kernel)) (fun _ _ _ _ _ => (dg_name (i := 3) nd rfl (Or.inl rfl))) (fun _ _ _ _ _ => dts_nil) (fun _ _ _ _ _ => (de_callIoC (i := 2) (ms := []) C__law_right hr (by decide) (by rfl) (da_cons (de_var (pv 2)) da_nil)))) da_nil)))) (dss_one (ds_ret de_bl)) dss_nil)))) (dss_one (ds_ret de_bl)))
end
end K23
set_option Elab.async false
set_option linter.all false
set_option maxRecDepth 100000
set_option maxHeartbeats 4000000
namespace K23
open PySem L2 DL
open PyProof.Rows (boot_repr boot_sum boot_all boot_any boot_max boot_min boot_abs boot_int boot_list boot_tuple boot_sorted)
section
variable {P : Program} {w : World} {K : PySem.W.Frag} {mg : Str → Option Value} {base : Heap}
theorem g__law_places (T : Txt mg) {f : Addr} {fd : FuncData} (Fn : Fun K "_law_places" "_law_places" s__law_places f fd) : FnG P w K mg base 1 f fd ["script", "most"] (toSp K sp__law_places) :=
  fn_d Fn sc__law_places sp__law_places len__law_places t__law_places (fun cdv A outer s H hc hr => w__law_places T  f cdv A outer s H hr) ok__law_places
theorem g__law_pot (T : Txt mg) {f : Addr} {fd : FuncData} (Fn : Fun K "_law_pot" "_law_pot" s__law_pot f fd) : FnG P w K mg base 1 f fd ["script", "place"] (toSp K sp__law_pot) :=
  fn_d Fn sc__law_pot sp__law_pot len__law_pot t__law_pot (fun cdv A outer s H hc hr => w__law_pot T  f cdv A outer s H hr) ok__law_pot
theorem g__law_take (T : Txt mg) {f : Addr} {fd : FuncData} (Fn : Fun K "_law_take" "_law_take" s__law_take f fd) : FnG P w K mg base 1 f fd ["pot", "upto"] (toSp K sp__law_take) :=
  fn_d Fn sc__law_take sp__law_take len__law_take t__law_take (fun cdv A outer s H hc hr => w__law_take T  f cdv A outer s H hr) ok__law_take
theorem g__law_of (T : Txt mg) (C__law_take : CalG P w K mg base 1 "_law_take" sp__law_take) {f : Addr} {fd : FuncData} (Fn : Fun K "_law_of" "_law_of" s__law_of f fd) : FnG P w K mg base 2 f fd ["pot", "some"] (toSp K sp__law_of) :=
  fn_d Fn sc__law_of sp__law_of len__law_of t__law_of (fun cdv A outer s H hc hr => w__law_of T C__law_take f cdv A outer s H hr) ok__law_of
theorem g__law_orders (T : Txt mg) (C__law_of : CalG P w K mg base 2 "_law_of" sp__law_of) (C__law_take : CalG P w K mg base 1 "_law_take" sp__law_take) {f : Addr} {fd : FuncData} (Fn : Fun K "_law_orders" "_law_orders" s__law_orders f fd) : FnG P w K mg base 3 f fd ["pot"] (toSp K sp__law_orders) :=
  fn_d Fn sc__law_orders sp__law_orders len__law_orders t__law_orders (fun cdv A outer s H hc hr => w__law_orders T C__law_of C__law_take f cdv A outer s H hr) ok__law_orders
theorem g__law_most_in_time (T : Txt mg) {f : Addr} {fd : FuncData} (Fn : Fun K "_law_most_in_time" "_law_most_in_time" s__law_most_in_time f fd) (LM : LamAt K mg base "_law_most_in_time.<locals>.<lambda>" fd.code) : FnG P w K mg base 1 f fd ["orders"] (toSp K sp__law_most_in_time) :=
  fn_d Fn sc__law_most_in_time sp__law_most_in_time len__law_most_in_time t__law_most_in_time (fun cdv A outer s H hc hr => w__law_most_in_time T  f cdv A outer s H hr (by rw [← hc]; exact LM)) ok__law_most_in_time
theorem g_is_tuple (T : Txt mg) {f : Addr} {fd : FuncData} (Fn : Fun K "is_tuple" "is_tuple" s_is_tuple f fd) : FnG P w K mg base 1 f fd ["value", "least", "most"] (toSp K sp_is_tuple) :=
  fn_d Fn sc_is_tuple sp_is_tuple len_is_tuple t_is_tuple (fun cdv A outer s H hc hr => w_is_tuple T  f cdv A outer s H hr) ok_is_tuple
theorem g_is_whole (T : Txt mg) {f : Addr} {fd : FuncData} (Fn : Fun K "is_whole" "is_whole" s_is_whole f fd) : FnG P w K mg base 1 f fd ["value"] (toSp K sp_is_whole) :=
  fn_d Fn sc_is_whole sp_is_whole len_is_whole t_is_whole (fun cdv A outer s H hc hr => w_is_whole T  f cdv A outer s H hr) ok_is_whole
theorem g_is_integer (T : Txt mg) (C_is_whole : CalG P w K mg base 1 "is_whole" sp_is_whole) {f : Addr} {fd : FuncData} (Fn : Fun K "is_integer" "is_integer" s_is_integer f fd) : FnG P w K mg base 2 f fd ["value", "low", "high"] (toSp K sp_is_integer) :=
  fn_d Fn sc_is_integer sp_is_integer len_is_integer t_is_integer (fun cdv A outer s H hc hr => w_is_integer T C_is_whole f cdv A outer s H hr) ok_is_integer
theorem g_is_orders (T : Txt mg) (C_is_tuple : CalG P w K mg base 1 "is_tuple" sp_is_tuple) (C_is_integer : CalG P w K mg base 2 "is_integer" sp_is_integer) {f : Addr} {fd : FuncData} (Fn : Fun K "is_orders" "is_orders" s_is_orders f fd) : FnG P w K mg base 3 f fd ["value"] (toSp K sp_is_orders) :=
  fn_d Fn sc_is_orders sp_is_orders len_is_orders t_is_orders (fun cdv A outer s H hc hr => w_is_orders T C_is_tuple C_is_integer f cdv A outer s H hr) ok_is_orders
theorem g_is_ready (T : Txt mg) (C_is_orders : CalG P w K mg base 3 "is_orders" sp_is_orders) {f : Addr} {fd : FuncData} (Fn : Fun K "is_ready" "is_ready" s_is_ready f fd) : FnG P w K mg base 4 f fd ["value"] (toSp K sp_is_ready) :=
  fn_d Fn sc_is_ready sp_is_ready len_is_ready t_is_ready (fun cdv A outer s H hc hr => w_is_ready T C_is_orders f cdv A outer s H hr) ok_is_ready
theorem g_fewest_late (T : Txt mg) (C_is_ready : CalG P w K mg base 4 "is_ready" sp_is_ready) {f : Addr} {fd : FuncData} (Fn : Fun K "fewest_late" "fewest_late" s_fewest_late f fd) : FnG P w K mg base 5 f fd ["orders"] (toSp K sp_fewest_late) :=
  fn_d Fn sc_fewest_late sp_fewest_late len_fewest_late t_fewest_late (fun cdv A outer s H hc hr => w_fewest_late T C_is_ready f cdv A outer s H hr) ok_fewest_late
theorem g__law_told_way (T : Txt mg) {f : Addr} {fd : FuncData} (Fn : Fun K "_law_told_way" "_law_told_way" s__law_told_way f fd) : FnG P w K mg base 1 f fd ["orders"] (toSp K sp__law_told_way) :=
  fn_d Fn sc__law_told_way sp__law_told_way len__law_told_way t__law_told_way (fun cdv A outer s H hc hr => w__law_told_way T  f cdv A outer s H hr) ok__law_told_way
theorem g_in_time (T : Txt mg) (C_is_ready : CalG P w K mg base 4 "is_ready" sp_is_ready) (C_is_integer : CalG P w K mg base 2 "is_integer" sp_is_integer) {f : Addr} {fd : FuncData} (Fn : Fun K "in_time" "in_time" s_in_time f fd) : FnG P w K mg base 5 f fd ["orders", "sequence"] (toSp K sp_in_time) :=
  fn_d Fn sc_in_time sp_in_time len_in_time t_in_time (fun cdv A outer s H hc hr => w_in_time T C_is_ready C_is_integer f cdv A outer s H hr) ok_in_time
theorem g__law_some (T : Txt mg) (C__law_take : CalG P w K mg base 1 "_law_take" sp__law_take) {f : Addr} {fd : FuncData} (Fn : Fun K "_law_some" "_law_some" s__law_some f fd) : FnG P w K mg base 2 f fd ["pot", "pool", "many"] (toSp K sp__law_some) :=
  fn_d Fn sc__law_some sp__law_some len__law_some t__law_some (fun cdv A outer s H hc hr => w__law_some T C__law_take f cdv A outer s H hr) ok__law_some
theorem g__law_in_time (T : Txt mg) {f : Addr} {fd : FuncData} (Fn : Fun K "_law_in_time" "_law_in_time" s__law_in_time f fd) : FnG P w K mg base 1 f fd ["orders", "line"] (toSp K sp__law_in_time) :=
  fn_d Fn sc__law_in_time sp__law_in_time len__law_in_time t__law_in_time (fun cdv A outer s H hc hr => w__law_in_time T  f cdv A outer s H hr) ok__law_in_time
theorem g_check_orders (T : Txt mg) (C_is_orders : CalG P w K mg base 3 "is_orders" sp_is_orders) {f : Addr} {fd : FuncData} (Fn : Fun K "check_orders" "check_orders" s_check_orders f fd) : FnG P w K mg base 4 f fd ["value"] (toSp K sp_check_orders) :=
  fn_d Fn sc_check_orders sp_check_orders len_check_orders t_check_orders (fun cdv A outer s H hc hr => w_check_orders T C_is_orders f cdv A outer s H hr) ok_check_orders
theorem g_worked (T : Txt mg) {f : Addr} {fd : FuncData} (Fn : Fun K "worked" "worked" s_worked f fd) : FnG P w K mg base 1 f fd ["orders", "dues"] (toSp K sp_worked) :=
  fn_d Fn sc_worked sp_worked len_worked t_worked (fun cdv A outer s H hc hr => w_worked T  f cdv A outer s H hr) ok_worked
theorem g_asked_in (T : Txt mg) {f : Addr} {fd : FuncData} (Fn : Fun K "asked_in" "asked_in" s_asked_in f fd) : FnG P w K mg base 1 f fd ["orders", "dues", "span"] (toSp K sp_asked_in) :=
  fn_d Fn sc_asked_in sp_asked_in len_asked_in t_asked_in (fun cdv A outer s H hc hr => w_asked_in T  f cdv A outer s H hr) ok_asked_in
theorem g_asks_too_much (T : Txt mg) (C_asked_in : CalG P w K mg base 1 "asked_in" sp_asked_in) {f : Addr} {fd : FuncData} (Fn : Fun K "asks_too_much" "asks_too_much" s_asks_too_much f fd) : FnG P w K mg base 2 f fd ["orders", "dues"] (toSp K sp_asks_too_much) :=
  fn_d Fn sc_asks_too_much sp_asks_too_much len_asks_too_much t_asks_too_much (fun cdv A outer s H hc hr => w_asks_too_much T C_asked_in f cdv A outer s H hr) ok_asks_too_much
theorem g_kept (T : Txt mg) (C_check_orders : CalG P w K mg base 4 "check_orders" sp_check_orders) (C_worked : CalG P w K mg base 1 "worked" sp_worked) (C_asks_too_much : CalG P w K mg base 2 "asks_too_much" sp_asks_too_much) {f : Addr} {fd : FuncData} (Fn : Fun K "kept" "kept" s_kept f fd) : FnG P w K mg base 5 f fd ["orders"] (toSp K sp_kept) :=
  fn_d Fn sc_kept sp_kept len_kept t_kept (fun cdv A outer s H hc hr => w_kept T C_check_orders C_worked C_asks_too_much f cdv A outer s H hr) ok_kept
theorem g_least_late (T : Txt mg) (C_check_orders : CalG P w K mg base 4 "check_orders" sp_check_orders) (C_worked : CalG P w K mg base 1 "worked" sp_worked) (C_asks_too_much : CalG P w K mg base 2 "asks_too_much" sp_asks_too_much) {f : Addr} {fd : FuncData} (Fn : Fun K "least_late" "least_late" s_least_late f fd) : FnG P w K mg base 5 f fd ["orders"] (toSp K sp_least_late) :=
  fn_d Fn sc_least_late sp_least_late len_least_late t_least_late (fun cdv A outer s H hc hr => w_least_late T C_check_orders C_worked C_asks_too_much f cdv A outer s H hr) ok_least_late
theorem g__law_is_late_right (T : Txt mg) (C__law_most_in_time : CalG P w K mg base 1 "_law_most_in_time" sp__law_most_in_time) (C_fewest_late : CalG P w K mg base 5 "fewest_late" sp_fewest_late) (C__law_told_way : CalG P w K mg base 1 "_law_told_way" sp__law_told_way) (C_in_time : CalG P w K mg base 5 "in_time" sp_in_time) (C__law_some : CalG P w K mg base 2 "_law_some" sp__law_some) (C__law_take : CalG P w K mg base 1 "_law_take" sp__law_take) (C__law_in_time : CalG P w K mg base 1 "_law_in_time" sp__law_in_time) (C_kept : CalG P w K mg base 5 "kept" sp_kept) (C_least_late : CalG P w K mg base 5 "least_late" sp_least_late) {f : Addr} {fd : FuncData} (Fn : Fun K "_law_is_late_right" "_law_is_late_right" s__law_is_late_right f fd) : FnG P w K mg base 6 f fd ["pot", "orders"] (toSp K sp__law_is_late_right) :=
  fn_d Fn sc__law_is_late_right sp__law_is_late_right len__law_is_late_right t__law_is_late_right (fun cdv A outer s H hc hr => w__law_is_late_right T C__law_most_in_time C_fewest_late C__law_told_way C_in_time C__law_some C__law_take C__law_in_time C_kept C_least_late f cdv A outer s H hr) ok__law_is_late_right
theorem g_is_weights (T : Txt mg) (C_is_tuple : CalG P w K mg base 1 "is_tuple" sp_is_tuple) (C_is_integer : CalG P w K mg base 2 "is_integer" sp_is_integer) {f : Addr} {fd : FuncData} (Fn : Fun K "is_weights" "is_weights" s_is_weights f fd) : FnG P w K mg base 3 f fd ["orders", "value"] (toSp K sp_is_weights) :=
  fn_d Fn sc_is_weights sp_is_weights len_is_weights t_is_weights (fun cdv A outer s H hc hr => w_is_weights T C_is_tuple C_is_integer f cdv A outer s H hr) ok_is_weights
theorem g_is_ahead (T : Txt mg) {f : Addr} {fd : FuncData} (Fn : Fun K "is_ahead" "is_ahead" s_is_ahead f fd) : FnG P w K mg base 1 f fd ["orders", "weights", "one", "other"] (toSp K sp_is_ahead) :=
  fn_d Fn sc_is_ahead sp_is_ahead len_is_ahead t_is_ahead (fun cdv A outer s H hc hr => w_is_ahead T  f cdv A outer s H hr) ok_is_ahead
theorem g_wait_of (T : Txt mg) {f : Addr} {fd : FuncData} (Fn : Fun K "wait_of" "wait_of" s_wait_of f fd) : FnG P w K mg base 1 f fd ["orders", "weights", "sequence"] (toSp K sp_wait_of) :=
  fn_d Fn sc_wait_of sp_wait_of len_wait_of t_wait_of (fun cdv A outer s H hc hr => w_wait_of T  f cdv A outer s H hr) ok_wait_of
theorem g_least_wait (T : Txt mg) (C_is_ready : CalG P w K mg base 4 "is_ready" sp_is_ready) (C_is_weights : CalG P w K mg base 3 "is_weights" sp_is_weights) (C_is_ahead : CalG P w K mg base 1 "is_ahead" sp_is_ahead) (C_wait_of : CalG P w K mg base 1 "wait_of" sp_wait_of) {f : Addr} {fd : FuncData} (Fn : Fun K "least_wait" "least_wait" s_least_wait f fd) : FnG P w K mg base 5 f fd ["orders", "weights"] (toSp K sp_least_wait) :=
  fn_d Fn sc_least_wait sp_least_wait len_least_wait t_least_wait (fun cdv A outer s H hc hr => w_least_wait T C_is_ready C_is_weights C_is_ahead C_wait_of f cdv A outer s H hr) ok_least_wait
theorem g__law_wait (T : Txt mg) {f : Addr} {fd : FuncData} (Fn : Fun K "_law_wait" "_law_wait" s__law_wait f fd) : FnG P w K mg base 1 f fd ["orders", "weights", "line"] (toSp K sp__law_wait) :=
  fn_d Fn sc__law_wait sp__law_wait len__law_wait t__law_wait (fun cdv A outer s H hc hr => w__law_wait T  f cdv A outer s H hr) ok__law_wait
theorem g__law_is_wait_right (T : Txt mg) (C__law_of : CalG P w K mg base 2 "_law_of" sp__law_of) (C__law_take : CalG P w K mg base 1 "_law_take" sp__law_take) (C_least_wait : CalG P w K mg base 5 "least_wait" sp_least_wait) (C__law_wait : CalG P w K mg base 1 "_law_wait" sp__law_wait) (C__law_some : CalG P w K mg base 2 "_law_some" sp__law_some) {f : Addr} {fd : FuncData} (Fn : Fun K "_law_is_wait_right" "_law_is_wait_right" s__law_is_wait_right f fd) : FnG P w K mg base 6 f fd ["pot", "orders"] (toSp K sp__law_is_wait_right) :=
  fn_d Fn sc__law_is_wait_right sp__law_is_wait_right len__law_is_wait_right t__law_is_wait_right (fun cdv A outer s H hc hr => w__law_is_wait_right T C__law_of C__law_take C_least_wait C__law_wait C__law_some f cdv A outer s H hr) ok__law_is_wait_right
theorem g__law_right (T : Txt mg) (C__law_orders : CalG P w K mg base 3 "_law_orders" sp__law_orders) (C__law_is_late_right : CalG P w K mg base 6 "_law_is_late_right" sp__law_is_late_right) (C__law_is_wait_right : CalG P w K mg base 6 "_law_is_wait_right" sp__law_is_wait_right) {f : Addr} {fd : FuncData} (Fn : Fun K "_law_right" "_law_right" s__law_right f fd) : FnG P w K mg base 7 f fd ["pot"] (toSp K sp__law_right) :=
  fn_d Fn sc__law_right sp__law_right len__law_right t__law_right (fun cdv A outer s H hc hr => w__law_right T C__law_orders C__law_is_late_right C__law_is_wait_right f cdv A outer s H hr) ok__law_right
theorem g_law (T : Txt mg) (C__law_places : CalG P w K mg base 1 "_law_places" sp__law_places) (C__law_pot : CalG P w K mg base 1 "_law_pot" sp__law_pot) (C__law_right : CalG P w K mg base 7 "_law_right" sp__law_right) {f : Addr} {fd : FuncData} (Fn : Fun K "law" "law" s_law f fd) : FnG P w K mg base 8 f fd ["script"] (toSp K lawSp) :=
  fn_d Fn sc_law lawSp len_law t_law (fun cdv A outer s H hc hr => w_law T C__law_places C__law_pot C__law_right f cdv A outer s H hr) ok_law
end
theorem all_mk {l : PySem.W.OpenLaw} {w : World} {K : Params → PySem.W.Frag} {h : Heap} {mg : Str → Option Value} {fa f1 f2 f3 f4 f5 f6 f7 f8 f9 f10 f11 f12 f13 f14 f15 f16 f17 f18 f19 f20 f21 f22 f23 f24 f25 f26 f27 f28 f29 f30 f31 : Addr} (X : (K w.params).In h) (G : h.Ns mainGlobals mg) (hfa : mg "law" = some (.ref fa)) {q : Program} (lk : lamOkB q (K w.params) = true)
    {od1 an1 : Option Addr} {sl1 : Array (Option Value)} {oc1 kV1 dc1 pm1 cd1 ct1 : Value}
    (a1 : PySem.W.nsIn (K w.params) mainGlobals "_law_places" = some (some (.ref f1))) (l1 : (K w.params).lookup f1 = some ⟨oc1, od1, .func (PySem.W.fnOf "_law_places" "_law_places" (defArgs s__law_places) (defBody s__law_places) (defScope s__law_places) .none kV1 dc1 pm1 an1 cd1 ct1), sl1⟩) (c1 : PySem.W.codeIn (K w.params) cd1 "_law_places" = true) (k1 : PySem.W.keepIn (K w.params) (.ref f1) = true)
    {od2 an2 : Option Addr} {sl2 : Array (Option Value)} {oc2 kV2 dc2 pm2 cd2 ct2 : Value}
    (a2 : PySem.W.nsIn (K w.params) mainGlobals "_law_pot" = some (some (.ref f2))) (l2 : (K w.params).lookup f2 = some ⟨oc2, od2, .func (PySem.W.fnOf "_law_pot" "_law_pot" (defArgs s__law_pot) (defBody s__law_pot) (defScope s__law_pot) .none kV2 dc2 pm2 an2 cd2 ct2), sl2⟩) (c2 : PySem.W.codeIn (K w.params) cd2 "_law_pot" = true) (k2 : PySem.W.keepIn (K w.params) (.ref f2) = true)
    {od3 an3 : Option Addr} {sl3 : Array (Option Value)} {oc3 kV3 dc3 pm3 cd3 ct3 : Value}
    (a3 : PySem.W.nsIn (K w.params) mainGlobals "_law_take" = some (some (.ref f3))) (l3 : (K w.params).lookup f3 = some ⟨oc3, od3, .func (PySem.W.fnOf "_law_take" "_law_take" (defArgs s__law_take) (defBody s__law_take) (defScope s__law_take) .none kV3 dc3 pm3 an3 cd3 ct3), sl3⟩) (c3 : PySem.W.codeIn (K w.params) cd3 "_law_take" = true) (k3 : PySem.W.keepIn (K w.params) (.ref f3) = true)
    {od4 an4 : Option Addr} {sl4 : Array (Option Value)} {oc4 kV4 dc4 pm4 cd4 ct4 : Value}
    (a4 : PySem.W.nsIn (K w.params) mainGlobals "_law_of" = some (some (.ref f4))) (l4 : (K w.params).lookup f4 = some ⟨oc4, od4, .func (PySem.W.fnOf "_law_of" "_law_of" (defArgs s__law_of) (defBody s__law_of) (defScope s__law_of) .none kV4 dc4 pm4 an4 cd4 ct4), sl4⟩) (c4 : PySem.W.codeIn (K w.params) cd4 "_law_of" = true) (k4 : PySem.W.keepIn (K w.params) (.ref f4) = true)
    {od5 an5 : Option Addr} {sl5 : Array (Option Value)} {oc5 kV5 dc5 pm5 cd5 ct5 : Value}
    (a5 : PySem.W.nsIn (K w.params) mainGlobals "_law_orders" = some (some (.ref f5))) (l5 : (K w.params).lookup f5 = some ⟨oc5, od5, .func (PySem.W.fnOf "_law_orders" "_law_orders" (defArgs s__law_orders) (defBody s__law_orders) (defScope s__law_orders) .none kV5 dc5 pm5 an5 cd5 ct5), sl5⟩) (c5 : PySem.W.codeIn (K w.params) cd5 "_law_orders" = true) (k5 : PySem.W.keepIn (K w.params) (.ref f5) = true)
    {od6 an6 : Option Addr} {sl6 : Array (Option Value)} {oc6 kV6 dc6 pm6 cd6 ct6 : Value}
    (a6 : PySem.W.nsIn (K w.params) mainGlobals "_law_most_in_time" = some (some (.ref f6))) (l6 : (K w.params).lookup f6 = some ⟨oc6, od6, .func (PySem.W.fnOf "_law_most_in_time" "_law_most_in_time" (defArgs s__law_most_in_time) (defBody s__law_most_in_time) (defScope s__law_most_in_time) .none kV6 dc6 pm6 an6 cd6 ct6), sl6⟩) (c6 : PySem.W.codeIn (K w.params) cd6 "_law_most_in_time" = true) (k6 : PySem.W.keepIn (K w.params) (.ref f6) = true)
    {od7 an7 : Option Addr} {sl7 : Array (Option Value)} {oc7 kV7 dc7 pm7 cd7 ct7 : Value}
    (a7 : PySem.W.nsIn (K w.params) mainGlobals "is_tuple" = some (some (.ref f7))) (l7 : (K w.params).lookup f7 = some ⟨oc7, od7, .func (PySem.W.fnOf "is_tuple" "is_tuple" (defArgs s_is_tuple) (defBody s_is_tuple) (defScope s_is_tuple) .none kV7 dc7 pm7 an7 cd7 ct7), sl7⟩) (c7 : PySem.W.codeIn (K w.params) cd7 "is_tuple" = true) (k7 : PySem.W.keepIn (K w.params) (.ref f7) = true)
    {od8 an8 : Option Addr} {sl8 : Array (Option Value)} {oc8 kV8 dc8 pm8 cd8 ct8 : Value}
    (a8 : PySem.W.nsIn (K w.params) mainGlobals "is_whole" = some (some (.ref f8))) (l8 : (K w.params).lookup f8 = some ⟨oc8, od8, .func (PySem.W.fnOf "is_whole" "is_whole" (defArgs s_is_whole) (defBody s_is_whole) (defScope s_is_whole) .none kV8 dc8 pm8 an8 cd8 ct8), sl8⟩) (c8 : PySem.W.codeIn (K w.params) cd8 "is_whole" = true) (k8 : PySem.W.keepIn (K w.params) (.ref f8) = true)
    {od9 an9 : Option Addr} {sl9 : Array (Option Value)} {oc9 kV9 dc9 pm9 cd9 ct9 : Value}
    (a9 : PySem.W.nsIn (K w.params) mainGlobals "is_integer" = some (some (.ref f9))) (l9 : (K w.params).lookup f9 = some ⟨oc9, od9, .func (PySem.W.fnOf "is_integer" "is_integer" (defArgs s_is_integer) (defBody s_is_integer) (defScope s_is_integer) .none kV9 dc9 pm9 an9 cd9 ct9), sl9⟩) (c9 : PySem.W.codeIn (K w.params) cd9 "is_integer" = true) (k9 : PySem.W.keepIn (K w.params) (.ref f9) = true)
    {od10 an10 : Option Addr} {sl10 : Array (Option Value)} {oc10 kV10 dc10 pm10 cd10 ct10 : Value}
    (a10 : PySem.W.nsIn (K w.params) mainGlobals "is_orders" = some (some (.ref f10))) (l10 : (K w.params).lookup f10 = some ⟨oc10, od10, .func (PySem.W.fnOf "is_orders" "is_orders" (defArgs s_is_orders) (defBody s_is_orders) (defScope s_is_orders) .none kV10 dc10 pm10 an10 cd10 ct10), sl10⟩) (c10 : PySem.W.codeIn (K w.params) cd10 "is_orders" = true) (k10 : PySem.W.keepIn (K w.params) (.ref f10) = true)
    {od11 an11 : Option Addr} {sl11 : Array (Option Value)} {oc11 kV11 dc11 pm11 cd11 ct11 : Value}
    (a11 : PySem.W.nsIn (K w.params) mainGlobals "is_ready" = some (some (.ref f11))) (l11 : (K w.params).lookup f11 = some ⟨oc11, od11, .func (PySem.W.fnOf "is_ready" "is_ready" (defArgs s_is_ready) (defBody s_is_ready) (defScope s_is_ready) .none kV11 dc11 pm11 an11 cd11 ct11), sl11⟩) (c11 : PySem.W.codeIn (K w.params) cd11 "is_ready" = true) (k11 : PySem.W.keepIn (K w.params) (.ref f11) = true)
    {od12 an12 : Option Addr} {sl12 : Array (Option Value)} {oc12 kV12 dc12 pm12 cd12 ct12 : Value}
    (a12 : PySem.W.nsIn (K w.params) mainGlobals "fewest_late" = some (some (.ref f12))) (l12 : (K w.params).lookup f12 = some ⟨oc12, od12, .func (PySem.W.fnOf "fewest_late" "fewest_late" (defArgs s_fewest_late) (defBody s_fewest_late) (defScope s_fewest_late) .none kV12 dc12 pm12 an12 cd12 ct12), sl12⟩) (c12 : PySem.W.codeIn (K w.params) cd12 "fewest_late" = true) (k12 : PySem.W.keepIn (K w.params) (.ref f12) = true)
    {od13 an13 : Option Addr} {sl13 : Array (Option Value)} {oc13 kV13 dc13 pm13 cd13 ct13 : Value}
    (a13 : PySem.W.nsIn (K w.params) mainGlobals "_law_told_way" = some (some (.ref f13))) (l13 : (K w.params).lookup f13 = some ⟨oc13, od13, .func (PySem.W.fnOf "_law_told_way" "_law_told_way" (defArgs s__law_told_way) (defBody s__law_told_way) (defScope s__law_told_way) .none kV13 dc13 pm13 an13 cd13 ct13), sl13⟩) (c13 : PySem.W.codeIn (K w.params) cd13 "_law_told_way" = true) (k13 : PySem.W.keepIn (K w.params) (.ref f13) = true)
    {od14 an14 : Option Addr} {sl14 : Array (Option Value)} {oc14 kV14 dc14 pm14 cd14 ct14 : Value}
    (a14 : PySem.W.nsIn (K w.params) mainGlobals "in_time" = some (some (.ref f14))) (l14 : (K w.params).lookup f14 = some ⟨oc14, od14, .func (PySem.W.fnOf "in_time" "in_time" (defArgs s_in_time) (defBody s_in_time) (defScope s_in_time) .none kV14 dc14 pm14 an14 cd14 ct14), sl14⟩) (c14 : PySem.W.codeIn (K w.params) cd14 "in_time" = true) (k14 : PySem.W.keepIn (K w.params) (.ref f14) = true)
    {od15 an15 : Option Addr} {sl15 : Array (Option Value)} {oc15 kV15 dc15 pm15 cd15 ct15 : Value}
    (a15 : PySem.W.nsIn (K w.params) mainGlobals "_law_some" = some (some (.ref f15))) (l15 : (K w.params).lookup f15 = some ⟨oc15, od15, .func (PySem.W.fnOf "_law_some" "_law_some" (defArgs s__law_some) (defBody s__law_some) (defScope s__law_some) .none kV15 dc15 pm15 an15 cd15 ct15), sl15⟩) (c15 : PySem.W.codeIn (K w.params) cd15 "_law_some" = true) (k15 : PySem.W.keepIn (K w.params) (.ref f15) = true)
    {od16 an16 : Option Addr} {sl16 : Array (Option Value)} {oc16 kV16 dc16 pm16 cd16 ct16 : Value}
    (a16 : PySem.W.nsIn (K w.params) mainGlobals "_law_in_time" = some (some (.ref f16))) (l16 : (K w.params).lookup f16 = some ⟨oc16, od16, .func (PySem.W.fnOf "_law_in_time" "_law_in_time" (defArgs s__law_in_time) (defBody s__law_in_time) (defScope s__law_in_time) .none kV16 dc16 pm16 an16 cd16 ct16), sl16⟩) (c16 : PySem.W.codeIn (K w.params) cd16 "_law_in_time" = true) (k16 : PySem.W.keepIn (K w.params) (.ref f16) = true)
    {od17 an17 : Option Addr} {sl17 : Array (Option Value)} {oc17 kV17 dc17 pm17 cd17 ct17 : Value}
    (a17 : PySem.W.nsIn (K w.params) mainGlobals "check_orders" = some (some (.ref f17))) (l17 : (K w.params).lookup f17 = some ⟨oc17, od17, .func (PySem.W.fnOf "check_orders" "check_orders" (defArgs s_check_orders) (defBody s_check_orders) (defScope s_check_orders) .none kV17 dc17 pm17 an17 cd17 ct17), sl17⟩) (c17 : PySem.W.codeIn (K w.params) cd17 "check_orders" = true) (k17 : PySem.W.keepIn (K w.params) (.ref f17) = true)
    {od18 an18 : Option Addr} {sl18 : Array (Option Value)} {oc18 kV18 dc18 pm18 cd18 ct18 : Value}
    (a18 : PySem.W.nsIn (K w.params) mainGlobals "worked" = some (some (.ref f18))) (l18 : (K w.params).lookup f18 = some ⟨oc18, od18, .func (PySem.W.fnOf "worked" "worked" (defArgs s_worked) (defBody s_worked) (defScope s_worked) .none kV18 dc18 pm18 an18 cd18 ct18), sl18⟩) (c18 : PySem.W.codeIn (K w.params) cd18 "worked" = true) (k18 : PySem.W.keepIn (K w.params) (.ref f18) = true)
    {od19 an19 : Option Addr} {sl19 : Array (Option Value)} {oc19 kV19 dc19 pm19 cd19 ct19 : Value}
    (a19 : PySem.W.nsIn (K w.params) mainGlobals "asked_in" = some (some (.ref f19))) (l19 : (K w.params).lookup f19 = some ⟨oc19, od19, .func (PySem.W.fnOf "asked_in" "asked_in" (defArgs s_asked_in) (defBody s_asked_in) (defScope s_asked_in) .none kV19 dc19 pm19 an19 cd19 ct19), sl19⟩) (c19 : PySem.W.codeIn (K w.params) cd19 "asked_in" = true) (k19 : PySem.W.keepIn (K w.params) (.ref f19) = true)
    {od20 an20 : Option Addr} {sl20 : Array (Option Value)} {oc20 kV20 dc20 pm20 cd20 ct20 : Value}
    (a20 : PySem.W.nsIn (K w.params) mainGlobals "asks_too_much" = some (some (.ref f20))) (l20 : (K w.params).lookup f20 = some ⟨oc20, od20, .func (PySem.W.fnOf "asks_too_much" "asks_too_much" (defArgs s_asks_too_much) (defBody s_asks_too_much) (defScope s_asks_too_much) .none kV20 dc20 pm20 an20 cd20 ct20), sl20⟩) (c20 : PySem.W.codeIn (K w.params) cd20 "asks_too_much" = true) (k20 : PySem.W.keepIn (K w.params) (.ref f20) = true)
    {od21 an21 : Option Addr} {sl21 : Array (Option Value)} {oc21 kV21 dc21 pm21 cd21 ct21 : Value}
    (a21 : PySem.W.nsIn (K w.params) mainGlobals "kept" = some (some (.ref f21))) (l21 : (K w.params).lookup f21 = some ⟨oc21, od21, .func (PySem.W.fnOf "kept" "kept" (defArgs s_kept) (defBody s_kept) (defScope s_kept) .none kV21 dc21 pm21 an21 cd21 ct21), sl21⟩) (c21 : PySem.W.codeIn (K w.params) cd21 "kept" = true) (k21 : PySem.W.keepIn (K w.params) (.ref f21) = true)
    {od22 an22 : Option Addr} {sl22 : Array (Option Value)} {oc22 kV22 dc22 pm22 cd22 ct22 : Value}
    (a22 : PySem.W.nsIn (K w.params) mainGlobals "least_late" = some (some (.ref f22))) (l22 : (K w.params).lookup f22 = some ⟨oc22, od22, .func (PySem.W.fnOf "least_late" "least_late" (defArgs s_least_late) (defBody s_least_late) (defScope s_least_late) .none kV22 dc22 pm22 an22 cd22 ct22), sl22⟩) (c22 : PySem.W.codeIn (K w.params) cd22 "least_late" = true) (k22 : PySem.W.keepIn (K w.params) (.ref f22) = true)
    {od23 an23 : Option Addr} {sl23 : Array (Option Value)} {oc23 kV23 dc23 pm23 cd23 ct23 : Value}
    (a23 : PySem.W.nsIn (K w.params) mainGlobals "_law_is_late_right" = some (some (.ref f23))) (l23 : (K w.params).lookup f23 = some ⟨oc23, od23, .func (PySem.W.fnOf "_law_is_late_right" "_law_is_late_right" (defArgs s__law_is_late_right) (defBody s__law_is_late_right) (defScope s__law_is_late_right) .none kV23 dc23 pm23 an23 cd23 ct23), sl23⟩) (c23 : PySem.W.codeIn (K w.params) cd23 "_law_is_late_right" = true) (k23 : PySem.W.keepIn (K w.params) (.ref f23) = true)
    {od24 an24 : Option Addr} {sl24 : Array (Option Value)} {oc24 kV24 dc24 pm24 cd24 ct24 : Value}
    (a24 : PySem.W.nsIn (K w.params) mainGlobals "is_weights" = some (some (.ref f24))) (l24 : (K w.params).lookup f24 = some ⟨oc24, od24, .func (PySem.W.fnOf "is_weights" "is_weights" (defArgs s_is_weights) (defBody s_is_weights) (defScope s_is_weights) .none kV24 dc24 pm24 an24 cd24 ct24), sl24⟩) (c24 : PySem.W.codeIn (K w.params) cd24 "is_weights" = true) (k24 : PySem.W.keepIn (K w.params) (.ref f24) = true)
    {od25 an25 : Option Addr} {sl25 : Array (Option Value)} {oc25 kV25 dc25 pm25 cd25 ct25 : Value}
    (a25 : PySem.W.nsIn (K w.params) mainGlobals "is_ahead" = some (some (.ref f25))) (l25 : (K w.params).lookup f25 = some ⟨oc25, od25, .func (PySem.W.fnOf "is_ahead" "is_ahead" (defArgs s_is_ahead) (defBody s_is_ahead) (defScope s_is_ahead) .none kV25 dc25 pm25 an25 cd25 ct25), sl25⟩) (c25 : PySem.W.codeIn (K w.params) cd25 "is_ahead" = true) (k25 : PySem.W.keepIn (K w.params) (.ref f25) = true)
    {od26 an26 : Option Addr} {sl26 : Array (Option Value)} {oc26 kV26 dc26 pm26 cd26 ct26 : Value}
    (a26 : PySem.W.nsIn (K w.params) mainGlobals "wait_of" = some (some (.ref f26))) (l26 : (K w.params).lookup f26 = some ⟨oc26, od26, .func (PySem.W.fnOf "wait_of" "wait_of" (defArgs s_wait_of) (defBody s_wait_of) (defScope s_wait_of) .none kV26 dc26 pm26 an26 cd26 ct26), sl26⟩) (c26 : PySem.W.codeIn (K w.params) cd26 "wait_of" = true) (k26 : PySem.W.keepIn (K w.params) (.ref f26) = true)
    {od27 an27 : Option Addr} {sl27 : Array (Option Value)} {oc27 kV27 dc27 pm27 cd27 ct27 : Value}
    (a27 : PySem.W.nsIn (K w.params) mainGlobals "least_wait" = some (some (.ref f27))) (l27 : (K w.params).lookup f27 = some ⟨oc27, od27, .func (PySem.W.fnOf "least_wait" "least_wait" (defArgs s_least_wait) (defBody s_least_wait) (defScope s_least_wait) .none kV27 dc27 pm27 an27 cd27 ct27), sl27⟩) (c27 : PySem.W.codeIn (K w.params) cd27 "least_wait" = true) (k27 : PySem.W.keepIn (K w.params) (.ref f27) = true)
    {od28 an28 : Option Addr} {sl28 : Array (Option Value)} {oc28 kV28 dc28 pm28 cd28 ct28 : Value}
    (a28 : PySem.W.nsIn (K w.params) mainGlobals "_law_wait" = some (some (.ref f28))) (l28 : (K w.params).lookup f28 = some ⟨oc28, od28, .func (PySem.W.fnOf "_law_wait" "_law_wait" (defArgs s__law_wait) (defBody s__law_wait) (defScope s__law_wait) .none kV28 dc28 pm28 an28 cd28 ct28), sl28⟩) (c28 : PySem.W.codeIn (K w.params) cd28 "_law_wait" = true) (k28 : PySem.W.keepIn (K w.params) (.ref f28) = true)
    {od29 an29 : Option Addr} {sl29 : Array (Option Value)} {oc29 kV29 dc29 pm29 cd29 ct29 : Value}
    (a29 : PySem.W.nsIn (K w.params) mainGlobals "_law_is_wait_right" = some (some (.ref f29))) (l29 : (K w.params).lookup f29 = some ⟨oc29, od29, .func (PySem.W.fnOf "_law_is_wait_right" "_law_is_wait_right" (defArgs s__law_is_wait_right) (defBody s__law_is_wait_right) (defScope s__law_is_wait_right) .none kV29 dc29 pm29 an29 cd29 ct29), sl29⟩) (c29 : PySem.W.codeIn (K w.params) cd29 "_law_is_wait_right" = true) (k29 : PySem.W.keepIn (K w.params) (.ref f29) = true)
    {od30 an30 : Option Addr} {sl30 : Array (Option Value)} {oc30 kV30 dc30 pm30 cd30 ct30 : Value}
    (a30 : PySem.W.nsIn (K w.params) mainGlobals "_law_right" = some (some (.ref f30))) (l30 : (K w.params).lookup f30 = some ⟨oc30, od30, .func (PySem.W.fnOf "_law_right" "_law_right" (defArgs s__law_right) (defBody s__law_right) (defScope s__law_right) .none kV30 dc30 pm30 an30 cd30 ct30), sl30⟩) (c30 : PySem.W.codeIn (K w.params) cd30 "_law_right" = true) (k30 : PySem.W.keepIn (K w.params) (.ref f30) = true)
    {od31 an31 : Option Addr} {sl31 : Array (Option Value)} {oc31 kV31 dc31 pm31 cd31 ct31 : Value}
    (a31 : PySem.W.nsIn (K w.params) mainGlobals "law" = some (some (.ref f31))) (l31 : (K w.params).lookup f31 = some ⟨oc31, od31, .func (PySem.W.fnOf "law" "law" (defArgs s_law) (defBody s_law) (defScope s_law) .none kV31 dc31 pm31 an31 cd31 ct31), sl31⟩) (c31 : PySem.W.codeIn (K w.params) cd31 "law" = true) (k31 : PySem.W.keepIn (K w.params) (.ref f31) = true)
    (b_list : PySem.W.nsIn (K w.params) mainGlobals "list" = some none)
    (b_range : PySem.W.nsIn (K w.params) mainGlobals "range" = some none)
    (b_max : PySem.W.nsIn (K w.params) mainGlobals "max" = some none)
    (b_min : PySem.W.nsIn (K w.params) mainGlobals "min" = some none)
    (b_len : PySem.W.nsIn (K w.params) mainGlobals "len" = some none)
    (b_sum : PySem.W.nsIn (K w.params) mainGlobals "sum" = some none)
    (b_int : PySem.W.nsIn (K w.params) mainGlobals "int" = some none)
    (b_abs : PySem.W.nsIn (K w.params) mainGlobals "abs" = some none)
    (b_tuple : PySem.W.nsIn (K w.params) mainGlobals "tuple" = some none)
    (b_sorted : PySem.W.nsIn (K w.params) mainGlobals "sorted" = some none)
    (b_enumerate : PySem.W.nsIn (K w.params) mainGlobals "enumerate" = some none)
    (b_isinstance : PySem.W.nsIn (K w.params) mainGlobals "isinstance" = some none)
    (b_bool : PySem.W.nsIn (K w.params) mainGlobals "bool" = some none)
    (b_all : PySem.W.nsIn (K w.params) mainGlobals "all" = some none)
    (b_set : PySem.W.nsIn (K w.params) mainGlobals "set" = some none)
    (b_any : PySem.W.nsIn (K w.params) mainGlobals "any" = some none)
    (b_zip : PySem.W.nsIn (K w.params) mainGlobals "zip" = some none)
    (b_repr : PySem.W.nsIn (K w.params) mainGlobals "repr" = some none)
    {tk_MOST_ORDERS : Tok} (c_MOST_ORDERS : PySem.W.nsIn (K w.params) mainGlobals "MOST_ORDERS" = some (some (.int 20 tk_MOST_ORDERS)))
    {tk_TRIPLE : Tok} (c_TRIPLE : PySem.W.nsIn (K w.params) mainGlobals "TRIPLE" = some (some (.int 3 tk_TRIPLE)))
    {tk_MOST_MINUTE : Tok} (c_MOST_MINUTE : PySem.W.nsIn (K w.params) mainGlobals "MOST_MINUTE" = some (some (.int 1000000 tk_MOST_MINUTE)))
    {tk_PAIR : Tok} (c_PAIR : PySem.W.nsIn (K w.params) mainGlobals "PAIR" = some (some (.int 2 tk_PAIR)))
    {tk_KEPT : Tok} (c_KEPT : PySem.W.nsIn (K w.params) mainGlobals "KEPT" = some (some (.str "kept" tk_KEPT)))
    {tk_SPAN : Tok} (c_SPAN : PySem.W.nsIn (K w.params) mainGlobals "SPAN" = some (some (.str "span" tk_SPAN)))
    {tk_MOST_WEIGHT : Tok} (c_MOST_WEIGHT : PySem.W.nsIn (K w.params) mainGlobals "MOST_WEIGHT" = some (some (.int 1000 tk_MOST_WEIGHT))) :
    ∃ fd : FuncData, (∀ (s : Shared) (v : Value), BindsTo s fd ⟨[v], []⟩ [("script", v)]) ∧ ∀ base : Heap, (K w.params).In base → base.Ns mainGlobals mg → LamB (K w.params) mg base → FnG l.prog w (K w.params) mg base 8 fa fd ["script"] (toSp (K w.params) lawSp) := by
  have e := hfa.symm.trans (PySem.W.mg_of X G a31)
  cases e
  have T : Txt mg := ⟨PySem.W.mg_none_of X G b_list, PySem.W.mg_none_of X G b_range, PySem.W.mg_none_of X G b_max, PySem.W.mg_none_of X G b_min, PySem.W.mg_none_of X G b_len, PySem.W.mg_none_of X G b_sum, PySem.W.mg_none_of X G b_int, PySem.W.mg_none_of X G b_abs, PySem.W.mg_none_of X G b_tuple, PySem.W.mg_none_of X G b_sorted, PySem.W.mg_none_of X G b_enumerate, PySem.W.mg_none_of X G b_isinstance, PySem.W.mg_none_of X G b_bool, PySem.W.mg_none_of X G b_all, PySem.W.mg_none_of X G b_set, PySem.W.mg_none_of X G b_any, PySem.W.mg_none_of X G b_zip, PySem.W.mg_none_of X G b_repr, ⟨_, PySem.W.mg_of X G c_MOST_ORDERS⟩, ⟨_, PySem.W.mg_of X G c_TRIPLE⟩, ⟨_, PySem.W.mg_of X G c_MOST_MINUTE⟩, ⟨_, PySem.W.mg_of X G c_PAIR⟩, ⟨_, PySem.W.mg_of X G c_KEPT⟩, ⟨_, PySem.W.mg_of X G c_SPAN⟩, ⟨_, PySem.W.mg_of X G c_MOST_WEIGHT⟩⟩
  have F1 := fun_mk (st := s__law_places) l1 c1 k1
  have B1 := F1.binds (ps := ["script", "most"]) fun _ _ _ _ _ _ us hl => match us, hl with | [_, _], _ => rfl
  have F2 := fun_mk (st := s__law_pot) l2 c2 k2
  have B2 := F2.binds (ps := ["script", "place"]) fun _ _ _ _ _ _ us hl => match us, hl with | [_, _], _ => rfl
  have F3 := fun_mk (st := s__law_take) l3 c3 k3
  have B3 := F3.binds (ps := ["pot", "upto"]) fun _ _ _ _ _ _ us hl => match us, hl with | [_, _], _ => rfl
  have F4 := fun_mk (st := s__law_of) l4 c4 k4
  have B4 := F4.binds (ps := ["pot", "some"]) fun _ _ _ _ _ _ us hl => match us, hl with | [_, _], _ => rfl
  have F5 := fun_mk (st := s__law_orders) l5 c5 k5
  have B5 := F5.binds (ps := ["pot"]) fun _ _ _ _ _ _ us hl => match us, hl with | [_], _ => rfl
  have F6 := fun_mk (st := s__law_most_in_time) l6 c6 k6
  have B6 := F6.binds (ps := ["orders"]) fun _ _ _ _ _ _ us hl => match us, hl with | [_], _ => rfl
  have F7 := fun_mk (st := s_is_tuple) l7 c7 k7
  have B7 := F7.binds (ps := ["value", "least", "most"]) fun _ _ _ _ _ _ us hl => match us, hl with | [_, _, _], _ => rfl
  have F8 := fun_mk (st := s_is_whole) l8 c8 k8
  have B8 := F8.binds (ps := ["value"]) fun _ _ _ _ _ _ us hl => match us, hl with | [_], _ => rfl
  have F9 := fun_mk (st := s_is_integer) l9 c9 k9
  have B9 := F9.binds (ps := ["value", "low", "high"]) fun _ _ _ _ _ _ us hl => match us, hl with | [_, _, _], _ => rfl
  have F10 := fun_mk (st := s_is_orders) l10 c10 k10
  have B10 := F10.binds (ps := ["value"]) fun _ _ _ _ _ _ us hl => match us, hl with | [_], _ => rfl
  have F11 := fun_mk (st := s_is_ready) l11 c11 k11
  have B11 := F11.binds (ps := ["value"]) fun _ _ _ _ _ _ us hl => match us, hl with | [_], _ => rfl
  have F12 := fun_mk (st := s_fewest_late) l12 c12 k12
  have B12 := F12.binds (ps := ["orders"]) fun _ _ _ _ _ _ us hl => match us, hl with | [_], _ => rfl
  have F13 := fun_mk (st := s__law_told_way) l13 c13 k13
  have B13 := F13.binds (ps := ["orders"]) fun _ _ _ _ _ _ us hl => match us, hl with | [_], _ => rfl
  have F14 := fun_mk (st := s_in_time) l14 c14 k14
  have B14 := F14.binds (ps := ["orders", "sequence"]) fun _ _ _ _ _ _ us hl => match us, hl with | [_, _], _ => rfl
  have F15 := fun_mk (st := s__law_some) l15 c15 k15
  have B15 := F15.binds (ps := ["pot", "pool", "many"]) fun _ _ _ _ _ _ us hl => match us, hl with | [_, _, _], _ => rfl
  have F16 := fun_mk (st := s__law_in_time) l16 c16 k16
  have B16 := F16.binds (ps := ["orders", "line"]) fun _ _ _ _ _ _ us hl => match us, hl with | [_, _], _ => rfl
  have F17 := fun_mk (st := s_check_orders) l17 c17 k17
  have B17 := F17.binds (ps := ["value"]) fun _ _ _ _ _ _ us hl => match us, hl with | [_], _ => rfl
  have F18 := fun_mk (st := s_worked) l18 c18 k18
  have B18 := F18.binds (ps := ["orders", "dues"]) fun _ _ _ _ _ _ us hl => match us, hl with | [_, _], _ => rfl
  have F19 := fun_mk (st := s_asked_in) l19 c19 k19
  have B19 := F19.binds (ps := ["orders", "dues", "span"]) fun _ _ _ _ _ _ us hl => match us, hl with | [_, _, _], _ => rfl
  have F20 := fun_mk (st := s_asks_too_much) l20 c20 k20
  have B20 := F20.binds (ps := ["orders", "dues"]) fun _ _ _ _ _ _ us hl => match us, hl with | [_, _], _ => rfl
  have F21 := fun_mk (st := s_kept) l21 c21 k21
  have B21 := F21.binds (ps := ["orders"]) fun _ _ _ _ _ _ us hl => match us, hl with | [_], _ => rfl
  have F22 := fun_mk (st := s_least_late) l22 c22 k22
  have B22 := F22.binds (ps := ["orders"]) fun _ _ _ _ _ _ us hl => match us, hl with | [_], _ => rfl
  have F23 := fun_mk (st := s__law_is_late_right) l23 c23 k23
  have B23 := F23.binds (ps := ["pot", "orders"]) fun _ _ _ _ _ _ us hl => match us, hl with | [_, _], _ => rfl
  have F24 := fun_mk (st := s_is_weights) l24 c24 k24
  have B24 := F24.binds (ps := ["orders", "value"]) fun _ _ _ _ _ _ us hl => match us, hl with | [_, _], _ => rfl
  have F25 := fun_mk (st := s_is_ahead) l25 c25 k25
  have B25 := F25.binds (ps := ["orders", "weights", "one", "other"]) fun _ _ _ _ _ _ us hl => match us, hl with | [_, _, _, _], _ => rfl
  have F26 := fun_mk (st := s_wait_of) l26 c26 k26
  have B26 := F26.binds (ps := ["orders", "weights", "sequence"]) fun _ _ _ _ _ _ us hl => match us, hl with | [_, _, _], _ => rfl
  have F27 := fun_mk (st := s_least_wait) l27 c27 k27
  have B27 := F27.binds (ps := ["orders", "weights"]) fun _ _ _ _ _ _ us hl => match us, hl with | [_, _], _ => rfl
  have F28 := fun_mk (st := s__law_wait) l28 c28 k28
  have B28 := F28.binds (ps := ["orders", "weights", "line"]) fun _ _ _ _ _ _ us hl => match us, hl with | [_, _, _], _ => rfl
  have F29 := fun_mk (st := s__law_is_wait_right) l29 c29 k29
  have B29 := F29.binds (ps := ["pot", "orders"]) fun _ _ _ _ _ _ us hl => match us, hl with | [_, _], _ => rfl
  have F30 := fun_mk (st := s__law_right) l30 c30 k30
  have B30 := F30.binds (ps := ["pot"]) fun _ _ _ _ _ _ us hl => match us, hl with | [_], _ => rfl
  have F31 := fun_mk (st := s_law) l31 c31 k31
  refine ⟨PySem.W.fnOf "law" "law" (defArgs s_law) (defBody s_law) (defScope s_law) .none kV31 dc31 pm31 an31 cd31 ct31, fun s v => .of_eq rfl, fun base KX0 GX0 LB => ?_⟩
  have C__law_places : CalG l.prog w (K w.params) mg base 1 "_law_places" sp__law_places := cal_mk F1 (PySem.W.mg_of X G a1) (g__law_places T  F1) B1
  have C__law_pot : CalG l.prog w (K w.params) mg base 1 "_law_pot" sp__law_pot := cal_mk F2 (PySem.W.mg_of X G a2) (g__law_pot T  F2) B2
  have C__law_take : CalG l.prog w (K w.params) mg base 1 "_law_take" sp__law_take := cal_mk F3 (PySem.W.mg_of X G a3) (g__law_take T  F3) B3
  have C__law_of : CalG l.prog w (K w.params) mg base 2 "_law_of" sp__law_of := cal_mk F4 (PySem.W.mg_of X G a4) (g__law_of T C__law_take F4) B4
  have C__law_orders : CalG l.prog w (K w.params) mg base 3 "_law_orders" sp__law_orders := cal_mk F5 (PySem.W.mg_of X G a5) (g__law_orders T C__law_of C__law_take F5) B5
  have C__law_most_in_time : CalG l.prog w (K w.params) mg base 1 "_law_most_in_time" sp__law_most_in_time := cal_mk F6 (PySem.W.mg_of X G a6) (g__law_most_in_time T  F6 (lamAt_mk F6 a6 (by decide) (by decide) lk LB)) B6
  have C_is_tuple : CalG l.prog w (K w.params) mg base 1 "is_tuple" sp_is_tuple := cal_mk F7 (PySem.W.mg_of X G a7) (g_is_tuple T  F7) B7
  have C_is_whole : CalG l.prog w (K w.params) mg base 1 "is_whole" sp_is_whole := cal_mk F8 (PySem.W.mg_of X G a8) (g_is_whole T  F8) B8
  have C_is_integer : CalG l.prog w (K w.params) mg base 2 "is_integer" sp_is_integer := cal_mk F9 (PySem.W.mg_of X G a9) (g_is_integer T C_is_whole F9) B9
  have C_is_orders : CalG l.prog w (K w.params) mg base 3 "is_orders" sp_is_orders := cal_mk F10 (PySem.W.mg_of X G a10) (g_is_orders T C_is_tuple C_is_integer F10) B10
  have C_is_ready : CalG l.prog w (K w.params) mg base 4 "is_ready" sp_is_ready := cal_mk F11 (PySem.W.mg_of X G a11) (g_is_ready T C_is_orders F11) B11
  have C_fewest_late : CalG l.prog w (K w.params) mg base 5 "fewest_late" sp_fewest_late := cal_mk F12 (PySem.W.mg_of X G a12) (g_fewest_late T C_is_ready F12) B12
  have C__law_told_way : CalG l.prog w (K w.params) mg base 1 "_law_told_way" sp__law_told_way := cal_mk F13 (PySem.W.mg_of X G a13) (g__law_told_way T  F13) B13
  have C_in_time : CalG l.prog w (K w.params) mg base 5 "in_time" sp_in_time := cal_mk F14 (PySem.W.mg_of X G a14) (g_in_time T C_is_ready C_is_integer F14) B14
  have C__law_some : CalG l.prog w (K w.params) mg base 2 "_law_some" sp__law_some := cal_mk F15 (PySem.W.mg_of X G a15) (g__law_some T C__law_take F15) B15
  have C__law_in_time : CalG l.prog w (K w.params) mg base 1 "_law_in_time" sp__law_in_time := cal_mk F16 (PySem.W.mg_of X G a16) (g__law_in_time T  F16) B16
  have C_check_orders : CalG l.prog w (K w.params) mg base 4 "check_orders" sp_check_orders := cal_mk F17 (PySem.W.mg_of X G a17) (g_check_orders T C_is_orders F17) B17
  have C_worked : CalG l.prog w (K w.params) mg base 1 "worked" sp_worked := cal_mk F18 (PySem.W.mg_of X G a18) (g_worked T  F18) B18
  have C_asked_in : CalG l.prog w (K w.params) mg base 1 "asked_in" sp_asked_in := cal_mk F19 (PySem.W.mg_of X G a19) (g_asked_in T  F19) B19
  have C_asks_too_much : CalG l.prog w (K w.params) mg base 2 "asks_too_much" sp_asks_too_much := cal_mk F20 (PySem.W.mg_of X G a20) (g_asks_too_much T C_asked_in F20) B20
  have C_kept : CalG l.prog w (K w.params) mg base 5 "kept" sp_kept := cal_mk F21 (PySem.W.mg_of X G a21) (g_kept T C_check_orders C_worked C_asks_too_much F21) B21
  have C_least_late : CalG l.prog w (K w.params) mg base 5 "least_late" sp_least_late := cal_mk F22 (PySem.W.mg_of X G a22) (g_least_late T C_check_orders C_worked C_asks_too_much F22) B22
  have C__law_is_late_right : CalG l.prog w (K w.params) mg base 6 "_law_is_late_right" sp__law_is_late_right := cal_mk F23 (PySem.W.mg_of X G a23) (g__law_is_late_right T C__law_most_in_time C_fewest_late C__law_told_way C_in_time C__law_some C__law_take C__law_in_time C_kept C_least_late F23) B23
  have C_is_weights : CalG l.prog w (K w.params) mg base 3 "is_weights" sp_is_weights := cal_mk F24 (PySem.W.mg_of X G a24) (g_is_weights T C_is_tuple C_is_integer F24) B24
  have C_is_ahead : CalG l.prog w (K w.params) mg base 1 "is_ahead" sp_is_ahead := cal_mk F25 (PySem.W.mg_of X G a25) (g_is_ahead T  F25) B25
  have C_wait_of : CalG l.prog w (K w.params) mg base 1 "wait_of" sp_wait_of := cal_mk F26 (PySem.W.mg_of X G a26) (g_wait_of T  F26) B26
  have C_least_wait : CalG l.prog w (K w.params) mg base 5 "least_wait" sp_least_wait := cal_mk F27 (PySem.W.mg_of X G a27) (g_least_wait T C_is_ready C_is_weights C_is_ahead C_wait_of F27) B27
  have C__law_wait : CalG l.prog w (K w.params) mg base 1 "_law_wait" sp__law_wait := cal_mk F28 (PySem.W.mg_of X G a28) (g__law_wait T  F28) B28
  have C__law_is_wait_right : CalG l.prog w (K w.params) mg base 6 "_law_is_wait_right" sp__law_is_wait_right := cal_mk F29 (PySem.W.mg_of X G a29) (g__law_is_wait_right T C__law_of C__law_take C_least_wait C__law_wait C__law_some F29) B29
  have C__law_right : CalG l.prog w (K w.params) mg base 7 "_law_right" sp__law_right := cal_mk F30 (PySem.W.mg_of X G a30) (g__law_right T C__law_orders C__law_is_late_right C__law_is_wait_right F30) B30
  exact g_law T C__law_places C__law_pot C__law_right F31
end K23
open PySem PySem.W PyProof.Rows in
set_option maxRecDepth 100000 in
set_option maxHeartbeats 0 in
theorem PySem.Challenge.cw_everypiecesound_k23_whole_orders_weighed_holds : PySem.Challenge.rw_everypiecesound_k23_whole_orders_weighed.Holds := by
  w_on; o_law; k_head; (case hw => w_witness2)
  k_fill
  refine DL.law_walk (l := PySem.Challenge.rw_everypiecesound_k23_whole_orders_weighed) (k := 8) (x := "script") rfl rfl ⟨rfl, by decide, by decide⟩ (fun w h Y => PySem.W.km_in_of Y) ?hlam ?F
  case hlam => exact fun ps => by kernel_rfl
  case F =>
    intro w mg fa h KX G hmg
    refine' K23.all_mk (l := PySem.Challenge.rw_everypiecesound_k23_whole_orders_weighed) (q := PySem.Challenge.pw_everypiecesound_k23_whole_orders_weighed) KX G hmg (by kernel_rfl) ?a1 ?l1 ?c1 ?k1 ?a2 ?l2 ?c2 ?k2 ?a3 ?l3 ?c3 ?k3 ?a4 ?l4 ?c4 ?k4 ?a5 ?l5 ?c5 ?k5 ?a6 ?l6 ?c6 ?k6 ?a7 ?l7 ?c7 ?k7 ?a8 ?l8 ?c8 ?k8 ?a9 ?l9 ?c9 ?k9 ?a10 ?l10 ?c10 ?k10 ?a11 ?l11 ?c11 ?k11 ?a12 ?l12 ?c12 ?k12 ?a13 ?l13 ?c13 ?k13 ?a14 ?l14 ?c14 ?k14 ?a15 ?l15 ?c15 ?k15 ?a16 ?l16 ?c16 ?k16 ?a17 ?l17 ?c17 ?k17 ?a18 ?l18 ?c18 ?k18 ?a19 ?l19 ?c19 ?k19 ?a20 ?l20 ?c20 ?k20 ?a21 ?l21 ?c21 ?k21 ?a22 ?l22 ?c22 ?k22 ?a23 ?l23 ?c23 ?k23 ?a24 ?l24 ?c24 ?k24 ?a25 ?l25 ?c25 ?k25 ?a26 ?l26 ?c26 ?k26 ?a27 ?l27 ?c27 ?k27 ?a28 ?l28 ?c28 ?k28 ?a29 ?l29 ?c29 ?k29 ?a30 ?l30 ?c30 ?k30 ?a31 ?l31 ?c31 ?k31 ?b_list ?b_range ?b_max ?b_min ?b_len ?b_sum ?b_int ?b_abs ?b_tuple ?b_sorted ?b_enumerate ?b_isinstance ?b_bool ?b_all ?b_set ?b_any ?b_zip ?b_repr ?c_MOST_ORDERS ?c_TRIPLE ?c_MOST_MINUTE ?c_PAIR ?c_KEPT ?c_SPAN ?c_MOST_WEIGHT
    (case a1 => k_is)
    (case l1 => k_is)
    (case c1 => k_is)
    (case k1 => k_is)
    (case a2 => k_is)
    (case l2 => k_is)
    (case c2 => k_is)
    (case k2 => k_is)
    (case a3 => k_is)
    (case l3 => k_is)
    (case c3 => k_is)
    (case k3 => k_is)
    (case a4 => k_is)
    (case l4 => k_is)
    (case c4 => k_is)
    (case k4 => k_is)
    (case a5 => k_is)
    (case l5 => k_is)
    (case c5 => k_is)
    (case k5 => k_is)
    (case a6 => k_is)
    (case l6 => k_is)
    (case c6 => k_is)
    (case k6 => k_is)
    (case a7 => k_is)
    (case l7 => k_is)
    (case c7 => k_is)
    (case k7 => k_is)
    (case a8 => k_is)
    (case l8 => k_is)
    (case c8 => k_is)
    (case k8 => k_is)
    (case a9 => k_is)
    (case l9 => k_is)
    (case c9 => k_is)
    (case k9 => k_is)
    (case a10 => k_is)
    (case l10 => k_is)
    (case c10 => k_is)
    (case k10 => k_is)
    (case a11 => k_is)
    (case l11 => k_is)
    (case c11 => k_is)
    (case k11 => k_is)
    (case a12 => k_is)
    (case l12 => k_is)
    (case c12 => k_is)
    (case k12 => k_is)
    (case a13 => k_is)
    (case l13 => k_is)
    (case c13 => k_is)
    (case k13 => k_is)
    (case a14 => k_is)
    (case l14 => k_is)
    (case c14 => k_is)
    (case k14 => k_is)
    (case a15 => k_is)
    (case l15 => k_is)
    (case c15 => k_is)
    (case k15 => k_is)
    (case a16 => k_is)
    (case l16 => k_is)
    (case c16 => k_is)
    (case k16 => k_is)
    (case a17 => k_is)
    (case l17 => k_is)
    (case c17 => k_is)
    (case k17 => k_is)
    (case a18 => k_is)
    (case l18 => k_is)
    (case c18 => k_is)
    (case k18 => k_is)
    (case a19 => k_is)
    (case l19 => k_is)
    (case c19 => k_is)
    (case k19 => k_is)
    (case a20 => k_is)
    (case l20 => k_is)
    (case c20 => k_is)
    (case k20 => k_is)
    (case a21 => k_is)
    (case l21 => k_is)
    (case c21 => k_is)
    (case k21 => k_is)
    (case a22 => k_is)
    (case l22 => k_is)
    (case c22 => k_is)
    (case k22 => k_is)
    (case a23 => k_is)
    (case l23 => k_is)
    (case c23 => k_is)
    (case k23 => k_is)
    (case a24 => k_is)
    (case l24 => k_is)
    (case c24 => k_is)
    (case k24 => k_is)
    (case a25 => k_is)
    (case l25 => k_is)
    (case c25 => k_is)
    (case k25 => k_is)
    (case a26 => k_is)
    (case l26 => k_is)
    (case c26 => k_is)
    (case k26 => k_is)
    (case a27 => k_is)
    (case l27 => k_is)
    (case c27 => k_is)
    (case k27 => k_is)
    (case a28 => k_is)
    (case l28 => k_is)
    (case c28 => k_is)
    (case k28 => k_is)
    (case a29 => k_is)
    (case l29 => k_is)
    (case c29 => k_is)
    (case k29 => k_is)
    (case a30 => k_is)
    (case l30 => k_is)
    (case c30 => k_is)
    (case k30 => k_is)
    (case a31 => k_is)
    (case l31 => k_is)
    (case c31 => k_is)
    (case k31 => k_is)
    (case b_list => k_is)
    (case b_range => k_is)
    (case b_max => k_is)
    (case b_min => k_is)
    (case b_len => k_is)
    (case b_sum => k_is)
    (case b_int => k_is)
    (case b_abs => k_is)
    (case b_tuple => k_is)
    (case b_sorted => k_is)
    (case b_enumerate => k_is)
    (case b_isinstance => k_is)
    (case b_bool => k_is)
    (case b_all => k_is)
    (case b_set => k_is)
    (case b_any => k_is)
    (case b_zip => k_is)
    (case b_repr => k_is)
    (case c_MOST_ORDERS => k_is)
    (case c_TRIPLE => k_is)
    (case c_MOST_MINUTE => k_is)
    (case c_PAIR => k_is)
    (case c_KEPT => k_is)
    (case c_SPAN => k_is)
    (case c_MOST_WEIGHT => k_is)
#print axioms PySem.Challenge.cw_everypiecesound_k23_whole_orders_weighed_holds
